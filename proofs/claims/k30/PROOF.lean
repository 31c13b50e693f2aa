import PyProof.Rows.All
import Wide.All
import OpenK.AllK
import Wide.FinOn
import HandS.ForMost
import HandS.Exc
import HandS.ExcOwn
import HandS.TryOnly
import HandS.Wide
import HandS.IsInst
import KE.KDictKeyed
import HandS.TupAny
import HandS.TupLe
import HandS.Style
import HandS.EndBits
import HandS.HeadEnd
import HandS.WordsExc
import HandS.Defaults
import HandS.Head0
import HandS.Head1
import HandS.Head2
import HandS.HeadHook1
import HandS.HeadHook2
import HandS.Text
import HandS.Deep
import KE.SortCalls
import KE.KDictSum
import HandS.Conv
import HandS.More
import PyProof.Rows.RowHeap
import HandS.Strs
import PySem.Challenge.RW_pointsure_k30_facts_cut
set_option Elab.async false
set_option linter.all false
set_option maxRecDepth 100000
/-! A functional layer over the hand layer: values with tuples by value, a heap of mutable things by numbers, expressions and statements as functions. -/
namespace FL
open PySem PySem.Spec PyProof.Rows L2
abbrev St := L2.St

/-- a value: tuples by value, mutable things by their numbers -/
inductive MV where
  | non | bl (b : Bool) | int (i : Int) | str (x : Str) | tup (xs : List MV) | ref (n : Nat)
/-- a mutable thing: a list, a list that is read alone, a dict, an instance of a class -/
inductive MO where
  | lst (xs : List MV) | cst (xs : List MV) | dct (kvs : List (MV × MV)) | ins (c : Str) (fs : List (Str × MV))
abbrev MH := List MO
abbrev Rho := List (Option MV)
/-- what an expression comes to -/
inductive Res (α : Type) where
  | ok (a : α) (M : MH) | ex (c : Str) (fs : List (Str × MV)) (M : MH) | stuck
def Res.bind {α β : Type} (r : Res α) (k : α → MH → Res β) : Res β := match r with
  | .ok a M => k a M
  | .ex c fs M => .ex c fs M
  | .stuck => .stuck
/-- what a statement comes to -/
inductive RSt where
  | next (ρ : Rho) (M : MH) | ret (v : MV) (M : MH) | brk (ρ : Rho) (M : MH) | cnt (ρ : Rho) (M : MH) | ex (c : Str) (fs : List (Str × MV)) (ρ : Rho) (M : MH) | stuck
abbrev FE := Rho → MH → Res MV
abbrev FT := Rho → MH → Res Bool
abbrev FA := Rho → MH → Res (List MV)
abbrev FS := Rho → MH → RSt
abbrev FN := List MV → MH → Res MV
def Res.stm {α : Type} (r : Res α) (ρ : Rho) (k : α → MH → RSt) : RSt := match r with
  | .ok a M => k a M
  | .ex c fs M => .ex c fs ρ M
  | .stuck => .stuck
def RSt.seq (r : RSt) (k : Rho → MH → RSt) : RSt := match r with
  | .next ρ M => k ρ M
  | r => r

section
variable (K : PySem.W.Frag) (mg : Str → Option Value)
/-- a tuple of the written part -/
def KTup (a : Addr) (xs : List V) : Prop := ∃ (o : Obj) (its : Array Value) (n : Nat), K.lookup a = some o ∧ o.cls = .type "tuple" ∧ o.data = .seq its n ∧ its.size ≤ sizeLine ∧ Vals xs its.toList
/-- a list that is read alone: frozen, or of the written part -/
def CstAt (H : Hp) (a : Addr) (xs : List V) : Prop := (∃ o, H a = some (.frz o (.lst xs))) ∨
  ∃ (o : Obj) (its : Array Value) (n : Nat), K.lookup a = some o ∧ o.cls = .type "list" ∧ o.dict = none ∧ o.data = .seq its n ∧ its.size ≤ sizeLine ∧ Vals xs its.toList
def TupAt (H : Hp) (a : Addr) (xs : List V) : Prop := H a = some (.tup xs) ∨ KTup K a xs
mutual
def RV (π : List Addr) (H : Hp) : MV → V → Prop
  | .non, v => v = .non
  | .bl b, v => v = .bl b
  | .int i, v => v = .int i
  | .str x, v => v = .str x
  | .tup xs, v => ∃ a vs, v = .ref a ∧ TupAt K H a vs ∧ RVs π H xs vs
  | .ref n, v => ∃ a, v = .ref a ∧ π[n]? = some a
def RVs (π : List Addr) (H : Hp) : List MV → List V → Prop
  | [], vs => vs = []
  | x :: xs, vs => ∃ v ws, vs = v :: ws ∧ RV π H x v ∧ RVs π H xs ws
end
/-- names and values -/
def RFs (π : List Addr) (H : Hp) : List (Str × MV) → List (Str × V) → Prop
  | [], gs => gs = []
  | (f, x) :: fs, gs => ∃ v hs, gs = (f, v) :: hs ∧ RV K π H x v ∧ RFs π H fs hs
end

/-! ### lists of values -/
section
variable {K : PySem.W.Frag} {π π' : List Addr} {H H' : Hp}
theorem RVs.length : ∀ {xs : List MV} {vs : List V}, RVs K π H xs vs → xs.length = vs.length
  | [], _, h => by
    unfold RVs at h
    rw [h]
    rfl
  | _ :: _, _, h => by
    unfold RVs at h
    obtain ⟨v, ws, rfl, _, h2⟩ := h
    simp [RVs.length h2]
theorem RVs.get : ∀ {xs : List MV} {vs : List V} {i : Nat} {x : MV}, RVs K π H xs vs → xs[i]? = some x → ∃ v, vs[i]? = some v ∧ RV K π H x v
  | [], _, _, _, _, e => by simp at e
  | _ :: _, _, 0, _, h, e => by
    unfold RVs at h
    obtain ⟨v, ws, rfl, h1, h2⟩ := h
    simp at e
    subst e
    exact ⟨v, rfl, h1⟩
  | _ :: _, _, i + 1, x, h, e => by
    unfold RVs at h
    obtain ⟨v, ws, rfl, h1, h2⟩ := h
    obtain ⟨u, q1, q2⟩ := RVs.get (i := i) (x := x) h2 (by simpa using e)
    exact ⟨u, by simpa using q1, q2⟩
theorem RVs.nil : RVs K π H [] [] := by unfold RVs; rfl
theorem RVs.cons {x : MV} {xs : List MV} {v : V} {vs : List V} (h : RV K π H x v) (t : RVs K π H xs vs) : RVs K π H (x :: xs) (v :: vs) := by
  unfold RVs
  exact ⟨v, vs, rfl, h, t⟩
theorem RVs.uncons {x : MV} {xs : List MV} {vs : List V} (h : RVs K π H (x :: xs) vs) : ∃ v ws, vs = v :: ws ∧ RV K π H x v ∧ RVs K π H xs ws := by
  unfold RVs at h
  exact h
theorem RVs.unnil {vs : List V} (h : RVs K π H [] vs) : vs = [] := by
  unfold RVs at h
  exact h
theorem RVs.append : ∀ {xs ys : List MV} {vs ws : List V}, RVs K π H xs vs → RVs K π H ys ws → RVs K π H (xs ++ ys) (vs ++ ws)
  | [], _, _, _, h, t => by
    rw [h.unnil]
    exact t
  | _ :: _, _, _, _, h, t => by
    obtain ⟨v, us, rfl, h1, h2⟩ := h.uncons
    exact RVs.cons h1 (RVs.append h2 t)
theorem RVs.take : ∀ {xs : List MV} {vs : List V} (n : Nat), RVs K π H xs vs → RVs K π H (xs.take n) (vs.take n)
  | [], _, n, h => by
    rw [h.unnil]
    simpa using RVs.nil
  | _ :: _, _, 0, _ => by simpa using RVs.nil
  | _ :: _, _, n + 1, h => by
    obtain ⟨v, us, rfl, h1, h2⟩ := h.uncons
    exact RVs.cons h1 (RVs.take n h2)
theorem RVs.drop : ∀ {xs : List MV} {vs : List V} (n : Nat), RVs K π H xs vs → RVs K π H (xs.drop n) (vs.drop n)
  | [], _, n, h => by
    rw [h.unnil]
    simpa using RVs.nil
  | _ :: _, _, 0, h => by simpa using h
  | _ :: _, _, n + 1, h => by
    obtain ⟨v, us, rfl, h1, h2⟩ := h.uncons
    simpa using RVs.drop n h2
theorem RVs.set {y : MV} {u : V} (r : RV K π H y u) : ∀ {xs : List MV} {vs : List V} (i : Nat), RVs K π H xs vs → RVs K π H (xs.set i y) (vs.set i u)
  | [], _, i, h => by
    rw [h.unnil]
    simpa using RVs.nil
  | _ :: _, _, 0, h => by
    obtain ⟨v, us, rfl, h1, h2⟩ := h.uncons
    exact RVs.cons r h2
  | _ :: _, _, i + 1, h => by
    obtain ⟨v, us, rfl, h1, h2⟩ := h.uncons
    exact RVs.cons h1 (RVs.set r i h2)
theorem RVs.reverse : ∀ {xs : List MV} {vs : List V}, RVs K π H xs vs → RVs K π H xs.reverse vs.reverse
  | [], _, h => by
    rw [h.unnil]
    simpa using RVs.nil
  | _ :: _, _, h => by
    obtain ⟨v, us, rfl, h1, h2⟩ := h.uncons
    rw [List.reverse_cons, List.reverse_cons]
    exact RVs.append (RVs.reverse h2) (RVs.cons h1 RVs.nil)
theorem RFs.lookup : ∀ {fs : List (Str × MV)} {gs : List (Str × V)} {f : Str}, RFs K π H fs gs → (∀ x, fs.lookup f = some x → ∃ v, gs.lookup f = some v ∧ RV K π H x v) ∧ (fs.lookup f = none → gs.lookup f = none)
  | [], _, f, h => by
    unfold RFs at h
    subst h
    exact ⟨fun x e => by simp at e, fun _ => rfl⟩
  | (g, y) :: fs, _, f, h => by
    unfold RFs at h
    obtain ⟨v, hs, rfl, h1, h2⟩ := h
    have ih := RFs.lookup (f := f) h2
    rw [List.lookup_cons, List.lookup_cons]
    cases f == g with
    | true => exact ⟨fun x e => by cases e; exact ⟨v, rfl, h1⟩, fun e => by cases e⟩
    | false => exact ih
theorem RFs.length : ∀ {fs : List (Str × MV)} {gs : List (Str × V)}, RFs K π H fs gs → fs.length = gs.length
  | [], _, h => by
    unfold RFs at h
    subst h
    rfl
  | (g, y) :: fs, _, h => by
    unfold RFs at h
    obtain ⟨v, hs, rfl, h1, h2⟩ := h
    simp [RFs.length h2]

/-- the world grows: things keep their numbers, tuples stand -/
structure Ext (π : List Addr) (H : Hp) (π' : List Addr) (H' : Hp) : Prop where
  more : ∃ t, π' = π ++ t
  tups : ∀ b vs, H b = some (.tup vs) → H' b = some (.tup vs)
theorem Ext.refl : Ext π H π H := ⟨⟨[], by simp⟩, fun _ _ h => h⟩
theorem Ext.trans {π'' : List Addr} {H'' : Hp} (a : Ext π H π' H') (b : Ext π' H' π'' H'') : Ext π H π'' H'' := by
  obtain ⟨t, rfl⟩ := a.more
  obtain ⟨u, rfl⟩ := b.more
  exact ⟨⟨t ++ u, by simp⟩, fun c vs h => b.tups c vs (a.tups c vs h)⟩
theorem Ext.at {n : Nat} {a : Addr} (e : Ext π H π' H') (h : π[n]? = some a) : π'[n]? = some a := by
  obtain ⟨t, rfl⟩ := e.more
  rw [List.getElem?_append_left (List.getElem?_eq_some_iff.mp h).1]
  exact h
theorem TupAt.ext {a : Addr} {vs : List V} (e : Ext π H π' H') (h : TupAt K H a vs) : TupAt K H' a vs := h.imp (e.tups a vs) id
mutual
theorem RV.ext (e : Ext π H π' H') : ∀ {x : MV} {v : V}, RV K π H x v → RV K π' H' x v
  | .non, _, h => by unfold RV at h ⊢; exact h
  | .bl b, _, h => by unfold RV at h ⊢; exact h
  | .int i, _, h => by unfold RV at h ⊢; exact h
  | .str x, _, h => by unfold RV at h ⊢; exact h
  | .tup xs, _, h => by
    unfold RV at h ⊢
    obtain ⟨a, vs, e1, h1, h2⟩ := h
    exact ⟨a, vs, e1, h1.ext e, RVs.ext e h2⟩
  | .ref n, _, h => by
    unfold RV at h ⊢
    obtain ⟨a, e1, h1⟩ := h
    exact ⟨a, e1, e.at h1⟩
theorem RVs.ext (e : Ext π H π' H') : ∀ {xs : List MV} {vs : List V}, RVs K π H xs vs → RVs K π' H' xs vs
  | [], _, h => by unfold RVs at h ⊢; exact h
  | x :: xs, _, h => by
    unfold RVs at h ⊢
    obtain ⟨v, ws, e1, h1, h2⟩ := h
    exact ⟨v, ws, e1, RV.ext e h1, RVs.ext e h2⟩
end
theorem RFs.ext (e : Ext π H π' H') : ∀ {fs : List (Str × MV)} {gs : List (Str × V)}, RFs K π H fs gs → RFs K π' H' fs gs
  | [], _, h => by unfold RFs at h ⊢; exact h
  | (f, x) :: fs, _, h => by
    unfold RFs at h ⊢
    obtain ⟨v, hs, e1, h1, h2⟩ := h
    exact ⟨v, hs, e1, h1.ext e, RFs.ext e h2⟩

/-- an object's own place is written: its tuples stand -/
theorem Ext.write {a : Addr} {o u : HO} (h : H a = some o) (ho : ∀ vs, o ≠ .tup vs) : Ext π H π (upd H a u) :=
  ⟨⟨[], by simp⟩, fun b vs e => by rw [upd_ne (ne_of e h fun z => ho vs z.symm)]; exact e⟩
theorem Ext.new {a : Addr} {u : HO} (h : H a = none) : Ext π H π (upd H a u) := ⟨⟨[], by simp⟩, fun b vs e => by rw [upd_ne (ne_of_none e h)]; exact e⟩
theorem Ext.push {a : Addr} {u : HO} (h : H a = none) : Ext π H (π ++ [a]) (upd H a u) := ⟨⟨[a], rfl⟩, fun b vs e => by rw [upd_ne (ne_of_none e h)]; exact e⟩
end


/-! ### what stands at a thing's place -/
mutual
/-- a key of a dict: what hashes by its value -/
def keyOf : MV → Option NestedKey
  | .non => some .none
  | .int i => some (.num i)
  | .str x => some (.text x)
  | .tup xs => (keysOf xs).map .tup
  | .bl _ => none
  | .ref _ => none
def keysOf : List MV → Option (List NestedKey)
  | [] => some []
  | x :: xs => match keyOf x, keysOf xs with
    | some k, some ks => some (k :: ks)
    | _, _ => none
end
/-- a flat key -/
def flatOf : MV → Option Key
  | .int i => some (.inl i)
  | .str x => some (.inr x)
  | _ => none
/-- a dict whose keys are tuples: the keys, where their tuples stand, the values -/
def dN (P : Program) (w : World) (a : Addr) (xs : List (NestedKey × Addr × V)) : HO := .ext fun h =>
  (a == sysModules) = false ∧ xs.length ≤ sizeLine ∧ ∃ us : List (NestedKey × Addr × Value), Paired (fun (p : NestedKey × Addr × V) (q : NestedKey × Addr × Value) => p.1 = q.1 ∧ p.2.1 = q.2.1 ∧ RelV p.2.2 q.2.2) xs us ∧
    ∃ o es ep, h.get? a = some o ∧ o.ExactDict ∧ o.data = .dict es ep ∧ es.toList = us.map (entryOfKey (nestedKind P w)) ∧ (us.map (·.1)).Nodup
section
variable (P : Program) (w : World) (K : PySem.W.Frag) (mg : Str → Option Value)
/-- a dict's entries with flat keys -/
def RDk (π : List Addr) (H : Hp) : List (MV × MV) → List (Key × V) → Prop
  | [], gs => gs = []
  | (k, x) :: kvs, gs => ∃ q v hs, gs = (q, v) :: hs ∧ flatOf k = some q ∧ RV K π H x v ∧ RDk π H kvs hs
/-- a dict's entries with tuples as keys -/
def RDn (π : List Addr) (H : Hp) : List (MV × MV) → List (NestedKey × Addr × V) → Prop
  | [], gs => gs = []
  | (k, x) :: kvs, gs => ∃ q b v hs, gs = (q, b, v) :: hs ∧ keyOf k = some q ∧ q.depth ≤ 8 ∧ RV K π H k (.ref b) ∧ RV K π H x v ∧ RDn π H kvs hs
def RO (π : List Addr) (H : Hp) (a : Addr) : MO → Prop
  | .lst xs => ∃ vs, H a = some (.lst vs) ∧ RVs K π H xs vs
  | .cst xs => ∃ vs, CstAt K H a vs ∧ RVs K π H xs vs
  | .dct kvs => (∃ gs, H a = some (.dK gs) ∧ RDk K π H kvs gs) ∨ (∃ gs, kvs ≠ [] ∧ H a = some (dN P w a gs) ∧ RDn K π H kvs gs)
  | .ins c fs => ∃ C dx gs, mg c = some (.ref C) ∧ H a = some (.ins C dx gs) ∧ RFs K π H fs gs
def isC : MO → Bool
  | .cst _ => true
  | _ => false
structure RM (π : List Addr) (H : Hp) (M : MH) : Prop where
  len : π.length = M.length
  inj : ∀ (i j : Nat) (a : Addr) (o u : MO), π[i]? = some a → π[j]? = some a → M[i]? = some o → M[j]? = some u → isC o = false → isC u = false → i = j
  ob : ∀ (i : Nat) (a : Addr) (o : MO), π[i]? = some a → M[i]? = some o → RO P w K mg π H a o
/-- the slots -/
structure RS (π : List Addr) (H : Hp) (σ : St) (ρ : Rho) : Prop where
  len : σ.length = ρ.length
  at_ : ∀ (i : Nat) (x : MV), ρ[i]? = some (some x) → ∃ v, σ[i]? = some (some v) ∧ RV K π H x v
/-- an exception of a class of the program, its own fields at d -/
def RX (π : List Addr) (H : Hp) (C : Addr) (d : Option Addr) (c : Str) (fs : List (Str × MV)) : Prop :=
  mg c = some (.ref C) ∧ ((fs = [] ∧ d = none) ∨ ∃ dd gs, d = some dd ∧ H dd = some (.xd gs) ∧ RFs K π H fs gs)
end
section
variable {P : Program} {w : World} {K : PySem.W.Frag} {mg : Str → Option Value} {π π' : List Addr} {H H' : Hp}
theorem RDk.ext (e : Ext π H π' H') : ∀ {kvs : List (MV × MV)} {gs : List (Key × V)}, RDk K π H kvs gs → RDk K π' H' kvs gs
  | [], _, h => by unfold RDk at h ⊢; exact h
  | (k, x) :: kvs, _, h => by
    unfold RDk at h ⊢
    obtain ⟨q, v, hs, e1, h1, h2, h3⟩ := h
    exact ⟨q, v, hs, e1, h1, h2.ext e, RDk.ext e h3⟩
theorem RDn.ext (e : Ext π H π' H') : ∀ {kvs : List (MV × MV)} {gs : List (NestedKey × Addr × V)}, RDn K π H kvs gs → RDn K π' H' kvs gs
  | [], _, h => by unfold RDn at h ⊢; exact h
  | (k, x) :: kvs, _, h => by
    unfold RDn at h ⊢
    obtain ⟨q, b, v, hs, e1, h1, h2, h3, h4, h5⟩ := h
    exact ⟨q, b, v, hs, e1, h1, h2, h3.ext e, h4.ext e, RDn.ext e h5⟩
theorem RS.ext {σ : St} {ρ : Rho} (e : Ext π H π' H') (h : RS K π H σ ρ) : RS K π' H' σ ρ := ⟨h.len, fun i x q => by
  obtain ⟨v, h1, h2⟩ := h.at_ i x q
  exact ⟨v, h1, h2.ext e⟩⟩
theorem RS.set {σ : St} {ρ : Rho} {x : MV} {v : V} (h : RS K π H σ ρ) (i : Nat) (r : RV K π H x v) : RS K π H (σ.set i (some v)) (ρ.set i (some x)) := by
  refine ⟨by simp [h.len], fun j y q => ?_⟩
  by_cases hj : i = j
  · subst hj
    rw [List.getElem?_set] at q ⊢
    simp only [if_true] at q ⊢
    rw [h.len]
    split at q
    · rename_i hl
      cases q
      rw [if_pos hl]
      exact ⟨v, rfl, r⟩
    · cases q
  · rw [List.getElem?_set_ne hj] at q ⊢
    exact h.at_ j y q
/-- an object stays what it is while its own place is not written -/
theorem RO.ext {a : Addr} {o : MO} (e : Ext π H π' H') (ha : ∀ u, H a = some u → H' a = some u) (h : RO P w K mg π H a o) : RO P w K mg π' H' a o := by
  cases o with
  | lst xs =>
    obtain ⟨vs, h1, h2⟩ := h
    exact ⟨vs, ha _ h1, h2.ext e⟩
  | cst xs =>
    obtain ⟨vs, h1, h2⟩ := h
    refine ⟨vs, ?_, h2.ext e⟩
    rcases h1 with ⟨o, h1⟩ | h1
    · exact .inl ⟨o, ha _ h1⟩
    · exact .inr h1
  | dct kvs =>
    rcases h with ⟨gs, h1, h2⟩ | ⟨gs, h0, h1, h2⟩
    · exact .inl ⟨gs, ha _ h1, h2.ext e⟩
    · exact .inr ⟨gs, h0, ha _ h1, h2.ext e⟩
  | ins c fs =>
    obtain ⟨C, dx, gs, h0, h1, h2⟩ := h
    exact ⟨C, dx, gs, h0, ha _ h1, h2.ext e⟩
/-- what stands in the heap has a place -/
theorem RO.some {a : Addr} {o : MO} (h : RO P w K mg π H a o) (hc : isC o = false) : ∃ u, H a = some u ∧ (∀ vs, u ≠ .tup vs) ∧ ∀ o' vs, u ≠ .frz o' (.lst vs) := by
  cases o with
  | lst xs =>
    obtain ⟨vs, h1, _⟩ := h
    exact ⟨_, h1, (fun _ z => by cases z), (fun _ _ z => by cases z)⟩
  | cst xs => cases hc
  | dct kvs =>
    rcases h with ⟨gs, h1, _⟩ | ⟨gs, h0, h1, _⟩
    · exact ⟨_, h1, (fun _ z => by cases z), (fun _ _ z => by cases z)⟩
    · exact ⟨_, h1, (fun _ z => by cases z), (fun _ _ z => by cases z)⟩
  | ins c fs =>
    obtain ⟨C, dx, gs, _, h1, _⟩ := h
    exact ⟨_, h1, (fun _ z => by cases z), (fun _ _ z => by cases z)⟩
theorem RM.at_ {M : MH} {n : Nat} {a : Addr} {o : MO} (r : RM P w K mg π H M) (h : π[n]? = some a) (ho : M[n]? = some o) : RO P w K mg π H a o := r.ob n a o h ho
/-- a number has its place -/
theorem RM.place {M : MH} {n : Nat} {o : MO} (r : RM P w K mg π H M) (ho : M[n]? = some o) : ∃ a, π[n]? = some a ∧ RO P w K mg π H a o := by
  have l := (List.getElem?_eq_some_iff.mp ho).1
  rw [← r.len] at l
  exact ⟨π[n], List.getElem?_eq_getElem l, r.ob n _ o (List.getElem?_eq_getElem l) ho⟩
/-- nothing tracked is written -/
theorem RM.keep {M : MH} (r : RM P w K mg π H M) (k : ∀ b u, H b = some u → H' b = some u) : RM P w K mg π H' M :=
  ⟨r.len, r.inj, fun i a o h1 h2 => (r.ob i a o h1 h2).ext ⟨⟨[], by simp⟩, fun b vs e => k b _ e⟩ fun u e => k a u e⟩
/-- a new thing -/
theorem RM.push {M : MH} {a : Addr} {u : HO} {o : MO} (r : RM P w K mg π H M) (ha : H a = none) (ho : RO P w K mg (π ++ [a]) (upd H a u) a o) : RM P w K mg (π ++ [a]) (upd H a u) (M ++ [o]) := by
  refine ⟨by simp [r.len], fun i j b o1 o2 h1 h2 k1 k2 c1 c2 => ?_, fun i b q h1 h2 => ?_⟩
  · have li := (List.getElem?_eq_some_iff.mp h1).1
    have lj := (List.getElem?_eq_some_iff.mp h2).1
    rw [List.length_append, List.length_singleton] at li lj
    by_cases hi : i < π.length
    · rw [List.getElem?_append_left hi] at h1
      rw [List.getElem?_append_left (by rw [← r.len]; exact hi)] at k1
      by_cases hj : j < π.length
      · rw [List.getElem?_append_left hj] at h2
        rw [List.getElem?_append_left (by rw [← r.len]; exact hj)] at k2
        exact r.inj i j b o1 o2 h1 h2 k1 k2 c1 c2
      · exfalso
        obtain rfl : j = π.length := by omega
        simp at h2
        subst h2
        obtain ⟨u', q, _⟩ := (r.ob i _ o1 h1 k1).some c1
        rw [ha] at q
        cases q
    · obtain rfl : i = π.length := by omega
      simp at h1
      subst h1
      by_cases hj : j < π.length
      · exfalso
        rw [List.getElem?_append_left hj] at h2
        rw [List.getElem?_append_left (by rw [← r.len]; exact hj)] at k2
        obtain ⟨u', q, _⟩ := (r.ob j _ o2 h2 k2).some c2
        rw [ha] at q
        cases q
      · omega
  · by_cases hi : i < π.length
    · rw [List.getElem?_append_left hi] at h1
      rw [List.getElem?_append_left (by rw [← r.len]; exact hi)] at h2
      exact (r.ob i b q h1 h2).ext (Ext.push ha) fun v e => by
        rw [upd_ne (ne_of_none e ha)]
        exact e
    · have li := (List.getElem?_eq_some_iff.mp h1).1
      rw [List.length_append, List.length_singleton] at li
      obtain rfl : i = π.length := by omega
      simp at h1
      subst h1
      rw [r.len] at h2
      simp at h2
      subst h2
      exact ho
/-- a thing is written -/
theorem RM.write {M : MH} {n : Nat} {a : Addr} {v : HO} {o o' : MO} (r : RM P w K mg π H M) (hn : π[n]? = some a) (hm : M[n]? = some o') (hc : isC o' = false) (hc2 : isC o = false) (ho : RO P w K mg π (upd H a v) a o) : RM P w K mg π (upd H a v) (M.set n o) := by
  obtain ⟨u, hu, ht, hf⟩ := (r.ob n a o' hn hm).some hc
  have get : ∀ i q, (M.set n o)[i]? = some q → (i = n ∧ q = o) ∨ (i ≠ n ∧ M[i]? = some q) := fun i q e => by
    rw [List.getElem?_set] at e
    by_cases hi : n = i
    · rw [if_pos hi] at e
      split at e
      · exact .inl ⟨hi.symm, (Option.some.inj e).symm⟩
      · cases e
    · rw [if_neg hi] at e
      exact .inr ⟨fun z => hi z.symm, e⟩
  refine ⟨by simp [r.len], fun i j b o1 o2 h1 h2 k1 k2 c1 c2 => ?_, fun i b q h1 h2 => ?_⟩
  · rcases get i o1 k1 with ⟨ei, _⟩ | ⟨_, q1⟩
    · rcases get j o2 k2 with ⟨ej, _⟩ | ⟨_, q2⟩
      · rw [ei, ej]
      · rw [ei] at h1 ⊢
        exact r.inj _ _ b o' o2 h1 h2 hm q2 hc c2
    · rcases get j o2 k2 with ⟨ej, _⟩ | ⟨_, q2⟩
      · rw [ej] at h2 ⊢
        exact r.inj _ _ b o1 o' h1 h2 q1 hm c1 hc
      · exact r.inj _ _ b o1 o2 h1 h2 q1 q2 c1 c2
  · rcases get i q h2 with ⟨rfl, rfl⟩ | ⟨ni, h2⟩
    · rw [hn] at h1
      cases h1
      exact ho
    · by_cases nb : b = a
      · subst nb
        cases cq : isC q with
        | false => exact absurd (r.inj _ _ b q o' h1 hn h2 hm cq hc) ni
        | true =>
          cases q with
          | cst xs =>
            obtain ⟨vs, h3, h4⟩ := r.ob i b _ h1 h2
            refine ⟨vs, ?_, h4.ext (Ext.write hu ht)⟩
            rcases h3 with ⟨o3, h3⟩ | h3
            · rw [hu] at h3
              exact absurd (Option.some.inj h3) (hf o3 vs)
            · exact .inr h3
          | lst _ => cases cq
          | dct _ => cases cq
          | ins _ _ => cases cq
      · exact (r.ob i b q h1 h2).ext (Ext.write hu ht) fun v e => by
          rw [upd_ne nb]
          exact e
end
end FL

namespace FL
open PySem PySem.Spec PyProof.Rows L2
/-! ### the judgements -/
section
variable (X : Cx) (W : WX)
def PostR {α β : Type} (R : List Addr → Hp → α → β → Prop) (σ : St) (π : List Addr) (H : Hp) (r : Res α) (Q : β → Hp → Prop) : Prop := match r with
  | .ok a M => ∀ b H' π', Ext π H π' H' → R π' H' a b → RM X.prog X.w X.K X.mg π' H' M → Q b H'
  | .ex c fs M => ∀ C d H' π', Ext π H π' H' → RX X.K X.mg π' H' C d c fs → RM X.prog X.w X.K X.mg π' H' M → W (.ref C) d σ H'
  | .stuck => False
def RF {α β : Type} (R : List Addr → Hp → α → β → Prop) (t : St → Hp → (β → Hp → Prop) → Prop) (f : Rho → MH → Res α) : Prop :=
  ∀ σ H Q π ρ M, RS X.K π H σ ρ → RM X.prog X.w X.K X.mg π H M → PostR X W R σ π H (f ρ M) Q → t σ H Q
def REq {α : Type} : List Addr → Hp → α → α → Prop := fun _ _ a b => a = b
structure FX (e : Expr) (f : FE) : Prop where
  to : ∃ t, PE X e t ∧ RF X W (RV X.K) t f
structure FXT (e : Expr) (f : FT) : Prop where
  to : ∃ t, PT X e t ∧ RF X W REq t f
structure FXW (e : Expr) (f : FT) : Prop where
  to : ∃ t, PW X e t ∧ RF X W REq t f
structure FXA (es : List Expr) (f : FA) : Prop where
  to : ∃ t, PA X es t ∧ RF X W (RVs X.K) t f
def PostS (σ : St) (π : List Addr) (H : Hp) (r : RSt) (D : Ends) : Prop := match r with
  | .next ρ M => ∀ σ' H' π', Ext π H π' H' → RS X.K π' H' σ' ρ → RM X.prog X.w X.K X.mg π' H' M → D.nx σ' H'
  | .brk ρ M => ∀ σ' H' π', Ext π H π' H' → RS X.K π' H' σ' ρ → RM X.prog X.w X.K X.mg π' H' M → D.bk σ' H'
  | .cnt ρ M => ∀ σ' H' π', Ext π H π' H' → RS X.K π' H' σ' ρ → RM X.prog X.w X.K X.mg π' H' M → D.ct σ' H'
  | .ret x M => ∀ v H' π', Ext π H π' H' → RV X.K π' H' x v → RM X.prog X.w X.K X.mg π' H' M → D.rt v H'
  | .ex c fs ρ M => ∀ C d σ' H' π', Ext π H π' H' → RX X.K X.mg π' H' C d c fs → RS X.K π' H' σ' ρ → RM X.prog X.w X.K X.mg π' H' M → W (.ref C) d σ' H'
  | .stuck => False
def RFS (t : TS) (f : FS) : Prop := ∀ D σ H π ρ M, RS X.K π H σ ρ → RM X.prog X.w X.K X.mg π H M → PostS X W σ π H (f ρ M) D → t D σ H
structure FXS (st : Stmt) (f : FS) : Prop where
  to : ∃ t, PS X st t ∧ RFS X W t f
structure FXB (st : List Stmt) (f : FS) : Prop where
  to : ∃ t, PSs X st t ∧ RFS X W t f
end
section
variable {X : Cx} {W : WX} {σ : St} {π π1 : List Addr} {H H1 : Hp} {ρ : Rho} {M : MH}
theorem PostR.mono {α β : Type} {R : List Addr → Hp → α → β → Prop} {r : Res α} {Q : β → Hp → Prop} (e : Ext π H π1 H1) (h : PostR X W R σ π H r Q) : PostR X W R σ π1 H1 r Q := by
  cases r with
  | ok a M => exact fun b H' π' e' => h b H' π' (e.trans e')
  | ex c fs M => exact fun C d H' π' e' => h C d H' π' (e.trans e')
  | stuck => exact h
theorem PostS.mono {r : RSt} {D : Ends} {σ1 : St} (e : Ext π H π1 H1) (h : PostS X W σ π H r D) : PostS X W σ1 π1 H1 r D := by
  cases r with
  | next ρ M => exact fun σ' H' π' e' => h σ' H' π' (e.trans e')
  | brk ρ M => exact fun σ' H' π' e' => h σ' H' π' (e.trans e')
  | cnt ρ M => exact fun σ' H' π' e' => h σ' H' π' (e.trans e')
  | ret x M => exact fun v H' π' e' => h v H' π' (e.trans e')
  | ex c fs ρ M => exact fun C d σ' H' π' e' => h C d σ' H' π' (e.trans e')
  | stuck => exact h
/-- a part, then the rest -/
theorem RF.bind {α β γ δ : Type} {R1 : List Addr → Hp → α → β → Prop} {R2 : List Addr → Hp → γ → δ → Prop} {t : St → Hp → (β → Hp → Prop) → Prop} {f : Rho → MH → Res α} {k : α → MH → Res γ} {Q : δ → Hp → Prop} {Q1 : β → Hp → Prop}
    (h : RF X W R1 t f) (hs : RS X.K π H σ ρ) (hm : RM X.prog X.w X.K X.mg π H M) (hp : PostR X W R2 σ π H ((f ρ M).bind k) Q)
    (hk : ∀ a M1 b H1 π1, Ext π H π1 H1 → R1 π1 H1 a b → RM X.prog X.w X.K X.mg π1 H1 M1 → PostR X W R2 σ π1 H1 (k a M1) Q → Q1 b H1) : t σ H Q1 := by
  refine h σ H Q1 π ρ M hs hm ?_
  cases e : f ρ M with
  | ok a M1 =>
    rw [e] at hp
    exact fun b H' π' e' r m => hk a M1 b H' π' e' r m (PostR.mono e' hp)
  | ex c fs M1 =>
    rw [e] at hp
    exact hp
  | stuck =>
    rw [e] at hp
    exact hp
theorem RF.stm {α β : Type} {R1 : List Addr → Hp → α → β → Prop} {t : St → Hp → (β → Hp → Prop) → Prop} {f : Rho → MH → Res α} {k : α → MH → RSt} {D : Ends} {Q1 : β → Hp → Prop}
    (h : RF X W R1 t f) (hs : RS X.K π H σ ρ) (hm : RM X.prog X.w X.K X.mg π H M) (hp : PostS X W σ π H ((f ρ M).stm ρ k) D)
    (hk : ∀ a M1 b H1 π1, Ext π H π1 H1 → R1 π1 H1 a b → RM X.prog X.w X.K X.mg π1 H1 M1 → PostS X W σ π1 H1 (k a M1) D → Q1 b H1) : t σ H Q1 := by
  refine h σ H Q1 π ρ M hs hm ?_
  cases e : f ρ M with
  | ok a M1 =>
    rw [e] at hp
    exact fun b H' π' e' r m => hk a M1 b H' π' e' r m (PostS.mono e' hp)
  | ex c fs M1 =>
    rw [e] at hp
    exact fun C d H' π' e' x m => hp C d σ H' π' e' x (hs.ext e') m
  | stuck =>
    rw [e] at hp
    exact hp
/-- an end that gives a value -/
theorem PostR.ok {α β : Type} {R : List Addr → Hp → α → β → Prop} {a : α} {b : β} {Q : β → Hp → Prop} (h : PostR X W R σ π H (.ok a M) Q) (r : R π H a b) (m : RM X.prog X.w X.K X.mg π H M) : Q b H := h b H π Ext.refl r m

/-! ### names, constants -/
def fVar (i : Nat) : FE := fun ρ M => match ρ[i]? with
  | some (some x) => .ok x M
  | _ => .stuck
def fC (x : MV) : FE := fun _ M => .ok x M
theorem fx_var {i : Nat} {x : Str} {pos : Pos} (h : PE X (.Name x pos) (tVar i)) : FX X W (.Name x pos) (fVar i) := ⟨_, h, by
  intro σ H Q π ρ M hs hm hp
  unfold fVar at hp
  split at hp
  · rename_i y e
    obtain ⟨v, h1, h2⟩ := hs.at_ i y e
    exact ⟨v, h1, hp.ok h2 hm⟩
  · exact hp.elim⟩
theorem fx_c {e : Expr} {x : MV} {v : V} (h : PE X e (tC v)) (r : ∀ π H, RV X.K π H x v) : FX X W e (fC x) := ⟨_, h, by
  intro σ H Q π ρ M hs hm hp
  exact hp.ok (r π H) hm⟩
theorem fx_int {i : Int} {j : Nat} {pos : Pos} : FX X W (.Constant (.int i) j pos) (fC (.int i)) := fx_c pe_int fun _ _ => by unfold RV; rfl
theorem fx_str {x : Str} {j : Nat} {pos : Pos} : FX X W (.Constant (.str x) j pos) (fC (.str x)) := fx_c pe_str fun _ _ => by unfold RV; rfl
theorem fx_bl {b : Bool} {j : Nat} {pos : Pos} : FX X W (.Constant (.bool b) j pos) (fC (.bl b)) := fx_c pe_bl fun _ _ => by unfold RV; rfl
theorem fx_non {j : Nat} {pos : Pos} : FX X W (.Constant .none j pos) (fC .non) := fx_c pe_non fun _ _ => by unfold RV; rfl

/-! ### argument lists, displays -/
def faNil : FA := fun _ M => .ok [] M
def faCons (f : FE) (g : FA) : FA := fun ρ M => (f ρ M).bind fun x M1 => (g ρ M1).bind fun xs M2 => .ok (x :: xs) M2
theorem fa_nil : FXA X W [] faNil := ⟨_, pa_nil, fun σ H Q π ρ M hs hm hp => hp.ok RVs.nil hm⟩
theorem fa_cons {e : Expr} {es : List Expr} {f : FE} {g : FA} (h : FX X W e f) (t : FXA X W es g) (hs : starEach (e :: es) X.env = (false, eval e X.env) :: starEach es X.env := by rfl) : FXA X W (e :: es) (faCons f g) := by
  obtain ⟨t1, p1, r1⟩ := h.to
  obtain ⟨t2, p2, r2⟩ := t.to
  refine ⟨_, pa_cons p1 p2 hs, ?_⟩
  intro σ H Q π ρ M hs hm hp
  refine r1.bind hs hm hp fun x M1 v H1 π1 e1 rv m1 hp1 => ?_
  refine r2.bind (hs.ext e1) m1 hp1 fun xs M2 vs H2 π2 e2 rvs m2 hp2 => ?_
  exact hp2.ok (RVs.cons (rv.ext e2) rvs) m2
/-- a size that fits -/
def small (n : Nat) : Bool := decide (n ≤ sizeLine)
theorem small_le {n : Nat} (h : small n = true) : n ≤ sizeLine := of_decide_eq_true h
def fTup (g : FA) : FE := fun ρ M => (g ρ M).bind fun xs M1 => if small xs.length = true then .ok (.tup xs) M1 else .stuck
def fLst (g : FA) : FE := fun ρ M => (g ρ M).bind fun xs M1 => if small xs.length = true then .ok (.ref M1.length) (M1 ++ [.lst xs]) else .stuck
theorem fx_tup {es : List Expr} {g : FA} {k : Nat} {pos : Pos} (h : FXA X W es g) : FX X W (.Tuple es k pos) (fTup g) := by
  obtain ⟨t1, p1, r1⟩ := h.to
  refine ⟨_, pe_tup p1, ?_⟩
  intro σ H Q π ρ M hs hm hp
  refine r1.bind hs hm hp fun xs M1 vs H1 π1 e1 rv m1 hp1 => ?_
  by_cases hz : small xs.length = true
  · rw [if_pos hz] at hp1
    refine ⟨by rw [← rv.length]; exact small_le hz, fun p hp0 => ?_⟩
    have e2 : Ext π1 H1 π1 (upd H1 p (.tup vs)) := Ext.new hp0
    refine hp1 _ _ π1 e2 ?_ (m1.keep fun b u q => by rw [upd_ne (ne_of_none q hp0)]; exact q)
    unfold RV
    exact ⟨p, vs, rfl, .inl upd_same, rv.ext e2⟩
  · rw [if_neg hz] at hp1
    exact hp1.elim
/-- a new list -/
theorem new_lst {α : Type} {Q : VK} {xs : List MV} {vs : List V} {p : Addr} (hp : PostR X W (RV X.K) σ π H (.ok (.ref M.length) (M ++ [.lst xs])) Q) (hm : RM X.prog X.w X.K X.mg π H M) (rv : RVs X.K π H xs vs) (hn : H p = none) : Q (.ref p) (upd H p (.lst vs)) := by
  have e2 : Ext π H (π ++ [p]) (upd H p (.lst vs)) := Ext.push hn
  refine hp _ _ _ e2 ?_ (hm.push hn ⟨vs, upd_same, rv.ext e2⟩)
  unfold RV
  exact ⟨p, rfl, by rw [← hm.len]; simp⟩
theorem fx_lst {es : List Expr} {g : FA} {pos : Pos} (h : FXA X W es g) : FX X W (.List es pos) (fLst g) := by
  obtain ⟨t1, p1, r1⟩ := h.to
  refine ⟨_, pe_lst p1, ?_⟩
  intro σ H Q π ρ M hs hm hp
  refine r1.bind hs hm hp fun xs M1 vs H1 π1 e1 rv m1 hp1 => ?_
  by_cases hz : small xs.length = true
  · rw [if_pos hz] at hp1
    exact ⟨by rw [← rv.length]; exact small_le hz, fun p hp0 => new_lst (α := Unit) hp1 m1 rv hp0⟩
  · rw [if_neg hz] at hp1
    exact hp1.elim

/-! ### operators -/
/-- an operation on two values: by values here, by its rule there -/
abbrev G2 := MV → MV → MH → Res MV
def Op2 (X : Cx) (W : WX) (r : R2) (g : G2) : Prop := ∀ σ H Q π M x y u v, RV X.K π H x u → RV X.K π H y v → RM X.prog X.w X.K X.mg π H M → PostR X W (RV X.K) σ π H (g x y M) Q → r u v H Q
def fOp (g : G2) (a b : FE) : FE := fun ρ M => (a ρ M).bind fun x M1 => (b ρ M1).bind fun y M2 => g x y M2
theorem rf_op {r : R2} {g : G2} {ta tb : TE} {fa fb : FE} (ho : Op2 X W r g) (r1 : RF X W (RV X.K) ta fa) (r2 : RF X W (RV X.K) tb fb) : RF X W (RV X.K) (tOp r ta tb) (fOp g fa fb) := by
  intro σ H Q π ρ M hs hm hp
  refine r1.bind hs hm hp fun x M1 u H1 π1 e1 ru m1 hp1 => ?_
  refine r2.bind (hs.ext e1) m1 hp1 fun y M2 v H2 π2 e2 rv m2 hp2 => ?_
  exact ho σ H2 Q π2 M2 x y u v (ru.ext e2) rv m2 hp2
theorem fx_op {op : Operator} {r : R2} {g : G2} {a b : Expr} {fa fb : FE} {pos : Pos} (hr : OpR X (binaryOp op) r) (ho : Op2 X W r g) (ha : FX X W a fa) (hb : FX X W b fb) : FX X W (.BinOp a op b pos) (fOp g fa fb) := by
  obtain ⟨t1, p1, r1⟩ := ha.to
  obtain ⟨t2, p2, r2⟩ := hb.to
  exact ⟨_, pe_op hr p1 p2, rf_op ho r1 r2⟩
theorem fx_cmp {op : CmpOp} {r : R2} {g : G2} {a b : Expr} {fa fb : FE} {pos : Pos} (hr : OpR X (compareOp op) r) (ho : Op2 X W r g) (ha : FX X W a fa) (hb : FX X W b fb) (hm : behindInMarks op b = false) : FX X W (.Compare a [op] [b] pos) (fOp g fa fb) := by
  obtain ⟨t1, p1, r1⟩ := ha.to
  obtain ⟨t2, p2, r2⟩ := hb.to
  exact ⟨_, pe_cmpR hr p1 p2 hm, rf_op ho r1 r2⟩
theorem opOr {f : Value → Value → Sem Value} {r r' : R2} (h : OpR X f r) (h' : OpR X f r') : OpR X f (fun x y H Q => r x y H Q ∨ r' x y H Q) := by
  intro pins s σ H x y v u Q I rx ry q
  rcases q with q | q
  · exact h pins s σ H x y v u Q I rx ry q
  · exact h' pins s σ H x y v u Q I rx ry q
/-- the truth of a value that is a truth -/
def asB (f : FE) : FT := fun ρ M => (f ρ M).bind fun x M1 => match x with
  | .bl b => .ok b M1
  | _ => .stuck
theorem rf_tB {t : TE} {f : FE} (h : RF X W (RV X.K) t f) : RF X W REq (tB t) (asB f) := by
  intro σ H Q π ρ M hs hm hp
  refine h.bind hs hm hp fun x M1 u H1 π1 e1 ru m1 hp1 => ?_
  cases x with
  | bl b =>
    unfold RV at ru
    exact ⟨b, ru, hp1.ok rfl m1⟩
  | _ => exact hp1.elim
theorem rf_tTest {t : TE} {f : FE} (h : RF X W (RV X.K) t f) : RF X W REq (tTest t) (asB f) := by
  intro σ H Q π ρ M hs hm hp
  refine h.bind hs hm hp fun x M1 u H1 π1 e1 ru m1 hp1 => ?_
  cases x with
  | bl b =>
    unfold RV at ru
    exact ⟨b, ru, hp1.ok rfl m1⟩
  | _ => exact hp1.elim
theorem ft_cmp {op : CmpOp} {r : R2} {g : G2} {a b : Expr} {fa fb : FE} {pos : Pos} (hr : OpR X (compareOp op) r) (ho : Op2 X W r g) (ha : FX X W a fa) (hb : FX X W b fb) (hm : behindInMarks op b = false) : FXT X W (.Compare a [op] [b] pos) (asB (fOp g fa fb)) := by
  obtain ⟨t1, p1, r1⟩ := ha.to
  obtain ⟨t2, p2, r2⟩ := hb.to
  exact ⟨_, pt_cmpR hr p1 p2 hm, rf_tTest (rf_op ho r1 r2)⟩
/-- an expression that gives a truth, as a test -/
theorem ft_val {e : Expr} {f : FE} (h : FX X W e f) (he : ∀ whole, isTrue e X.env whole = (do let v ← whole; standAt e.pos; holding [v] (truthy v)) := by intro _; rfl) : FXT X W e (asB f) := by
  obtain ⟨t1, p1, r1⟩ := h.to
  exact ⟨_, pt_val p1 he, rf_tB r1⟩
def ftNot (f : FT) : FT := fun ρ M => (f ρ M).bind fun b M1 => .ok (!b) M1
theorem ft_not {a : Expr} {f : FT} {pos : Pos} (h : FXT X W a f) : FXT X W (.UnaryOp .Not a pos) (ftNot f) := by
  obtain ⟨t1, p1, r1⟩ := h.to
  refine ⟨_, pt_not p1, ?_⟩
  intro σ H Q π ρ M hs hm hp
  refine r1.bind hs hm hp fun b M1 c H1 π1 e1 rc m1 hp1 => ?_
  cases rc
  exact hp1.ok rfl m1
def ftAnd (f g : FT) : FT := fun ρ M => (f ρ M).bind fun b M1 => if b = true then g ρ M1 else .ok false M1
def ftOr (f g : FT) : FT := fun ρ M => (f ρ M).bind fun b M1 => if b = true then .ok true M1 else g ρ M1
theorem fw_and1 {a : Expr} {f : FT} {pos : Pos} (h : FXT X W a f) : FXW X W (.BoolOp .And [a] pos) f := let ⟨t, p, r⟩ := h.to; ⟨t, pw_and1 p, r⟩
theorem fw_or1 {a : Expr} {f : FT} {pos : Pos} (h : FXT X W a f) : FXW X W (.BoolOp .Or [a] pos) f := let ⟨t, p, r⟩ := h.to; ⟨t, pw_or1 p, r⟩
theorem fw_and {a b : Expr} {rest : List Expr} {f g : FT} {pos : Pos} (h : FXT X W a f) (h2 : FXW X W (.BoolOp .And (b :: rest) pos) g) : FXW X W (.BoolOp .And (a :: b :: rest) pos) (ftAnd f g) := by
  obtain ⟨t1, p1, r1⟩ := h.to
  obtain ⟨t2, p2, r2⟩ := h2.to
  refine ⟨_, pw_and p1 p2, ?_⟩
  intro σ H Q π ρ M hs hm hp
  refine r1.bind hs hm hp fun b M1 c H1 π1 e1 rc m1 hp1 => ?_
  cases rc
  cases b with
  | true => exact r2 σ H1 Q π1 ρ M1 (hs.ext e1) m1 hp1
  | false => exact hp1.ok rfl m1
theorem fw_or {a b : Expr} {rest : List Expr} {f g : FT} {pos : Pos} (h : FXT X W a f) (h2 : FXW X W (.BoolOp .Or (b :: rest) pos) g) : FXW X W (.BoolOp .Or (a :: b :: rest) pos) (ftOr f g) := by
  obtain ⟨t1, p1, r1⟩ := h.to
  obtain ⟨t2, p2, r2⟩ := h2.to
  refine ⟨_, pw_or p1 p2, ?_⟩
  intro σ H Q π ρ M hs hm hp
  refine r1.bind hs hm hp fun b M1 c H1 π1 e1 rc m1 hp1 => ?_
  cases rc
  cases b with
  | true => exact hp1.ok rfl m1
  | false => exact r2 σ H1 Q π1 ρ M1 (hs.ext e1) m1 hp1
theorem FXW.t {e : Expr} {f : FT} (h : FXW X W e f) : FXT X W e f := let ⟨t, p, r⟩ := h.to; ⟨t, p.pt, r⟩
/-- and, or as values, all but the last truths -/
def fAnd (f g : FE) : FE := fun ρ M => (f ρ M).bind fun x M1 => match x with
  | .bl true => g ρ M1
  | .bl false => .ok (.bl false) M1
  | _ => .stuck
def fOr (f g : FE) : FE := fun ρ M => (f ρ M).bind fun x M1 => match x with
  | .bl true => .ok (.bl true) M1
  | .bl false => g ρ M1
  | _ => .stuck
def fNot (f : FE) : FE := fun ρ M => (f ρ M).bind fun x M1 => match x with
  | .bl b => .ok (.bl (!b)) M1
  | _ => .stuck
theorem fx_one {op : BoolOp} {a : Expr} {f : FE} {pos : Pos} (h : FX X W a f) : FX X W (.BoolOp op [a] pos) f := let ⟨t, p, r⟩ := h.to; ⟨t, pe_one p, r⟩
theorem fx_and {a b : Expr} {rest : List Expr} {f g : FE} {pos : Pos} (h : FX X W a f) (h2 : FX X W (.BoolOp .And (b :: rest) pos) g) : FX X W (.BoolOp .And (a :: b :: rest) pos) (fAnd f g) := by
  obtain ⟨t1, p1, r1⟩ := h.to
  obtain ⟨t2, p2, r2⟩ := h2.to
  refine ⟨_, pe_and p1 p2, ?_⟩
  intro σ H Q π ρ M hs hm hp
  refine r1.bind hs hm hp fun x M1 u H1 π1 e1 ru m1 hp1 => ?_
  cases x with
  | bl b =>
    unfold RV at ru
    refine ⟨b, ru, ?_⟩
    cases b with
    | true => exact r2 σ H1 Q π1 ρ M1 (hs.ext e1) m1 hp1
    | false => exact hp1.ok (by unfold RV; rfl) m1
  | _ => exact hp1.elim
theorem fx_or {a b : Expr} {rest : List Expr} {f g : FE} {pos : Pos} (h : FX X W a f) (h2 : FX X W (.BoolOp .Or (b :: rest) pos) g) : FX X W (.BoolOp .Or (a :: b :: rest) pos) (fOr f g) := by
  obtain ⟨t1, p1, r1⟩ := h.to
  obtain ⟨t2, p2, r2⟩ := h2.to
  refine ⟨_, pe_or p1 p2, ?_⟩
  intro σ H Q π ρ M hs hm hp
  refine r1.bind hs hm hp fun x M1 u H1 π1 e1 ru m1 hp1 => ?_
  cases x with
  | bl b =>
    unfold RV at ru
    refine ⟨b, ru, ?_⟩
    cases b with
    | true => exact hp1.ok (by unfold RV; rfl) m1
    | false => exact r2 σ H1 Q π1 ρ M1 (hs.ext e1) m1 hp1
  | _ => exact hp1.elim
theorem fx_not {a : Expr} {f : FE} {pos : Pos} (h : FX X W a f) : FX X W (.UnaryOp .Not a pos) (fNot f) := by
  obtain ⟨t1, p1, r1⟩ := h.to
  refine ⟨_, pe_not p1, ?_⟩
  intro σ H Q π ρ M hs hm hp
  refine r1.bind hs hm hp fun x M1 u H1 π1 e1 ru m1 hp1 => ?_
  cases x with
  | bl b =>
    unfold RV at ru
    exact ⟨b, ru, hp1.ok (by unfold RV; rfl) m1⟩
  | _ => exact hp1.elim
def fIf (c : FT) (a b : FE) : FE := fun ρ M => (c ρ M).bind fun k M1 => if k = true then a ρ M1 else b ρ M1
theorem fx_ifExp {c a b : Expr} {fc : FT} {fa fb : FE} {pos : Pos} (hc : FXT X W c fc) (ha : FX X W a fa) (hb : FX X W b fb) : FX X W (.IfExp c a b pos) (fIf fc fa fb) := by
  obtain ⟨t1, p1, r1⟩ := hc.to
  obtain ⟨t2, p2, r2⟩ := ha.to
  obtain ⟨t3, p3, r3⟩ := hb.to
  refine ⟨_, pe_ifExp p1 p2 p3, ?_⟩
  intro σ H Q π ρ M hs hm hp
  refine r1.bind hs hm hp fun b M1 c H1 π1 e1 rc m1 hp1 => ?_
  cases rc
  cases b with
  | true => exact r2 σ H1 Q π1 ρ M1 (hs.ext e1) m1 hp1
  | false => exact r3 σ H1 Q π1 ρ M1 (hs.ext e1) m1 hp1
end
end FL

namespace FL
open PySem PySem.Spec PyProof.Rows L2
section
variable {X : Cx} {W : WX} {σ : St} {π π1 : List Addr} {H H1 : Hp} {ρ : Rho} {M : MH}
/-! ### sequences -/
def lstOf (M : MH) : MV → Option (List MV)
  | .ref n => match M[n]? with
    | some (.lst xs) => some xs
    | some (.cst xs) => some xs
    | _ => none
  | _ => none
theorem CstAt.sq {K : PySem.W.Frag} {a : Addr} {vs : List V} (h : CstAt K H a vs) : SqL K H a vs := by
  rcases h with ⟨o, h⟩ | h
  · exact .inl (.inr ⟨o, h⟩)
  · exact .inr h
theorem TupAt.sq {K : PySem.W.Frag} {a : Addr} {vs : List V} (h : TupAt K H a vs) : SqT K H a vs := by
  rcases h with h | h
  · exact .inl (.inl h)
  · exact .inr h
theorem lstOf_sq {x : MV} {xs : List MV} {u : V} (e : lstOf M x = some xs) (hm : RM X.prog X.w X.K X.mg π H M) (r : RV X.K π H x u) : ∃ a vs, u = .ref a ∧ SqL X.K H a vs ∧ RVs X.K π H xs vs := by
  cases x with
  | ref n =>
    unfold RV at r
    obtain ⟨a, rfl, ha⟩ := r
    cases q : M[n]? with
    | none =>
      simp only [lstOf, q] at e
      cases e
    | some o =>
      cases o with
      | lst ys =>
        simp only [lstOf, q, Option.some.injEq] at e
        subst e
        obtain ⟨vs, h1, h2⟩ := hm.at_ ha q
        exact ⟨a, vs, rfl, .inl (.inl h1), h2⟩
      | cst ys =>
        simp only [lstOf, q, Option.some.injEq] at e
        subst e
        obtain ⟨vs, h1, h2⟩ := hm.at_ ha q
        exact ⟨a, vs, rfl, h1.sq, h2⟩
      | dct _ =>
        simp only [lstOf, q] at e
        cases e
      | ins _ _ =>
        simp only [lstOf, q] at e
        cases e
  | _ => cases e
theorem tup_sq {xs : List MV} {u : V} (r : RV X.K π H (.tup xs) u) : ∃ a vs, u = .ref a ∧ SqT X.K H a vs ∧ RVs X.K π H xs vs := by
  unfold RV at r
  obtain ⟨a, vs, rfl, h1, h2⟩ := r
  exact ⟨a, vs, rfl, h1.sq, h2⟩
theorem RV_int {i : Int} {u : V} : RV X.K π H (.int i) u ↔ u = .int i := by unfold RV; exact Iff.rfl
theorem RV_str {i : Str} {u : V} : RV X.K π H (.str i) u ↔ u = .str i := by unfold RV; exact Iff.rfl
theorem RV_bl {i : Bool} {u : V} : RV X.K π H (.bl i) u ↔ u = .bl i := by unfold RV; exact Iff.rfl
theorem RV_non {u : V} : RV X.K π H .non u ↔ u = .non := by unfold RV; exact Iff.rfl

/-! ### numbers -/
def gI (C : Int → Int → Bool) (k : Int → Int → MV) : G2 := fun x y M => match x, y with
  | .int i, .int j => if C i j = true then .ok (k i j) M else .stuck
  | _, _ => .stuck
theorem g_int {C : Int → Int → Bool} {k : Int → Int → MV} {C' : Int → Int → Prop} {k' : Int → Int → V} (hc : ∀ i j, C i j = true → C' i j) (hk : ∀ i j π H, RV X.K π H (k i j) (k' i j)) : Op2 X W (rI C' k') (gI C k) := by
  intro σ H Q π M x y u v ru rv hm hp
  unfold gI at hp
  split at hp
  · rename_i i j
    rw [RV_int] at ru rv
    split at hp
    · rename_i hC
      exact ⟨i, j, ru, rv, hc i j hC, hp.ok (hk i j π H) hm⟩
    · exact hp.elim
  · exact hp.elim
theorem g_int0 {k : Int → Int → MV} {k' : Int → Int → V} (hk : ∀ i j π H, RV X.K π H (k i j) (k' i j)) : Op2 X W (rI0 k') (gI (fun _ _ => true) k) := by
  intro σ H Q π M x y u v ru rv hm hp
  obtain ⟨i, j, h1, h2, _, h4⟩ := g_int (X := X) (W := W) (C := fun _ _ => true) (C' := fun _ _ => True) (k := k) (k' := k') (fun _ _ _ => trivial) hk σ H Q π M x y u v ru rv hm hp
  exact ⟨i, j, h1, h2, h4⟩
theorem rvi (i : Int) (π : List Addr) (H : Hp) : RV X.K π H (.int i) (.int i) := by unfold RV; rfl
theorem rvb (i : Bool) (π : List Addr) (H : Hp) : RV X.K π H (.bl i) (.bl i) := by unfold RV; rfl
theorem rvs (i : Str) (π : List Addr) (H : Hp) : RV X.K π H (.str i) (.str i) := by unfold RV; rfl
def gSub : G2 := gI (fun _ _ => true) fun i j => .int (i - j)
theorem o_sub : Op2 X W (rI0 fun i j => .int (i - j)) gSub := g_int0 fun _ _ _ _ => rvi _ _ _
def gMod : G2 := gI (fun _ j => decide (0 < j)) fun i j => .int (i % j)
theorem o_mod : Op2 X W (rI (fun _ j => 0 < j) fun i j => .int (i % j)) gMod := g_int (fun _ _ h => of_decide_eq_true h) fun _ _ _ _ => rvi _ _ _
def gFdiv : G2 := gI (fun _ j => decide (0 < j) && decide (j.natAbs.log2 < 9000)) fun i j => .int (i / j)
theorem o_fdiv : Op2 X W (rI CDivW fun i j => .int (i / j)) gFdiv := g_int (fun _ _ h => by
  rw [Bool.and_eq_true] at h
  exact ⟨of_decide_eq_true h.1, of_decide_eq_true h.2⟩) fun _ _ _ _ => rvi _ _ _
def gPow : G2 := gI (fun i j => decide (0 ≤ j) && (decide (j ≤ 1000000) && decide (i.natAbs < 2 ^ 64))) fun i j => .int (i ^ j.toNat)
theorem o_pow : Op2 X W (rI CPow fun i j => .int (i ^ j.toNat)) gPow := g_int (fun _ _ h => by
  rw [Bool.and_eq_true, Bool.and_eq_true] at h
  exact ⟨of_decide_eq_true h.1, of_decide_eq_true h.2.1, of_decide_eq_true h.2.2⟩) fun _ _ _ _ => rvi _ _ _
def CMulB (i j : Int) : Prop := i.natAbs.log2 + j.natAbs.log2 < 130000000
theorem CMulB.ok {i j : Int} (h : CMulB i j) : IntMulOk i j := by
  have b : ∀ x : Int, Builtin.Int.intBits x ≤ x.natAbs.log2 + 1 := fun x => by
    unfold Builtin.Int.intBits
    split <;> omega
  have h1 := b i
  have h2 := b j
  have h3 : i.natAbs.log2 + j.natAbs.log2 < 130000000 := h
  have e : bitsLine = 134217728 := by decide
  unfold IntMulOk
  intro z
  rw [Bool.and_eq_true] at z
  have z2 := z.2
  unfold Builtin.Int.intTooBig at z2
  have z3 := of_decide_eq_true z2
  rw [e] at z3
  omega
theorem op_mulB : OpR X (binaryOp .Mult) (rI CMulB fun i j => .int (i * j)) := opI fun _ _ _ _ _ _ _ hc q => mul_int q hc.ok
def gMul : G2 := gI (fun i j => decide (i.natAbs.log2 + j.natAbs.log2 < 130000000)) fun i j => .int (i * j)
theorem o_mul : Op2 X W (rI CMulB fun i j => .int (i * j)) gMul := g_int (fun i j h => by
  have z : i.natAbs.log2 + j.natAbs.log2 < 130000000 := of_decide_eq_true h
  exact z) fun _ _ _ _ => rvi _ _ _
def gLt : G2 := gI (fun _ _ => true) fun i j => .bl (decide (i < j))
def gLe : G2 := gI (fun _ _ => true) fun i j => .bl (decide (i ≤ j))
def gGt : G2 := gI (fun _ _ => true) fun i j => .bl (decide (j < i))
def gGe : G2 := gI (fun _ _ => true) fun i j => .bl (decide (j ≤ i))
theorem o_lt : Op2 X W (rI0 fun i j => .bl (decide (i < j))) gLt := g_int0 fun _ _ _ _ => rvb _ _ _
theorem o_le : Op2 X W (rI0 fun i j => .bl (decide (i ≤ j))) gLe := g_int0 fun _ _ _ _ => rvb _ _ _
theorem o_gt : Op2 X W (rI0 fun i j => .bl (decide (j < i))) gGt := g_int0 fun _ _ _ _ => rvb _ _ _
theorem o_ge : Op2 X W (rI0 fun i j => .bl (decide (j ≤ i))) gGe := g_int0 fun _ _ _ _ => rvb _ _ _

/-! ### + -/
def gAdd : G2 := fun x y M => match x, y with
  | .int i, .int j => .ok (.int (i + j)) M
  | .str i, .str j => if small (i.length + j.length) = true then .ok (.str (i ++ j)) M else .stuck
  | .tup xs, .tup ys => if small (xs.length + ys.length) = true then .ok (.tup (xs ++ ys)) M else .stuck
  | .ref n, .ref m => match M[n]?, M[m]? with
    | some (.lst xs), some (.lst ys) => if small (xs.length + ys.length) = true then .ok (.ref M.length) (M ++ [.lst (xs ++ ys)]) else .stuck
    | _, _ => .stuck
  | _, _ => .stuck
abbrev rAdd (K : PySem.W.Frag) : R2 := fun x y H Q => (rI0 (fun i j => .int (i + j)) x y H Q ∨ (fun x y H Q => ∃ i j, x = V.str i ∧ y = V.str j ∧ i.length + j.length ≤ sizeLine ∧ Q (.str (i ++ j)) H) x y H Q) ∨ (rCatA K x y H Q ∨ rCat x y H Q)
theorem op_addA : OpR X (binaryOp .Add) (rAdd X.K) := opOr (opOr op_add op_add_str) (opOr op_catA op_cat)
theorem o_add : Op2 X W (rAdd X.K) gAdd := by
  intro σ H Q π M x y u v ru rv hm hp
  unfold gAdd at hp
  split at hp
  · rw [RV_int] at ru rv
    exact .inl (.inl ⟨_, _, ru, rv, hp.ok (rvi _ _ _) hm⟩)
  · rw [RV_str] at ru rv
    split at hp
    · rename_i hz
      exact .inl (.inr ⟨_, _, ru, rv, small_le hz, hp.ok (rvs _ _ _) hm⟩)
    · exact hp.elim
  · rename_i xs ys
    split at hp
    · rename_i hz
      have ru' := ru
      have rv' := rv
      unfold RV at ru rv
      obtain ⟨a, vs, rfl, h1, h2⟩ := ru
      obtain ⟨b, ws, rfl, k1, k2⟩ := rv
      refine .inr (.inl ⟨a, b, vs, ws, rfl, rfl, h1.sq, k1.sq, by rw [← h2.length, ← k2.length]; exact small_le hz, fun e => ?_, fun e1 e2 => ?_, fun e1 e2 p hn => ?_⟩)
      · subst e
        cases xs with
        | nil => exact hp.ok rv' hm
        | cons x xs => exact absurd h2.length (by simp)
      · subst e2
        cases ys with
        | nil =>
          rw [List.append_nil] at hp
          exact hp.ok ru' hm
        | cons x xs => exact absurd k2.length (by simp)
      · have e : Ext π H π (upd H p (.tup (vs ++ ws))) := Ext.new hn
        refine hp _ _ π e ?_ (hm.keep fun b u q => by rw [upd_ne (ne_of_none q hn)]; exact q)
        unfold RV
        exact ⟨p, _, rfl, .inl upd_same, (h2.append k2).ext e⟩
    · exact hp.elim
  · rename_i n m
    split at hp
    · rename_i xs ys en em
      split at hp
      · rename_i hz
        unfold RV at ru rv
        obtain ⟨a, rfl, ha⟩ := ru
        obtain ⟨b, rfl, hb⟩ := rv
        obtain ⟨vs, h1, h2⟩ := hm.at_ ha en
        obtain ⟨ws, k1, k2⟩ := hm.at_ hb em
        exact .inr (.inr ⟨a, b, vs, ws, rfl, rfl, h1, k1, by rw [← h2.length, ← k2.length]; exact small_le hz, fun p hn => new_lst (α := Unit) hp hm (h2.append k2) hn⟩)
      · exact hp.elim
    · exact hp.elim
  · exact hp.elim

/-! ### == -/
def allD (f : MV → Option PyData) : List MV → Option (List PyData)
  | [] => some []
  | x :: xs => match f x, allD f xs with
    | some d, some ds => some (d :: ds)
    | _, _ => none
/-- a value as data: lists are read -/
def toD : Nat → MH → MV → Option PyData
  | 0, _, _ => none
  | n + 1, M, v => match v with
    | .non => some .none
    | .bl b => some (.bool b)
    | .int i => some (.int i)
    | .str x => some (.str x)
    | .tup xs => (allD (toD n M) xs).map .tuple
    | .ref k => match lstOf M (.ref k) with
      | some xs => (allD (toD n M) xs).map .list
      | none => none
theorem toD_dp (hm : RM X.prog X.w X.K X.mg π H M) : ∀ (n : Nat) (x : MV) (d : PyData) (u : V), toD n M x = some d → RV X.K π H x u → Dp X.K H u d
  | 0, _, _, _, e, _ => by cases e
  | n + 1, x, d, u, e, r => by
    have all : ∀ (xs : List MV) (ds : List PyData) (vs : List V), allD (toD n M) xs = some ds → RVs X.K π H xs vs → DpAll X.K H vs ds := by
      intro xs
      induction xs with
      | nil =>
        intro ds vs e r
        cases e
        rw [r.unnil]
        exact .nil
      | cons x xs ih =>
        intro ds vs e r
        obtain ⟨v, ws, rfl, r1, r2⟩ := r.uncons
        unfold allD at e
        split at e
        · rename_i d ds e1 e2
          cases e
          exact .cons (toD_dp hm n x d v e1 r1) (ih ds ws e2 r2)
        · cases e
    unfold toD at e
    split at e
    · cases e
      rw [RV_non] at r
      subst r
      exact .non
    · cases e
      rw [RV_bl] at r
      subst r
      exact .bl _
    · cases e
      rw [RV_int] at r
      subst r
      exact .int _
    · cases e
      rw [RV_str] at r
      subst r
      exact .str _
    · obtain ⟨ds, e1, rfl⟩ := Option.map_eq_some_iff.mp e
      obtain ⟨a, vs, rfl, h1, h2⟩ := tup_sq r
      exact .tup h1 (all _ _ _ e1 h2)
    · split at e
      · rename_i xs e1
        obtain ⟨ds, e2, rfl⟩ := Option.map_eq_some_iff.mp e
        obtain ⟨a, vs, rfl, h1, h2⟩ := lstOf_sq e1 hm r
        exact .lst h1 (all _ _ _ e2 h2)
      · cases e
/-- == of simple values -/
def scalEq : MV → MV → Option Bool
  | .non, .non => some true
  | .int i, .int j => some (decide (i = j))
  | .str i, .str j => some (decide (i = j))
  | .bl i, .bl j => some (decide (i = j))
  | .non, .int _ => some false
  | .non, .str _ => some false
  | .non, .bl _ => some false
  | .int _, .non => some false
  | .str _, .non => some false
  | .bl _, .non => some false
  | .int _, .str _ => some false
  | .str _, .int _ => some false
  | .str _, .bl _ => some false
  | .bl _, .str _ => some false
  | _, _ => none
def deepEq (M : MH) (x y : MV) : Option Bool := match toD 66 M x, toD 66 M y with
  | some d, some e => if (SeqAt.shaped d && SeqAt.shaped e) = true then some (PyData.eqv d e) else none
  | _, _ => none
def eqM (M : MH) (x y : MV) : Option Bool := match scalEq x y with
  | some b => some b
  | none => deepEq M x y
def gEq : G2 := fun x y M => match eqM M x y with
  | some b => .ok (.bl b) M
  | none => .stuck
def gNe : G2 := fun x y M => match eqM M x y with
  | some b => .ok (.bl (!b)) M
  | none => .stuck
theorem scalEq_ok {x y : MV} {b : Bool} {u v : V} (e : scalEq x y = some b) (ru : RV X.K π H x u) (rv : RV X.K π H y v) : scal u v = true ∧ decide (u = v) = b := by
  unfold scalEq at e
  split at e <;> cases e <;> (first | rw [RV_non] at ru | rw [RV_int] at ru | rw [RV_str] at ru | rw [RV_bl] at ru) <;> (first | rw [RV_non] at rv | rw [RV_int] at rv | rw [RV_str] at rv | rw [RV_bl] at rv) <;> subst ru <;> subst rv <;> refine ⟨rfl, ?_⟩ <;> simp
theorem deepEq_ok {x y : MV} {b : Bool} {u v : V} (e : deepEq M x y = some b) (hm : RM X.prog X.w X.K X.mg π H M) (ru : RV X.K π H x u) (rv : RV X.K π H y v) :
    ∃ d e, Dp X.K H u d ∧ Dp X.K H v e ∧ SeqAt.shaped d = true ∧ SeqAt.shaped e = true ∧ PyData.eqv d e = b := by
  unfold deepEq at e
  split at e
  · rename_i d d' e1 e2
    split at e
    · rename_i hz
      cases e
      rw [Bool.and_eq_true] at hz
      exact ⟨d, d', toD_dp hm 66 x d u e1 ru, toD_dp hm 66 y d' v e2 rv, hz.1, hz.2, rfl⟩
    · cases e
  · cases e
theorem op_eqA (hu : X.A.units + 64 < cLine) : OpR X (compareOp .Eq) (fun x y H Q => rEq x y H Q ∨ rEqD X.K x y H Q) := opOr op_eq (op_eqD hu)
theorem op_neA (hu : X.A.units + 64 < cLine) : OpR X (compareOp .NotEq) (fun x y H Q => rNe x y H Q ∨ rNeD X.K x y H Q) := opOr op_ne (op_neD hu)
theorem o_eq : Op2 X W (fun x y H Q => rEq x y H Q ∨ rEqD X.K x y H Q) gEq := by
  intro σ H Q π M x y u v ru rv hm hp
  unfold gEq eqM at hp
  cases e : scalEq x y with
  | some b =>
    rw [e] at hp
    obtain ⟨h1, h2⟩ := scalEq_ok e ru rv
    exact .inl ⟨h1, by rw [h2]; exact hp.ok (rvb _ _ _) hm⟩
  | none =>
    rw [e] at hp
    cases e2 : deepEq M x y with
    | some b =>
      rw [e2] at hp
      obtain ⟨d, d', h1, h2, h3, h4, h5⟩ := deepEq_ok e2 hm ru rv
      exact .inr ⟨d, d', h1, h2, h3, h4, by rw [h5]; exact hp.ok (rvb _ _ _) hm⟩
    | none =>
      rw [e2] at hp
      exact hp.elim
theorem o_ne : Op2 X W (fun x y H Q => rNe x y H Q ∨ rNeD X.K x y H Q) gNe := by
  intro σ H Q π M x y u v ru rv hm hp
  unfold gNe eqM at hp
  cases e : scalEq x y with
  | some b =>
    rw [e] at hp
    obtain ⟨h1, h2⟩ := scalEq_ok e ru rv
    exact .inl ⟨h1, by rw [h2]; exact hp.ok (rvb _ _ _) hm⟩
  | none =>
    rw [e] at hp
    cases e2 : deepEq M x y with
    | some b =>
      rw [e2] at hp
      obtain ⟨d, d', h1, h2, h3, h4, h5⟩ := deepEq_ok e2 hm ru rv
      exact .inr ⟨d, d', h1, h2, h3, h4, by rw [h5]; exact hp.ok (rvb _ _ _) hm⟩
    | none =>
      rw [e2] at hp
      exact hp.elim

/-! ### is -/
def isNon : MV → Bool
  | .non => true
  | _ => false
def gIsN : G2 := fun x y M => match y with
  | .non => .ok (.bl (isNon x)) M
  | .bl j => match x with
    | .bl i => .ok (.bl (decide (i = j))) M
    | _ => .stuck
  | _ => .stuck
def gNotN : G2 := fun x y M => match y with
  | .non => .ok (.bl (!isNon x)) M
  | .bl j => match x with
    | .bl i => .ok (.bl (!decide (i = j))) M
    | _ => .stuck
  | _ => .stuck
theorem RV.isN {x : MV} {u : V} (r : RV X.K π H x u) : decide (u = V.non) = isNon x := by
  cases x with
  | non => rw [RV_non] at r; subst r; rfl
  | bl i => rw [RV_bl] at r; subst r; rfl
  | int i => rw [RV_int] at r; subst r; rfl
  | str i => rw [RV_str] at r; subst r; rfl
  | tup xs => unfold RV at r; obtain ⟨a, vs, rfl, _⟩ := r; rfl
  | ref n => unfold RV at r; obtain ⟨a, rfl, _⟩ := r; rfl
abbrev rIsA : R2 := fun x y H Q => (fun x y H Q => y = V.non ∧ Q (.bl (decide (x = .non))) H) x y H Q ∨ rIsB x y H Q
abbrev rNotA : R2 := fun x y H Q => (fun x y H Q => y = V.non ∧ Q (.bl (!decide (x = .non))) H) x y H Q ∨ rNotB x y H Q
theorem op_isA : OpR X (compareOp .Is) rIsA := opOr op_isN op_isBl
theorem op_notA : OpR X (compareOp .IsNot) rNotA := opOr op_notN op_notBl
theorem o_is : Op2 X W rIsA gIsN := by
  intro σ H Q π M x y u v ru rv hm hp
  unfold gIsN at hp
  split at hp
  · rw [RV_non] at rv
    refine .inl ⟨rv, ?_⟩
    rw [ru.isN]
    exact hp.ok (rvb _ _ _) hm
  · split at hp
    · rw [RV_bl] at ru rv
      exact .inr ⟨_, _, ru, rv, hp.ok (rvb _ _ _) hm⟩
    · exact hp.elim
  · exact hp.elim
theorem o_not : Op2 X W rNotA gNotN := by
  intro σ H Q π M x y u v ru rv hm hp
  unfold gNotN at hp
  split at hp
  · rw [RV_non] at rv
    refine .inl ⟨rv, ?_⟩
    rw [ru.isN]
    exact hp.ok (rvb _ _ _) hm
  · split at hp
    · rw [RV_bl] at ru rv
      exact .inr ⟨_, _, ru, rv, hp.ok (rvb _ _ _) hm⟩
    · exact hp.elim
  · exact hp.elim

/-! ### an item, a slice -/
def gIx : G2 := fun x y M => match y with
  | .int i => match x with
    | .tup xs => match atI xs i with
      | some v => .ok v M
      | none => .stuck
    | .str z => if small z.length = true then (match atI z.cps.toList i with
      | some c => .ok (.str ⟨#[c]⟩) M
      | none => .stuck) else .stuck
    | x => match lstOf M x with
      | some xs => match atI xs i with
        | some v => .ok v M
        | none => .stuck
      | none => .stuck
  | _ => .stuck
theorem RVs.atI {xs : List MV} {vs : List V} {i : Int} {x : MV} (r : RVs X.K π H xs vs) (e : L2.atI xs i = some x) : ∃ v, L2.atI vs i = some v ∧ RV X.K π H x v := by
  unfold L2.atI at e ⊢
  rw [← r.length]
  cases h : ixN xs.length i with
  | none =>
    rw [h] at e
    cases e
  | some j =>
    rw [h] at e
    exact r.get e
theorem o_ix : Op2 X W (rIx X.K) gIx := by
  intro σ H Q π M x y u v ru rv hm hp
  unfold gIx at hp
  split at hp
  · rename_i i
    rw [RV_int] at rv
    split at hp
    · rename_i xs
      split at hp
      · rename_i z e
        obtain ⟨a, vs, rfl, h1, h2⟩ := tup_sq ru
        obtain ⟨w', e1, e2⟩ := h2.atI e
        exact .inr (.inl ⟨a, vs, i, w', rfl, rv, h1, e1, hp.ok e2 hm⟩)
      · exact hp.elim
    · split at hp
      · rename_i hz
        split at hp
        · rename_i c e
          rw [RV_str] at ru
          exact .inr (.inr ⟨_, i, c, ru, rv, small_le hz, e, hp.ok (rvs _ _ _) hm⟩)
        · exact hp.elim
      · exact hp.elim
    · split at hp
      · rename_i xs e0
        split at hp
        · rename_i z e
          obtain ⟨a, vs, rfl, h1, h2⟩ := lstOf_sq e0 hm ru
          obtain ⟨w', e1, e2⟩ := h2.atI e
          exact .inl ⟨a, vs, i, w', rfl, rv, h1, e1, hp.ok e2 hm⟩
        · exact hp.elim
      · exact hp.elim
  · exact hp.elim
theorem fx_ix {a b : Expr} {fa fb : FE} {pos : Pos} (ha : FX X W a fa) (hb : FX X W b fb) (hs : PlainIx b) : FX X W (.Subscript a b pos) (fOp gIx fa fb) := by
  obtain ⟨t1, p1, r1⟩ := ha.to
  obtain ⟨t2, p2, r2⟩ := hb.to
  exact ⟨_, pe_ix ix_seq p1 p2 hs, rf_op o_ix r1 r2⟩
end
end FL

namespace FL
open PySem PySem.Spec PyProof.Rows L2
/-! ### values are told apart -/
mutual
def beqV : MV → MV → Bool
  | .non, .non => true
  | .bl a, .bl b => decide (a = b)
  | .int a, .int b => decide (a = b)
  | .str a, .str b => decide (a = b)
  | .tup a, .tup b => beqVs a b
  | .ref a, .ref b => decide (a = b)
  | _, _ => false
def beqVs : List MV → List MV → Bool
  | [], [] => true
  | a :: as, b :: bs => beqV a b && beqVs as bs
  | _, _ => false
end
mutual
theorem eq_of_beqV : ∀ a b : MV, beqV a b = true → a = b
  | .non, b, h => by cases b <;> simp_all [beqV]
  | .bl a, b, h => by cases b <;> simp_all [beqV]
  | .int a, b, h => by cases b <;> simp_all [beqV]
  | .str a, b, h => by cases b <;> simp_all [beqV]
  | .ref a, b, h => by cases b <;> simp_all [beqV]
  | .tup a, b, h => by
    cases b with
    | tup b =>
      rw [beqV] at h
      rw [eq_of_beqVs a b h]
    | _ => simp [beqV] at h
theorem eq_of_beqVs : ∀ a b : List MV, beqVs a b = true → a = b
  | [], b, h => by cases b <;> simp_all [beqVs]
  | a :: as, b, h => by
    cases b with
    | nil => simp [beqVs] at h
    | cons b bs =>
      rw [beqVs, Bool.and_eq_true] at h
      rw [eq_of_beqV a b h.1, eq_of_beqVs as bs h.2]
end
mutual
theorem beqV_self : ∀ a : MV, beqV a a = true
  | .non => rfl
  | .bl a => by simp [beqV]
  | .int a => by simp [beqV]
  | .str a => by simp [beqV]
  | .ref a => by simp [beqV]
  | .tup a => by rw [beqV]; exact beqVs_self a
theorem beqVs_self : ∀ a : List MV, beqVs a a = true
  | [] => rfl
  | a :: as => by rw [beqVs, beqV_self a, beqVs_self as]; rfl
end
instance : DecidableEq MV := fun a b => if h : beqV a b = true then .isTrue (eq_of_beqV a b h) else .isFalse fun e => h (e ▸ beqV_self a)
section
variable {X : Cx} {W : WX} {σ : St} {π π1 : List Addr} {H H1 : Hp} {ρ : Rho} {M : MH}
/-! ### slices -/
abbrev FO := Rho → MH → Res (Option Int)
structure FXO (X : Cx) (W : WX) (e : Option Expr) (f : FO) : Prop where
  to : ∃ t, PO X e t ∧ RF X W REq t f
def foNone : FO := fun _ M => .ok none M
def foSome (f : FE) : FO := fun ρ M => (f ρ M).bind fun x M1 => match x with
  | .int i => .ok (some i) M1
  | _ => .stuck
theorem fo_none : FXO X W none foNone := ⟨_, po_none, fun σ H Q π ρ M hs hm hp => hp.ok rfl hm⟩
theorem fo_some {e : Expr} {f : FE} (h : FX X W e f) : FXO X W (some e) (foSome f) := by
  obtain ⟨t1, p1, r1⟩ := h.to
  refine ⟨_, po_some p1, ?_⟩
  intro σ H Q π ρ M hs hm hp
  refine r1.bind hs hm hp fun x M1 u H1 π1 e1 ru m1 hp1 => ?_
  cases x with
  | int i =>
    rw [RV_int] at ru
    exact ⟨i, ru, hp1.ok rfl m1⟩
  | _ => exact hp1.elim
def cutM {α : Type} (xs : List α) (lo hi : Option Int) : List α := (xs.drop (HT.sIx xs.length 0 lo)).take (HT.sIx xs.length xs.length hi - HT.sIx xs.length 0 lo)
theorem RVs.cut {xs : List MV} {vs : List V} (lo hi : Option Int) (r : RVs X.K π H xs vs) : RVs X.K π H (cutM xs lo hi) (cutV vs lo hi) := by
  unfold cutM cutV
  rw [r.length]
  exact (r.drop _).take _
def gSl (x : MV) (lo hi : Option Int) (M : MH) : Res MV := match x with
  | .tup xs => .ok (.tup (cutM xs lo hi)) M
  | .str z => if small z.length = true then .ok (.str (cutS z lo hi)) M else .stuck
  | x => match lstOf M x with
    | some xs => .ok (.ref M.length) (M ++ [.lst (cutM xs lo hi)])
    | none => .stuck
def fSl (f : FE) (l h : FO) : FE := fun ρ M => (f ρ M).bind fun x M1 => (l ρ M1).bind fun lo M2 => (h ρ M2).bind fun hi M3 => gSl x lo hi M3
theorem cut_whole {xs : List MV} {lo hi : Option Int} (h : HT.sIx xs.length 0 lo = 0 ∧ HT.sIx xs.length xs.length hi = xs.length) : cutM xs lo hi = xs := by
  unfold cutM
  rw [h.1, h.2]
  simp
theorem fx_sl {e : Expr} {lo hi : Option Expr} {f : FE} {l h : FO} {p2 pos : Pos} (he : FX X W e f) (hl : FXO X W lo l) (hh : FXO X W hi h) : FX X W (.Subscript e (.Slice lo hi none p2) pos) (fSl f l h) := by
  obtain ⟨t1, p1, r1⟩ := he.to
  obtain ⟨t2, q2, r2⟩ := hl.to
  obtain ⟨t3, q3, r3⟩ := hh.to
  refine ⟨_, pe_slice (sl_list.or (sl_tupA.or sl_str)) p1 q2 q3, ?_⟩
  intro σ H Q π ρ M hs hm hp
  refine r1.bind hs hm hp fun x M1 u H1 π1 e1 ru m1 hp1 => ?_
  refine r2.bind (hs.ext e1) m1 hp1 fun lo M2 lo' H2 π2 e2 re2 m2 hp2 => ?_
  cases re2
  refine r3.bind ((hs.ext e1).ext e2) m2 hp2 fun hi M3 hi' H3 π3 e3 re3 m3 hp3 => ?_
  cases re3
  have ru3 := ru.ext (e2.trans e3)
  unfold gSl at hp3
  split at hp3
  · rename_i xs
    have ru4 := ru3
    obtain ⟨a, vs, rfl, h1, h2⟩ := tup_sq ru3
    refine .inr (.inl ⟨a, vs, rfl, h1, fun hw => ?_, fun hw p hn => ?_⟩)
    · rw [← h2.length] at hw
      rw [cut_whole hw] at hp3
      exact hp3.ok ru4 m3
    · have e : Ext π3 H3 π3 (upd H3 p (.tup (cutV vs lo hi))) := Ext.new hn
      refine hp3 _ _ π3 e ?_ (m3.keep fun b u q => by rw [upd_ne (ne_of_none q hn)]; exact q)
      unfold RV
      exact ⟨p, _, rfl, .inl upd_same, (h2.cut lo hi).ext e⟩
  · split at hp3
    · rename_i z hz
      rw [RV_str] at ru3
      exact .inr (.inr ⟨z, ru3, small_le hz, hp3.ok (rvs _ _ _) m3⟩)
    · exact hp3.elim
  · split at hp3
    · rename_i xs e0
      obtain ⟨a, vs, rfl, h1, h2⟩ := lstOf_sq e0 m3 ru3
      exact .inl ⟨a, vs, rfl, h1, fun p hn => new_lst (α := Unit) hp3 m3 (h2.cut lo hi) hn⟩
    · exact hp3.elim
/-- xs[::-1] -/
def fRev (f : FE) : FE := fun ρ M => (f ρ M).bind fun x M1 => match lstOf M1 x with
  | some xs => .ok (.ref M1.length) (M1 ++ [.lst xs.reverse])
  | none => .stuck
theorem fx_rev {e : Expr} {f : FE} {k : Nat} {p1 p2 p3 pos : Pos} (h : FX X W e f) : FX X W (.Subscript e (.Slice none none (some (.UnaryOp .USub (.Constant (.int 1) k p1) p2)) p3) pos) (fRev f) := by
  obtain ⟨t1, q1, r1⟩ := h.to
  refine ⟨_, pe_revL q1, ?_⟩
  intro σ H Q π ρ M hs hm hp
  refine r1.bind hs hm hp fun x M1 u H1 π1 e1 ru m1 hp1 => ?_
  cases e0 : lstOf M1 x with
  | some xs =>
    rw [e0] at hp1
    obtain ⟨a, vs, rfl, h1, h2⟩ := lstOf_sq e0 m1 ru
    exact ⟨a, vs, rfl, h1, fun p hn => new_lst (α := Unit) hp1 m1 h2.reverse hn⟩
  | none =>
    rw [e0] at hp1
    exact hp1.elim
/-- -n -/
def fNeg (f : FE) : FE := fun ρ M => (f ρ M).bind fun x M1 => match x with
  | .int i => .ok (.int (-i)) M1
  | _ => .stuck
theorem fx_neg {e : Expr} {f : FE} {pos : Pos} (h : FX X W e f) : FX X W (.UnaryOp .USub e pos) (fNeg f) := by
  obtain ⟨t1, q1, r1⟩ := h.to
  refine ⟨_, pe_un un_neg q1, ?_⟩
  intro σ H Q π ρ M hs hm hp
  refine r1.bind hs hm hp fun x M1 u H1 π1 e1 ru m1 hp1 => ?_
  cases x with
  | int i =>
    rw [RV_int] at ru
    exact ⟨i, ru, hp1.ok (rvi _ _ _) m1⟩
  | _ => exact hp1.elim

/-! ### calls of builtins -/
abbrev GN := List MV → MH → Res MV
def OpN (X : Cx) (W : WX) (r : List V → Hp → VK → Prop) (g : GN) : Prop := ∀ σ H Q π M xs vs, RVs X.K π H xs vs → RM X.prog X.w X.K X.mg π H M → PostR X W (RV X.K) σ π H (g xs M) Q → r vs H Q
def fFn (g : GN) (a : FA) : FE := fun ρ M => (a ρ M).bind fun xs M1 => g xs M1
theorem rf_fn {r : List V → Hp → VK → Prop} {g : GN} {t : TA} {a : FA} (ho : OpN X W r g) (h : RF X W (RVs X.K) t a) : RF X W (RV X.K) (tCB r t) (fFn g a) := by
  intro σ H Q π ρ M hs hm hp
  refine h.bind hs hm hp fun xs M1 vs H1 π1 e1 rv m1 hp1 => ?_
  exact ho σ H1 Q π1 M1 xs vs rv m1 hp1
theorem fx_callB {id : String} {x : Str} {p pos : Pos} {e : Expr} {es : List Expr} {r : List V → Hp → VK → Prop} {g : GN} {a : FA} (hc : CallR X (.builtin id) r) (ho : OpN X W r g) (hg : Gl X x) (hm : X.mg x = none) (hv : bootBuiltins x = some (.builtin id)) (ha : FXA X W (e :: es) a)
    (hn : x ≠ "__name__" := by decide) (hdb : (x == ("__debug__" : Str)) = false := by decide) (he : starEach (e :: es) X.env = (false, eval e X.env) :: starEach es X.env := by rfl) (hpl : (backTo pos (starEach es X.env)).any (·.1) = false := by rfl) :
    FX X W (.Call (.Name x p) (e :: es) [] pos) (fFn g a) := by
  obtain ⟨t1, q1, r1⟩ := ha.to
  exact ⟨_, pe_callB hc hg hm hv q1 hn hdb he hpl, rf_fn ho r1⟩
theorem fx_callT {id : String} {x : Str} {p pos : Pos} {e : Expr} {es : List Expr} {r : List V → Hp → VK → Prop} {g : GN} {a : FA} (hc : CallR X (.type id) r) (ho : OpN X W r g) (hg : Gl X x) (hm : X.mg x = none) (hv : bootBuiltins x = some (.type id)) (ha : FXA X W (e :: es) a)
    (hn : x ≠ "__name__" := by decide) (hdb : (x == ("__debug__" : Str)) = false := by decide) (he : starEach (e :: es) X.env = (false, eval e X.env) :: starEach es X.env := by rfl) (hpl : (backTo pos (starEach es X.env)).any (·.1) = false := by rfl) :
    FX X W (.Call (.Name x p) (e :: es) [] pos) (fFn g a) := by
  obtain ⟨t1, q1, r1⟩ := ha.to
  exact ⟨_, pe_callTy hc hg hm hv q1 hn hdb he hpl, rf_fn ho r1⟩
/-- len: of a list, a tuple, a text -/
def gLen : GN := fun xs M => match xs with
  | [.tup ys] => .ok (.int ys.length) M
  | [.str z] => if small z.length = true then .ok (.int z.length) M else .stuck
  | [x] => match lstOf M x with
    | some ys => .ok (.int ys.length) M
    | none => .stuck
  | _ => .stuck
theorem o_len : OpN X W (fun xs H Q => ∃ x n, xs = [x] ∧ LenV X.K x H n ∧ Q (.int n) H) gLen := by
  intro σ H Q π M xs vs r hm hp
  unfold gLen at hp
  split at hp
  · obtain ⟨v, ws, rfl, r1, r2⟩ := r.uncons
    rw [r2.unnil]
    obtain ⟨a, us, rfl, h1, h2⟩ := tup_sq r1
    exact ⟨_, _, rfl, .inr ⟨us, h1, rfl⟩, by rw [← h2.length]; exact hp.ok (rvi _ _ _) hm⟩
  · obtain ⟨v, ws, rfl, r1, r2⟩ := r.uncons
    rw [r2.unnil]
    rw [RV_str] at r1
    subst r1
    split at hp
    · rename_i hz
      exact ⟨_, _, rfl, ⟨small_le hz, rfl⟩, hp.ok (rvi _ _ _) hm⟩
    · exact hp.elim
  · obtain ⟨v, ws, rfl, r1, r2⟩ := r.uncons
    rw [r2.unnil]
    split at hp
    · rename_i ys e0
      obtain ⟨a, us, rfl, h1, h2⟩ := lstOf_sq e0 hm r1
      exact ⟨_, _, rfl, .inl ⟨us, h1, rfl⟩, by rw [← h2.length]; exact hp.ok (rvi _ _ _) hm⟩
    · exact hp.elim
  · exact hp.elim
/-- list(x), tuple(x) of a list or a tuple -/
def gList : GN := fun xs M => match xs with
  | [.tup ys] => .ok (.ref M.length) (M ++ [.lst ys])
  | [x] => match lstOf M x with
    | some ys => .ok (.ref M.length) (M ++ [.lst ys])
    | none => .stuck
  | _ => .stuck
def gTuple : GN := fun xs M => match xs with
  | [.tup ys] => .ok (.tup ys) M
  | [x] => match lstOf M x with
    | some ys => .ok (.tup ys) M
    | none => .stuck
  | _ => .stuck
theorem o_list : OpN X W (fun xs H Q => ∃ p ys, xs = [.ref p] ∧ (SqL X.K H p ys ∨ SqT X.K H p ys) ∧ ∀ l, H l = none → Q (.ref l) (upd H l (.lst ys))) gList := by
  intro σ H Q π M xs vs r hm hp
  unfold gList at hp
  split at hp
  · obtain ⟨v, ws, rfl, r1, r2⟩ := r.uncons
    rw [r2.unnil]
    obtain ⟨a, us, rfl, h1, h2⟩ := tup_sq r1
    exact ⟨a, us, rfl, .inr h1, fun l hn => new_lst (α := Unit) hp hm h2 hn⟩
  · obtain ⟨v, ws, rfl, r1, r2⟩ := r.uncons
    rw [r2.unnil]
    split at hp
    · rename_i ys e0
      obtain ⟨a, us, rfl, h1, h2⟩ := lstOf_sq e0 hm r1
      exact ⟨a, us, rfl, .inl h1, fun l hn => new_lst (α := Unit) hp hm h2 hn⟩
    · exact hp.elim
  · exact hp.elim
theorem o_tuple : OpN X W (fun xs H Q => ∃ p ys, xs = [.ref p] ∧ ((SqL X.K H p ys ∧ ∀ l, H l = none → Q (.ref l) (upd H l (.tup ys))) ∨ (SqT X.K H p ys ∧ Q (.ref p) H))) gTuple := by
  intro σ H Q π M xs vs r hm hp
  unfold gTuple at hp
  split at hp
  · obtain ⟨v, ws, rfl, r1, r2⟩ := r.uncons
    rw [r2.unnil]
    have r1' := r1
    obtain ⟨a, us, rfl, h1, h2⟩ := tup_sq r1
    exact ⟨a, us, rfl, .inr ⟨h1, hp.ok r1' hm⟩⟩
  · obtain ⟨v, ws, rfl, r1, r2⟩ := r.uncons
    rw [r2.unnil]
    split at hp
    · rename_i ys e0
      obtain ⟨a, us, rfl, h1, h2⟩ := lstOf_sq e0 hm r1
      refine ⟨a, us, rfl, .inl ⟨h1, fun p hn => ?_⟩⟩
      have e : Ext π H π (upd H p (.tup us)) := Ext.new hn
      refine hp _ _ π e ?_ (hm.keep fun b u q => by rw [upd_ne (ne_of_none q hn)]; exact q)
      unfold RV
      exact ⟨p, _, rfl, .inl upd_same, h2.ext e⟩
    · exact hp.elim
  · exact hp.elim
def gMax : GN := fun xs M => match xs with
  | [.int i, .int j] => .ok (.int (if j > i then j else i)) M
  | _ => .stuck
def gMin : GN := fun xs M => match xs with
  | [.int i, .int j] => .ok (.int (if j < i then j else i)) M
  | _ => .stuck
theorem two_ints {i j : Int} {vs : List V} (r : RVs X.K π H [.int i, .int j] vs) : vs = [.int i, .int j] := by
  obtain ⟨v, ws, rfl, r1, r2⟩ := r.uncons
  obtain ⟨v2, ws2, rfl, r3, r4⟩ := r2.uncons
  rw [r4.unnil]
  rw [RV_int] at r1 r3
  rw [r1, r3]
theorem o_max : OpN X W (fun xs H Q => ∃ i j, xs = [.int i, .int j] ∧ Q (.int (if j > i then j else i)) H) gMax := by
  intro σ H Q π M xs vs r hm hp
  unfold gMax at hp
  split at hp
  · exact ⟨_, _, two_ints r, hp.ok (rvi _ _ _) hm⟩
  · exact hp.elim
theorem o_min : OpN X W (fun xs H Q => ∃ i j, xs = [.int i, .int j] ∧ Q (.int (if j < i then j else i)) H) gMin := by
  intro σ H Q π M xs vs r hm hp
  unfold gMin at hp
  split at hp
  · exact ⟨_, _, two_ints r, hp.ok (rvi _ _ _) hm⟩
  · exact hp.elim
/-- truths -/
def allB : List MV → Option (List Bool)
  | [] => some []
  | .bl b :: xs => (allB xs).map (b :: ·)
  | _ => none
theorem allB_ok : ∀ {xs : List MV} {bs : List Bool} {vs : List V}, allB xs = some bs → RVs X.K π H xs vs → vs = bs.map V.bl
  | [], _, _, e, r => by
    cases e
    exact r.unnil
  | .bl b :: xs, bs, _, e, r => by
    obtain ⟨v, ws, rfl, r1, r2⟩ := r.uncons
    rw [RV_bl] at r1
    unfold allB at e
    obtain ⟨cs, e1, rfl⟩ := Option.map_eq_some_iff.mp e
    rw [List.map_cons, r1, allB_ok e1 r2]
  | .non :: _, _, _, e, _ => by cases e
  | .int _ :: _, _, _, e, _ => by cases e
  | .str _ :: _, _, _, e, _ => by cases e
  | .tup _ :: _, _, _, e, _ => by cases e
  | .ref _ :: _, _, _, e, _ => by cases e
def gAll : GN := fun xs M => match xs with
  | [x] => match lstOf M x with
    | some ys => match allB ys with
      | some bs => .ok (.bl (bs.all id)) M
      | none => .stuck
    | none => .stuck
  | _ => .stuck
def gAny : GN := fun xs M => match xs with
  | [x] => match lstOf M x with
    | some ys => match allB ys with
      | some bs => .ok (.bl (bs.any id)) M
      | none => .stuck
    | none => .stuck
  | _ => .stuck
theorem o_all : OpN X W (rAll X.K) gAll := by
  intro σ H Q π M xs vs r hm hp
  unfold gAll at hp
  split at hp
  · obtain ⟨v, ws, rfl, r1, r2⟩ := r.uncons
    rw [r2.unnil]
    split at hp
    · rename_i ys e0
      split at hp
      · rename_i bs e1
        obtain ⟨a, us, rfl, h1, h2⟩ := lstOf_sq e0 hm r1
        exact ⟨a, bs, rfl, by rw [← allB_ok e1 h2]; exact h1, hp.ok (rvb _ _ _) hm⟩
      · exact hp.elim
    · exact hp.elim
  · exact hp.elim
theorem o_any : OpN X W (rAny X.K) gAny := by
  intro σ H Q π M xs vs r hm hp
  unfold gAny at hp
  split at hp
  · obtain ⟨v, ws, rfl, r1, r2⟩ := r.uncons
    rw [r2.unnil]
    split at hp
    · rename_i ys e0
      split at hp
      · rename_i bs e1
        obtain ⟨a, us, rfl, h1, h2⟩ := lstOf_sq e0 hm r1
        exact ⟨a, bs, rfl, by rw [← allB_ok e1 h2]; exact h1, hp.ok (rvb _ _ _) hm⟩
      · exact hp.elim
    · exact hp.elim
  · exact hp.elim
/-- isinstance(x, T), T a built-in class -/
def tyName (M : MH) : MV → Option String
  | .non => some "NoneType"
  | .bl _ => some "bool"
  | .int _ => some "int"
  | .str _ => some "str"
  | .tup _ => some "tuple"
  | .ref n => match M[n]? with
    | some (.lst _) => some "list"
    | some (.cst _) => some "list"
    | _ => none
def fIsi (T : String) (f : FE) : FE := fun ρ M => (f ρ M).bind fun x M1 => match tyName M1 x with
  | some a => match kitB a T with
    | some b => .ok (.bl b) M1
    | none => .stuck
  | none => .stuck
theorem tyName_ok {x : MV} {a : String} {u : V} (e : tyName M x = some a) (hm : RM X.prog X.w X.K X.mg π H M) (r : RV X.K π H x u) : TyX X.K H u (.type a) := by
  cases x with
  | non => rw [RV_non] at r; subst r; cases e; exact .base .non
  | bl b => rw [RV_bl] at r; subst r; cases e; exact .base (.bl _)
  | int b => rw [RV_int] at r; subst r; cases e; exact .base (.int _)
  | str b => rw [RV_str] at r; subst r; cases e; exact .base (.str _)
  | tup xs =>
    unfold RV at r
    obtain ⟨p, vs, rfl, h1, h2⟩ := r
    cases e
    rcases h1 with h1 | ⟨o, its, n, h1, h3, _⟩
    · exact .base (.tup h1)
    · exact .kTuple h1 h3
  | ref n =>
    unfold RV at r
    obtain ⟨p, rfl, hp⟩ := r
    cases q : M[n]? with
    | none => simp [tyName, q] at e
    | some o =>
      cases o with
      | lst ys =>
        simp only [tyName, q, Option.some.injEq] at e
        subst e
        obtain ⟨vs, h1, h2⟩ := hm.at_ hp q
        exact .base (.lst h1)
      | cst ys =>
        simp only [tyName, q, Option.some.injEq] at e
        subst e
        obtain ⟨vs, h1, h2⟩ := hm.at_ hp q
        rcases h1 with ⟨o, h1⟩ | ⟨o, its, n, h1, h3, _⟩
        · exact .base (.frz h1)
        · exact .kList h1 h3
      | dct _ => simp [tyName, q] at e
      | ins _ _ => simp [tyName, q] at e
theorem fx_isi {T : String} {x y : Str} {p p2 pos : Pos} {e : Expr} {f : FE} (hg : Gl X x) (hm : X.mg x = none) (hv : bootBuiltins x = some (.builtin "isinstance")) (hg2 : Gl X y) (hm2 : X.mg y = none) (hv2 : bootBuiltins y = some (.type T)) (h : FX X W e f)
    (hn : x ≠ "__name__" := by decide) (hdb : (x == ("__debug__" : Str)) = false := by decide) (hn2 : y ≠ "__name__" := by decide) (hdb2 : (y == ("__debug__" : Str)) = false := by decide)
    (he : starEach [e, .Name y p2] X.env = (false, eval e X.env) :: starEach [.Name y p2] X.env := by rfl) (he2 : starEach [.Name y p2] X.env = (false, eval (.Name y p2) X.env) :: starEach [] X.env := by rfl) (hpl : (backTo pos (starEach [.Name y p2] X.env)).any (·.1) = false := by rfl) :
    FX X W (.Call (.Name x p) [e, .Name y p2] [] pos) (fIsi T f) := by
  obtain ⟨t1, q1, r1⟩ := h.to
  refine ⟨_, pe_callB call_isi hg hm hv (pa_cons q1 (pa_cons (pe_bltn (v := .ty T) hg2 hm2 hv2 rfl hn2 hdb2) pa_nil he2) he) hn hdb he hpl, ?_⟩
  intro σ H Q π ρ M hs hm hp
  refine r1.bind hs hm hp fun z M1 u H1 π1 e1 ru m1 hp1 => ?_
  cases e2 : tyName M1 z with
  | none =>
    rw [e2] at hp1
    exact hp1.elim
  | some a =>
    rw [e2] at hp1
    cases e3 : kitB a T with
    | none =>
      simp only [e3] at hp1
      exact hp1.elim
    | some b =>
      simp only [e3] at hp1
      exact ⟨u, .ty T, .type a, .type T, b, rfl, .ty T, tyName_ok e2 m1 ru, kit_ty e3, hp1.ok (rvb _ _ _) m1⟩
end
end FL

namespace FL
open PySem PySem.Spec PyProof.Rows L2
section
variable {X : Cx} {W : WX} {σ : St} {π π1 : List Addr} {H H1 : Hp} {ρ : Rho} {M : MH}
/-! ### statements -/
def sNext : FS := fun ρ M => .next ρ M
def sBrk : FS := fun ρ M => .brk ρ M
def sCnt : FS := fun ρ M => .cnt ρ M
def sSeq (f g : FS) : FS := fun ρ M => (f ρ M).seq g
def sDrop (f : FE) : FS := fun ρ M => (f ρ M).stm ρ fun _ M1 => .next ρ M1
def sRet (f : FE) : FS := fun ρ M => (f ρ M).stm ρ fun x M1 => .ret x M1
def sRetN : FS := fun _ M => .ret .non M
def sIf (c : FT) (a b : FS) : FS := fun ρ M => (c ρ M).stm ρ fun k M1 => if k = true then a ρ M1 else b ρ M1
theorem fb_nil : FXB X W [] sNext := ⟨_, pss_nil, fun D σ H π ρ M hs hm hp => hp σ H π Ext.refl hs hm⟩
theorem fs_pass {pos : Pos} : FXS X W (.Pass pos) sNext := ⟨_, ps_pass, fun D σ H π ρ M hs hm hp => hp σ H π Ext.refl hs hm⟩
theorem fs_break {pos : Pos} : FXS X W (.Break pos) sBrk := ⟨_, ps_break, fun D σ H π ρ M hs hm hp => hp σ H π Ext.refl hs hm⟩
theorem fs_continue {pos : Pos} : FXS X W (.Continue pos) sCnt := ⟨_, ps_continue, fun D σ H π ρ M hs hm hp => hp σ H π Ext.refl hs hm⟩
theorem fb_one {st : Stmt} {f : FS} (h : FXS X W st f) : FXB X W [st] f := let ⟨t, p, r⟩ := h.to; ⟨t, pss_one p, r⟩
theorem rfs_seq {t u : TS} {f g : FS} (r1 : RFS X W t f) (r2 : RFS X W u g) : RFS X W (tSeq t u) (sSeq f g) := by
  intro D σ H π ρ M hs hm hp
  refine r1 { D with nx := u D } σ H π ρ M hs hm ?_
  unfold sSeq at hp
  cases e : f ρ M with
  | next ρ1 M1 =>
    rw [e] at hp
    exact fun σ' H' π' e' hs' hm' => r2 D σ' H' π' ρ1 M1 hs' hm' (PostS.mono e' hp)
  | brk ρ1 M1 => rw [e] at hp; exact hp
  | cnt ρ1 M1 => rw [e] at hp; exact hp
  | ret x M1 => rw [e] at hp; exact hp
  | ex c fs ρ1 M1 => rw [e] at hp; exact hp
  | stuck => rw [e] at hp; exact hp
theorem fb_cons {st : Stmt} {rest : List Stmt} {f g : FS} (h : FXS X W st f) (h2 : FXB X W rest g) : FXB X W (st :: rest) (sSeq f g) := by
  obtain ⟨t, p, r⟩ := h.to
  obtain ⟨u, q, r2⟩ := h2.to
  exact ⟨_, pss_cons p q, rfs_seq r r2⟩
theorem fs_expr {e : Expr} {f : FE} {pos : Pos} (h : FX X W e f) (hs : swapsWith e none pos.line X.env = pure false := by rfl) : FXS X W (.Expr e pos) (sDrop f) := by
  obtain ⟨t, p, r⟩ := h.to
  refine ⟨_, ps_expr p hs, ?_⟩
  intro D σ H π ρ M hs hm hp
  refine r.stm hs hm hp fun x M1 u H1 π1 e1 ru m1 hp1 => ?_
  exact hp1 σ H1 π1 Ext.refl (hs.ext e1) m1
theorem fs_ret {e : Expr} {f : FE} {pos : Pos} (h : FX X W e f) : FXS X W (.Return (some e) pos) (sRet f) := by
  obtain ⟨t, p, r⟩ := h.to
  refine ⟨_, ps_ret p, ?_⟩
  intro D σ H π ρ M hs hm hp
  refine r.stm hs hm hp fun x M1 u H1 π1 e1 ru m1 hp1 => ?_
  exact hp1 u H1 π1 Ext.refl ru m1
theorem fs_retN {pos : Pos} : FXS X W (.Return none pos) sRetN := ⟨_, ps_retN, fun D σ H π ρ M hs hm hp => hp .non H π Ext.refl (by rw [RV_non]) hm⟩
theorem fs_if {c : Expr} {a b : List Stmt} {fc : FT} {f g : FS} {pos : Pos} (hc : FXT X W c fc) (ha : FXB X W a f) (hb : FXB X W b g) : FXS X W (.If c a b pos) (sIf fc f g) := by
  obtain ⟨t, p, r⟩ := hc.to
  obtain ⟨t1, p1, r1⟩ := ha.to
  obtain ⟨t2, p2, r2⟩ := hb.to
  refine ⟨_, ps_if p p1 p2, ?_⟩
  intro D σ H π ρ M hs hm hp
  refine r.stm hs hm hp fun k M1 k' H1 π1 e1 rk m1 hp1 => ?_
  cases rk
  cases k with
  | true => exact r1 D σ H1 π1 ρ M1 (hs.ext e1) m1 hp1
  | false => exact r2 D σ H1 π1 ρ M1 (hs.ext e1) m1 hp1

/-! ### targets -/
abbrev FG := MV → Rho → Option Rho
structure FXG (X : Cx) (e : Expr) (g : FG) : Prop where
  to : ∃ t, PG X e t ∧ ∀ (x : MV) (v : V) (σ : St) (H : Hp) (π : List Addr) (ρ ρ' : Rho) (Q : St → Hp → Prop), RV X.K π H x v → RS X.K π H σ ρ → g x ρ = some ρ' → (∀ σ', RS X.K π H σ' ρ' → Q σ' H) → t v σ H Q
structure FXGs (X : Cx) (es : List Expr) (g : List MV → Rho → Option Rho) : Prop where
  to : ∃ t, PGs X es t ∧ ∀ (xs : List MV) (vs : List V) (σ : St) (H : Hp) (π : List Addr) (ρ ρ' : Rho) (Q : St → Hp → Prop), RVs X.K π H xs vs → RS X.K π H σ ρ → g xs ρ = some ρ' → (∀ σ', RS X.K π H σ' ρ' → Q σ' H) → t vs σ H Q
def gtName (i : Nat) : FG := fun x ρ => some (ρ.set i (some x))
def gtNil : List MV → Rho → Option Rho := fun xs ρ => match xs with
  | [] => some ρ
  | _ => none
def gtCons (g : FG) (h : List MV → Rho → Option Rho) : List MV → Rho → Option Rho := fun xs ρ => match xs with
  | x :: xs => match g x ρ with
    | some ρ1 => h xs ρ1
    | none => none
  | [] => none
def gtTup (n : Nat) (h : List MV → Rho → Option Rho) : FG := fun x ρ => match x with
  | .tup xs => if xs.length = n then h xs ρ else none
  | _ => none
theorem fg_name {i : Nat} {x : Str} {pos : Pos} (hN : X.N.Nodup) (hi : X.N[i]? = some x) (hx : Loc X.env.scope x) (hf : X.fn x = true ∨ X.env.scope.names.lookup x = some .local := by first | exact .inl rfl | exact .inr rfl | assumption) : FXG X (.Name x pos) (gtName i) := by
  refine ⟨_, pg_name hN hi hx hf, ?_⟩
  intro x v σ H π ρ ρ' Q rv hs e k
  cases e
  exact k _ (hs.set i rv)
theorem fgs_nil : FXGs X [] gtNil := by
  refine ⟨_, pgs_nil, ?_⟩
  intro xs vs σ H π ρ ρ' Q rv hs e k
  cases xs with
  | nil =>
    cases e
    exact ⟨rv.unnil, k _ hs⟩
  | cons x xs => cases e
theorem fgs_cons {e : Expr} {es : List Expr} {g : FG} {h : List MV → Rho → Option Rho} (h1 : FXG X e g) (h2 : FXGs X es h) (hs : (assignEach (e :: es) X.env).map (·.2) = assign e X.env :: (assignEach es X.env).map (·.2) := by rfl) : FXGs X (e :: es) (gtCons g h) := by
  obtain ⟨t, p, r⟩ := h1.to
  obtain ⟨u, q, r2⟩ := h2.to
  refine ⟨_, pgs_cons p q hs, ?_⟩
  intro xs vs σ H π ρ ρ' Q rv hs e k
  cases xs with
  | nil => cases e
  | cons x xs =>
    obtain ⟨v, ws, rfl, r3, r4⟩ := rv.uncons
    simp only [gtCons] at e
    cases e1 : g x ρ with
    | none =>
      rw [e1] at e
      cases e
    | some ρ1 =>
      rw [e1] at e
      exact ⟨v, ws, rfl, r x v σ H π ρ ρ1 _ r3 hs e1 fun σ' hs' => r2 xs ws σ' H π ρ1 ρ' Q r4 hs' e k⟩
theorem fg_tup {es : List Expr} {k : Nat} {pos : Pos} {h : List MV → Rho → Option Rho} {n : Nat} (hc : X.calm = true) (h1 : FXGs X es h) (hn : (assignEach es X.env).length = n := by rfl) (hst : (assignEach es X.env).findIdx? (·.1) = none := by rfl) : FXG X (.Tuple es k pos) (gtTup n h) := by
  obtain ⟨t, p, r⟩ := h1.to
  refine ⟨_, pg_tup hc p hn hst, ?_⟩
  intro x v σ H π ρ ρ' Q rv hs e k
  cases x with
  | tup xs =>
    obtain ⟨a, vs, rfl, h1, h2⟩ := tup_sq rv
    simp only [gtTup] at e
    split at e
    · rename_i hz
      exact ⟨a, vs, rfl, h1, by rw [← h2.length]; exact hz, r xs vs σ H π ρ ρ' Q h2 hs e k⟩
    · cases e
  | _ => cases e
def sAsg (f : FE) (g : FG) : FS := fun ρ M => (f ρ M).stm ρ fun x M1 => match g x ρ with
  | some ρ1 => .next ρ1 M1
  | none => .stuck
theorem rfs_asg {te : TE} {f : FE} {tg : TG} {g : FG} (r : RF X W (RV X.K) te f)
    (rg : ∀ (x : MV) (v : V) (σ : St) (H : Hp) (π : List Addr) (ρ ρ' : Rho) (Q : St → Hp → Prop), RV X.K π H x v → RS X.K π H σ ρ → g x ρ = some ρ' → (∀ σ', RS X.K π H σ' ρ' → Q σ' H) → tg v σ H Q) : RFS X W (tAsg te tg) (sAsg f g) := by
  intro D σ H π ρ M hs hm hp
  refine r.stm hs hm hp fun x M1 u H1 π1 e1 ru m1 hp1 => ?_
  cases e2 : g x ρ with
  | none =>
    rw [e2] at hp1
    exact hp1.elim
  | some ρ1 =>
    rw [e2] at hp1
    exact rg x u σ H1 π1 ρ ρ1 _ ru (hs.ext e1) e2 fun σ' hs' => hp1 σ' H1 π1 Ext.refl hs' m1
theorem fs_set {i : Nat} {x : Str} {e : Expr} {f : FE} {pos pos' : Pos} (hN : X.N.Nodup) (hi : X.N[i]? = some x) (hx : Loc X.env.scope x) (h : FX X W e f) (hs : swapsWith e (some (.Name x pos')) pos.line X.env = pure false := by rfl) (hf : X.fn x = true ∨ X.env.scope.names.lookup x = some .local := by first | exact .inl rfl | exact .inr rfl | assumption) :
    FXS X W (.Assign [.Name x pos'] e pos) (sAsg f (gtName i)) := by
  obtain ⟨t, p, r⟩ := h.to
  refine ⟨_, ps_set hN hi hx p hs hf, rfs_asg r ?_⟩
  intro x v σ H π ρ ρ' Q rv hs e k
  cases e
  exact k _ (hs.set i rv)
theorem fs_asg {tg e : Expr} {f : FE} {g : FG} {pos : Pos} (he : FX X W e f) (hg : FXG X tg g) (hs : swapsWithSole [tg] e pos.line X.env = pure false := by rfl) (hw : swappedStores [tg] e X.env = pure none := by rfl) (h1 : (assignEach [tg] X.env).map (·.2) = [assign tg X.env] := by rfl) : FXS X W (.Assign [tg] e pos) (sAsg f g) := by
  obtain ⟨t, p, r⟩ := he.to
  obtain ⟨u, q, r2⟩ := hg.to
  exact ⟨_, ps_asg p q hs hw h1, rfs_asg r r2⟩

/-! ### what is walked -/
structure Src where
  items : List MV
  chk : MH → Bool
abbrev FI := Rho → MH → Res Src
/-- an iterator gives the items, one after another, while its source stands -/
def WalkOk (X : Cx) (J : It) (π : List Addr) (H : Hp) (S : Src) : Prop := ∀ i π' H' M', Ext π H π' H' → RM X.prog X.w X.K X.mg π' H' M' → S.chk M' = true →
  (∀ x, S.items[i]? = some x → J.go i H' ∧ ∀ v H'', J.yld i H' v H'' → Ext π' H' π' H'' ∧ RM X.prog X.w X.K X.mg π' H'' M' ∧ RV X.K π' H'' x v) ∧ (S.items.length = i → J.stop i H')
def RISrc (X : Cx) : List Addr → Hp → Src → It → Prop := fun π H S J => WalkOk X J π H S
structure FXI (X : Cx) (W : WX) (tg e : Expr) (f : FI) : Prop where
  to : ∃ wi, PI X tg e wi ∧ ∀ σ H R π ρ M, RS X.K π H σ ρ → RM X.prog X.w X.K X.mg π H M → PostR X W (RISrc X) σ π H (f ρ M) R → wi σ H R
theorem WalkOk.ext {J : It} {S : Src} (e : Ext π H π1 H1) (h : WalkOk X J π H S) : WalkOk X J π1 H1 S := fun i π' H' M' e' => h i π' H' M' (e.trans e')
def chkL (n : Nat) (o : List MV) : MH → Bool := fun M => match M[n]? with
  | some (.lst ys) => beqVs ys o
  | some (.cst ys) => beqVs ys o
  | _ => false
theorem chkL_ok {n : Nat} {xs : List MV} (h : chkL n xs M = true) : lstOf M (.ref n) = some xs := by
  unfold chkL at h
  cases q : M[n]? with
  | none => rw [q] at h; cases h
  | some o =>
    cases o with
    | lst ys => rw [q] at h; simp only [lstOf, q]; rw [eq_of_beqVs _ _ h]
    | cst ys => rw [q] at h; simp only [lstOf, q]; rw [eq_of_beqVs _ _ h]
    | dct _ => rw [q] at h; cases h
    | ins _ _ => rw [q] at h; cases h
/-- the items of a value: of a list, a tuple, a text -/
def srcOf (M : MH) : MV → Option Src
  | .tup xs => some ⟨xs, fun _ => true⟩
  | .str z => some ⟨z.cps.toList.map fun c => .str ⟨#[c]⟩, fun _ => true⟩
  | .ref n => match lstOf M (.ref n) with
    | some xs => some ⟨xs, chkL n xs⟩
    | none => none
  | _ => none
def fiAny (f : FE) : FI := fun ρ M => (f ρ M).bind fun x M1 => match srcOf M1 x with
  | some S => .ok S M1
  | none => .stuck
def iAny (K : PySem.W.Frag) (te : TE) : TI := fun σ H R => te σ H fun x H1 => (∃ a, x = .ref a ∧ (∃ xs, SqL K H1 a xs) ∧ R (Itl K a) H1) ∨ (∃ a, x = .ref a ∧ (∃ xs, SqT K H1 a xs) ∧ R (Itt K a) H1) ∨ ∃ z, x = .str z ∧ R (Its z) H1
theorem pi_anyV {tg e : Expr} {te : TE} (he : PE X e te) : PI X tg e (iAny X.K te) := by
  refine ⟨fun pins s σ H R I h => ?_⟩
  refine thn (he.run pins s σ H _ I h) fun v s1 ⟨x, H1, I1, r1, q1⟩ => ?_
  rcases q1 with ⟨a, e, ⟨xs, hq⟩, q⟩ | ⟨a, e, ⟨xs, hq⟩, q⟩ | ⟨z, e, q⟩
  · subst e
    cases r1
    obtain ⟨its, rv, p, hz⟩ := I1.list hq
    exact wpAny_pyIter_list p.isList (pi_one (tk := s1.toks) I1 _ (turn_list a _) ⟨_, Heap.get?_push_size _ rfl, rfl, rfl⟩ q)
  · subst e
    cases r1
    obtain ⟨its, rv, p, hz⟩ := I1.tuple hq
    exact wpAny_pyIter_tuple (show s1.heap.IsTuple a its.toArray from p) (pi_one (tk := s1.toks) I1 _ (turn_tuple a _) ⟨_, Heap.get?_push_size _ rfl, rfl, rfl⟩ q)
  · subst e
    obtain ⟨t, rfl⟩ := r1
    cases ha : z.cps.all (· < 128)
    · exact wpAny_pyIter_wide ha (pi_one (tk := s1.toks) I1 _ (turn_str _ z t "str_iterator" (.inr rfl)) ⟨_, Heap.get?_push_size _ rfl, rfl, rfl⟩ q)
    · exact wpAny_pyIter_ascii ha (pi_one (tk := s1.toks) I1 _ (turn_str _ z t "str_ascii_iterator" (.inl rfl)) ⟨_, Heap.get?_push_size _ rfl, rfl, rfl⟩ q)
theorem SqL.uniq {K : PySem.W.Frag} {a : Addr} {xs ys : List V} (hx : ∃ o : HO, H a = some o) (h : SqL K H a xs) : SqL K H a ys → SqL K H a ys := id
theorem fi_any {tg e : Expr} {f : FE} (h : FX X W e f) : FXI X W tg e (fiAny f) := by
  obtain ⟨t, p, r⟩ := h.to
  refine ⟨_, pi_anyV p, ?_⟩
  intro σ H R π ρ M hs hm hp
  refine r.bind hs hm hp fun x M1 u H1 π1 e1 ru m1 hp1 => ?_
  cases x with
  | tup xs =>
    have ru' := ru
    unfold RV at ru'
    obtain ⟨a, vs, rfl, h1, h2⟩ := ru'
    refine .inr (.inl ⟨a, rfl, ⟨vs, h1.sq⟩, hp1 (Itt X.K a) H1 π1 Ext.refl ?_ m1⟩)
    intro i π' H' M' e' m' _
    have q1 := (h1.ext e').sq
    refine ⟨fun x hx => ?_, fun hi => ⟨vs, q1, by rw [← h2.length]; exact Nat.le_of_eq hi⟩⟩
    obtain ⟨w', g1, g2⟩ := h2.get hx
    exact ⟨⟨vs, w', q1, g1⟩, fun v H'' y => by
      obtain ⟨rfl, y⟩ := y
      have := y vs q1
      rw [g1] at this
      cases this
      exact ⟨Ext.refl, m', g2.ext e'⟩⟩
  | str z =>
    rw [RV_str] at ru
    refine .inr (.inr ⟨z, ru, hp1 (Its z) H1 π1 Ext.refl ?_ m1⟩)
    intro i π' H' M' e' m' _
    refine ⟨fun x hx => ?_, fun hi => ?_⟩
    · rw [List.getElem?_map] at hx
      obtain ⟨c, hc, rfl⟩ := Option.map_eq_some_iff.mp hx
      rw [Array.getElem?_toList] at hc
      refine ⟨(Array.getElem?_eq_some_iff.mp hc).1, fun v H'' y => ?_⟩
      obtain ⟨rfl, c', hc', rfl⟩ := y
      rw [hc] at hc'
      cases hc'
      exact ⟨Ext.refl, m', rvs _ _ _⟩
    · have : z.cps.size = i := by simpa using hi
      exact Nat.le_of_eq this
  | ref n =>
    cases e2 : lstOf M1 (.ref n) with
    | none =>
      simp only [srcOf, e2] at hp1
      exact hp1.elim
    | some xs =>
      simp only [srcOf, e2] at hp1
      have ru' := ru
      obtain ⟨a, vs, rfl, h1, h2⟩ := lstOf_sq e2 m1 ru'
      refine .inl ⟨a, rfl, ⟨vs, h1⟩, hp1 (Itl X.K a) H1 π1 Ext.refl ?_ m1⟩
      intro i π' H' M' e' m' hc
      obtain ⟨b, ws, eb, k1, k2⟩ := lstOf_sq (chkL_ok hc) m' (ru.ext e')
      cases eb
      refine ⟨fun x hx => ?_, fun hi => ⟨ws, k1, by rw [← k2.length]; exact Nat.le_of_eq hi⟩⟩
      obtain ⟨w', g1, g2⟩ := k2.get hx
      exact ⟨⟨ws, w', k1, g1⟩, fun v H'' y => by
        obtain ⟨rfl, y⟩ := y
        have := y ws k1
        rw [g1] at this
        cases this
        exact ⟨Ext.refl, m', g2⟩⟩
  | _ => exact hp1.elim
/-- the ints lo, lo + 1, .. -/
def upto (lo : Int) (n : Nat) : List MV := (List.range n).map fun (i : Nat) => MV.int (lo + i)
def small62 (i : Int) : Bool := decide (-(2 ^ 62) ≤ i) && decide (i < 2 ^ 62)
theorem small62_ok {i : Int} (h : small62 i = true) : -(2 ^ 62) ≤ i ∧ i < 2 ^ 62 := by
  unfold small62 at h
  rw [Bool.and_eq_true] at h
  exact ⟨of_decide_eq_true h.1, of_decide_eq_true h.2⟩
theorem walk_range {lo : Int} {n : Nat} : WalkOk X (Itr lo n) π H ⟨upto lo n, fun _ => true⟩ := by
  intro i π' H' M' e' m' _
  refine ⟨fun x hx => ?_, fun hi => ?_⟩
  · simp only [upto, List.getElem?_map] at hx
    obtain ⟨j, hj, rfl⟩ := Option.map_eq_some_iff.mp hx
    obtain ⟨hl, rfl⟩ := List.getElem?_eq_some_iff.mp hj
    have hl' : i < n := by simpa using hl
    refine ⟨hl', fun v H'' y => ?_⟩
    obtain ⟨rfl, rfl⟩ := y
    refine ⟨Ext.refl, m', ?_⟩
    rw [RV_int]
    simp
  · have : n = i := by simpa [upto] using hi
    exact Nat.le_of_eq this
def fiRange1 (a : FA) : FI := fun ρ M => (a ρ M).bind fun xs M1 => match xs with
  | [.int j] => if small62 j = true then .ok ⟨upto 0 j.toNat, fun _ => true⟩ M1 else .stuck
  | _ => .stuck
def fiRange2 (a : FA) : FI := fun ρ M => (a ρ M).bind fun xs M1 => match xs with
  | [.int i, .int j] => if (small62 i && small62 j) = true then .ok ⟨upto i (j - i).toNat, fun _ => true⟩ M1 else .stuck
  | _ => .stuck
theorem fi_range1 {tg a : Expr} {f : FA} {p pos : Pos} (hg : Gl X "range") (hm : X.mg "range" = none) (h : FXA X W [a] f) (hs : starEach [a] X.env = [(false, eval a X.env)] := by rfl) : FXI X W tg (.Call (.Name "range" p) [a] [] pos) (fiRange1 f) := by
  obtain ⟨t, p, r⟩ := h.to
  refine ⟨_, pi_range1 hg hm p hs, ?_⟩
  intro σ H R π ρ M hs hm hp
  refine r.bind hs hm hp fun xs M1 vs H1 π1 e1 rv m1 hp1 => ?_
  split at hp1
  · obtain ⟨v, ws, rfl, r1, r2⟩ := rv.uncons
    rw [r2.unnil]
    rw [RV_int] at r1
    subst r1
    split at hp1
    · rename_i hz
      exact ⟨_, rfl, (small62_ok hz).1, (small62_ok hz).2, hp1 _ H1 π1 Ext.refl walk_range m1⟩
    · exact hp1.elim
  · exact hp1.elim
theorem fi_range2 {tg a b : Expr} {f : FA} {p pos : Pos} (hg : Gl X "range") (hm : X.mg "range" = none) (h : FXA X W [a, b] f) (hs : starEach [a, b] X.env = [(false, eval a X.env), (false, eval b X.env)] := by rfl) (hs2 : starEach [b] X.env = [(false, eval b X.env)] := by rfl) : FXI X W tg (.Call (.Name "range" p) [a, b] [] pos) (fiRange2 f) := by
  obtain ⟨t, p, r⟩ := h.to
  refine ⟨_, pi_range2 hg hm p hs hs2, ?_⟩
  intro σ H R π ρ M hs hm hp
  refine r.bind hs hm hp fun xs M1 vs H1 π1 e1 rv m1 hp1 => ?_
  split at hp1
  · rw [two_ints rv]
    split at hp1
    · rename_i hz
      rw [Bool.and_eq_true] at hz
      have a1 := small62_ok hz.1
      have a2 := small62_ok hz.2
      exact ⟨_, _, rfl, ⟨a1.1, a1.2, a2.1, a2.2⟩, hp1 _ H1 π1 Ext.refl walk_range m1⟩
    · exact hp1.elim
  · exact hp1.elim
/-- zip of two lists -/
def zipV : List MV → List MV → List MV
  | x :: xs, y :: ys => .tup [x, y] :: zipV xs ys
  | _, _ => []
def pairO : Option MV → Option MV → Option MV
  | some x, some y => some (.tup [x, y])
  | _, _ => none
theorem zipV_get : ∀ (xs ys : List MV) (i : Nat), (zipV xs ys)[i]? = pairO xs[i]? ys[i]?
  | [], ys, i => by simp [zipV, pairO]
  | x :: xs, [], i => by cases h : (x :: xs)[i]? <;> simp [zipV, pairO]
  | x :: xs, y :: ys, 0 => by simp [zipV, pairO]
  | x :: xs, y :: ys, i + 1 => by simpa [zipV] using zipV_get xs ys i
theorem zipV_length : ∀ xs ys : List MV, (zipV xs ys).length = min xs.length ys.length
  | [], ys => by simp [zipV]
  | x :: xs, [] => by simp [zipV]
  | x :: xs, y :: ys => by
    simp only [zipV, List.length_cons, zipV_length xs ys]
    omega
def srcZip (M : MH) (x y : MV) : Option Src := match x, y with
  | .ref n, .ref m => match lstOf M (.ref n), lstOf M (.ref m) with
    | some xs, some ys => some ⟨zipV xs ys, fun M => chkL n xs M && chkL m ys M⟩
    | _, _ => none
  | _, _ => none
def fiZip (a : FA) : FI := fun ρ M => (a ρ M).bind fun xs M1 => match xs with
  | [x, y] => match srcZip M1 x y with
    | some S => .ok S M1
    | none => .stuck
  | _ => .stuck
theorem fi_zip {e e2 : Expr} {f : FA} {p pos tpos : Pos} {elts : List Expr} {kk : Nat} (hg : Gl X "zip") (hm : X.mg "zip" = none) (h : FXA X W [e, e2] f)
    (hs : starEach [e, e2] X.env = (false, eval e X.env) :: starEach [e2] X.env := by rfl) (hpl : (backTo pos (starEach [e2] X.env)).any (·.1) = false := by rfl) : FXI X W (.Tuple elts kk tpos) (.Call (.Name "zip" p) [e, e2] [] pos) (fiZip f) := by
  obtain ⟨t, p, r⟩ := h.to
  refine ⟨_, pi_zip hg hm p hs hpl, ?_⟩
  intro σ H R π ρ M hs hm hp
  refine r.bind hs hm hp fun xs M1 vs H1 π1 e1 rv m1 hp1 => ?_
  split at hp1
  · rename_i x y
    obtain ⟨v, ws, rfl, r1, r2⟩ := rv.uncons
    obtain ⟨v2, ws2, rfl, r3, r4⟩ := r2.uncons
    rw [r4.unnil]
    unfold srcZip at hp1
    cases x with
    | ref n =>
      cases y with
      | ref m =>
        cases ex : lstOf M1 (.ref n) with
        | none =>
          simp only [ex] at hp1
          exact hp1.elim
        | some xs =>
          cases ey : lstOf M1 (.ref m) with
          | none =>
            simp only [ex, ey] at hp1
            exact hp1.elim
          | some ys =>
            simp only [ex, ey] at hp1
            obtain ⟨a, us, rfl, h1, h2⟩ := lstOf_sq ex m1 r1
            obtain ⟨b, us2, rfl, k1, k2⟩ := lstOf_sq ey m1 r3
            refine ⟨a, b, us, us2, rfl, h1, k1, hp1 (Itz X.K a b) H1 π1 Ext.refl ?_ m1⟩
            intro i π' H' M' e' m' hc
            have hc' : (chkL n xs M' && chkL m ys M') = true := hc
            rw [Bool.and_eq_true] at hc'
            obtain ⟨a', vs1, ea, q1, q2⟩ := lstOf_sq (chkL_ok hc'.1) m' (r1.ext e')
            obtain ⟨b', vs2, eb, q3, q4⟩ := lstOf_sq (chkL_ok hc'.2) m' (r3.ext e')
            cases ea
            cases eb
            refine ⟨fun x hx => ?_, fun hi => ⟨vs1, vs2, q1, q3, ?_⟩⟩
            · have hx' : (zipV xs ys)[i]? = some x := hx
              rw [zipV_get] at hx'
              cases g1 : xs[i]? with
              | none => rw [g1] at hx'; cases hx'
              | some x1 =>
                cases g2 : ys[i]? with
                | none => rw [g1, g2] at hx'; cases hx'
                | some y1 =>
                  rw [g1, g2] at hx'
                  cases hx'
                  obtain ⟨w1, f1, f2⟩ := q2.get g1
                  obtain ⟨w2, f3, f4⟩ := q4.get g2
                  refine ⟨⟨vs1, vs2, w1, w2, q1, q3, f1, f3⟩, fun v H'' yy => ?_⟩
                  obtain ⟨T, x2, y2, rfl, hn, rfl, c1, c2⟩ := yy
                  have d1 := c1 vs1 q1
                  have d2 := c2 vs2 q3
                  rw [f1] at d1
                  rw [f3] at d2
                  cases d1
                  cases d2
                  have e2 : Ext π' H' π' (upd H' T (.tup [w1, w2])) := Ext.new hn
                  refine ⟨e2, m'.keep fun b u q => by rw [upd_ne (ne_of_none q hn)]; exact q, ?_⟩
                  unfold RV
                  exact ⟨T, _, rfl, .inl upd_same, RVs.cons (f2.ext e2) (RVs.cons (f4.ext e2) RVs.nil)⟩
            · have hi' : (zipV xs ys).length = i := hi
              rw [zipV_length, q2.length, q4.length] at hi'
              omega
      | _ => exact hp1.elim
    | _ => exact hp1.elim
  · exact hp1.elim
/-- reversed(a list) -/
def srcRev (M : MH) : MV → Option Src
  | .ref n => match lstOf M (.ref n) with
    | some xs => some ⟨xs.reverse, chkL n xs⟩
    | none => none
  | _ => none
def fiRev (a : FA) : FI := fun ρ M => (a ρ M).bind fun xs M1 => match xs with
  | [x] => match srcRev M1 x with
    | some S => .ok S M1
    | none => .stuck
  | _ => .stuck
theorem fi_rev {tg e : Expr} {f : FA} {p pos : Pos} (hg : Gl X "reversed") (hm : X.mg "reversed" = none) (h : FXA X W [e] f) (hs : starEach [e] X.env = [(false, eval e X.env)] := by rfl) : FXI X W tg (.Call (.Name "reversed" p) [e] [] pos) (fiRev f) := by
  obtain ⟨t, p, r⟩ := h.to
  refine ⟨_, pi_reversed hg hm p hs, ?_⟩
  intro σ H R π ρ M hs hm hp
  refine r.bind hs hm hp fun xs M1 vs H1 π1 e1 rv m1 hp1 => ?_
  split at hp1
  · rename_i x
    obtain ⟨v, ws, rfl, r1, r2⟩ := rv.uncons
    rw [r2.unnil]
    cases x with
    | ref n =>
      cases e2 : lstOf M1 (.ref n) with
      | none =>
        simp only [srcRev, e2] at hp1
        exact hp1.elim
      | some xs =>
        simp only [srcRev, e2] at hp1
        obtain ⟨a, us, rfl, h1, h2⟩ := lstOf_sq e2 m1 r1
        refine ⟨a, us, rfl, h1, hp1 (Itv X.K a us.length) H1 π1 Ext.refl ?_ m1⟩
        intro i π' H' M' e' m' hc
        obtain ⟨a', vs1, ea, q1, q2⟩ := lstOf_sq (chkL_ok hc) m' (r1.ext e')
        cases ea
        have hl : us.length = vs1.length := by rw [← h2.length, ← q2.length]
        refine ⟨fun x hx => ?_, fun hi => ?_⟩
        · have hx' : xs.reverse[i]? = some x := hx
          have hi : i < xs.length := by
            have := (List.getElem?_eq_some_iff.mp hx').1
            simpa using this
          rw [List.getElem?_reverse hi] at hx'
          obtain ⟨w1, f1, f2⟩ := q2.get hx'
          rw [h2.length] at f1 hi
          refine ⟨⟨hi, vs1, w1, q1, f1⟩, fun v H'' y => ?_⟩
          obtain ⟨rfl, y⟩ := y
          have := y vs1 q1
          rw [f1] at this
          cases this
          exact ⟨Ext.refl, m', f2⟩
        · have hi' : xs.reverse.length = i := hi
          rw [List.length_reverse, h2.length] at hi'
          exact Nat.le_of_eq hi'
    | _ => exact hp1.elim
  · exact hp1.elim

/-! ### for -/
def loopF (chk : MH → Bool) (g : FG) (body : FS) : List MV → Rho → MH → RSt
  | [], ρ, M => .next ρ M
  | x :: xs, ρ, M => match g x ρ with
    | none => .stuck
    | some ρ1 => match body ρ1 M with
      | .next ρ2 M2 => if chk M2 = true then loopF chk g body xs ρ2 M2 else .stuck
      | .cnt ρ2 M2 => if chk M2 = true then loopF chk g body xs ρ2 M2 else .stuck
      | .brk ρ2 M2 => .next ρ2 M2
      | r => r
def sFor (f : FI) (g : FG) (body : FS) : FS := fun ρ M => (f ρ M).stm ρ fun S M1 => if S.chk M1 = true then loopF S.chk g body S.items ρ M1 else .stuck
theorem rfs_for {wi : TI} {tg : TG} {tb : TS} {f : FI} {g : FG} {body : FS} (ri : ∀ σ H R π ρ M, RS X.K π H σ ρ → RM X.prog X.w X.K X.mg π H M → PostR X W (RISrc X) σ π H (f ρ M) R → wi σ H R)
    (rg : ∀ (x : MV) (v : V) (σ : St) (H : Hp) (π : List Addr) (ρ ρ' : Rho) (Q : St → Hp → Prop), RV X.K π H x v → RS X.K π H σ ρ → g x ρ = some ρ' → (∀ σ', RS X.K π H σ' ρ' → Q σ' H) → tg v σ H Q) (rb : RFS X W tb body) : RFS X W (tFor wi tg tb) (sFor f g body) := by
  intro D σ H π ρ M hs hm hp
  refine RF.stm (R1 := RISrc X) ri hs hm hp fun S M1 J H1 π1 e1 rJ m1 hp1 => ?_
  have hp1' : PostS X W σ π1 H1 (if S.chk M1 = true then loopF S.chk g body S.items ρ M1 else .stuck) D := hp1
  by_cases hc : S.chk M1 = true
  · rw [if_pos hc] at hp1'
    refine ⟨fun i m σ' H' => m = S.items.length - i ∧ i ≤ S.items.length ∧ ∃ ρ' π' M', Ext π1 H1 π' H' ∧ RS X.K π' H' σ' ρ' ∧ RM X.prog X.w X.K X.mg π' H' M' ∧ S.chk M' = true ∧ PostS X W σ' π' H' (loopF S.chk g body (S.items.drop i) ρ' M') D,
      ⟨S.items.length, by simp, Nat.zero_le _, ρ, π1, M1, Ext.refl, hs.ext e1, m1, hc, by simpa using hp1'⟩, ?_⟩
    rintro i m σ' H' ⟨rfl, hi, ρ', π', M', e', hs', m', hc', hp'⟩
    obtain ⟨go, stop⟩ := rJ i π' H' M' e' m' hc'
    by_cases hlt : i < S.items.length
    · right
      have hx : S.items[i]? = some S.items[i] := List.getElem?_eq_getElem hlt
      obtain ⟨g1, y1⟩ := go _ hx
      refine ⟨g1, fun σ2 H2 => i + 1 ≤ S.items.length ∧ ∃ ρ2 π2 M2, Ext π1 H1 π2 H2 ∧ RS X.K π2 H2 σ2 ρ2 ∧ RM X.prog X.w X.K X.mg π2 H2 M2 ∧ S.chk M2 = true ∧ PostS X W σ2 π2 H2 (loopF S.chk g body (S.items.drop (i + 1)) ρ2 M2) D, fun σ2 H2 h2 => ⟨S.items.length - (i + 1), by omega, rfl, h2⟩, fun v H'' yy => ?_⟩
      obtain ⟨e2, m2, rv⟩ := y1 v H'' yy
      rw [List.drop_eq_getElem_cons hlt] at hp'
      cases eg : g S.items[i] ρ' with
      | none =>
        simp only [loopF, eg] at hp'
        exact hp'.elim
      | some ρ1 =>
        simp only [loopF, eg] at hp'
        refine rg _ v σ' H'' π' ρ' ρ1 _ rv (hs'.ext e2) eg fun σ3 hs3 => ?_
        refine rb _ σ3 H'' π' ρ1 M' hs3 m2 ?_
        have again : ∀ (ρ2 : Rho) (M2 : MH), PostS X W σ' π' H' (if S.chk M2 = true then loopF S.chk g body (S.items.drop (i + 1)) ρ2 M2 else .stuck) D →
            ∀ σ4 H4 π4, Ext π' H'' π4 H4 → RS X.K π4 H4 σ4 ρ2 → RM X.prog X.w X.K X.mg π4 H4 M2 → i + 1 ≤ S.items.length ∧ ∃ ρ2 π2 M2, Ext π1 H1 π2 H4 ∧ RS X.K π2 H4 σ4 ρ2 ∧ RM X.prog X.w X.K X.mg π2 H4 M2 ∧ S.chk M2 = true ∧ PostS X W σ4 π2 H4 (loopF S.chk g body (S.items.drop (i + 1)) ρ2 M2) D := by
          intro ρ2 M2 hq σ4 H4 π4 e4 hs4 m4
          by_cases hc2 : S.chk M2 = true
          · rw [if_pos hc2] at hq
            exact ⟨hlt, ρ2, π4, M2, (e'.trans e2).trans e4, hs4, m4, hc2, PostS.mono (e2.trans e4) hq⟩
          · rw [if_neg hc2] at hq
            exact hq.elim
        cases eb : body ρ1 M' with
        | next ρ2 M2 =>
          rw [eb] at hp'
          exact again ρ2 M2 hp'
        | cnt ρ2 M2 =>
          rw [eb] at hp'
          exact again ρ2 M2 hp'
        | brk ρ2 M2 =>
          rw [eb] at hp'
          exact fun σ4 H4 π4 e4 hs4 m4 => hp' σ4 H4 π4 (e2.trans e4) hs4 m4
        | ret x M2 =>
          rw [eb] at hp'
          exact fun v H4 π4 e4 rv4 m4 => hp' v H4 π4 (e2.trans e4) rv4 m4
        | ex c fs ρ2 M2 =>
          rw [eb] at hp'
          exact fun C d σ4 H4 π4 e4 x4 hs4 m4 => hp' C d σ4 H4 π4 (e2.trans e4) x4 hs4 m4
        | stuck =>
          rw [eb] at hp'
          exact hp'
    · left
      have hi2 : S.items.length = i := by omega
      refine ⟨stop hi2, ?_⟩
      rw [List.drop_eq_nil_of_le (by omega)] at hp'
      exact hp' σ' H' π' Ext.refl hs' m'
  · rw [if_neg hc] at hp1'
    exact hp1'.elim
theorem fs_for {tg iter : Expr} {bd : List Stmt} {f : FI} {g : FG} {body : FS} {pos : Pos} (hp : PassesOwn (model X.prog X.w) X.A X.env X.xe) (hc : X.calm = true) (hi : FXI X W tg iter f) (hg : FXG X tg g) (hb : FXB X W bd body)
    (hs : ∀ x, foldedSetIterable iter X.env x = pure x := by intro _; rfl) : FXS X W (.For tg iter bd [] pos) (sFor f g body) := by
  obtain ⟨t1, p1, r1⟩ := hi.to
  obtain ⟨t2, p2, r2⟩ := hg.to
  obtain ⟨t3, p3, r3⟩ := hb.to
  exact ⟨_, ps_for hp hc p1 p2 p3 hs, rfs_for r1 r2 r3⟩

/-! ### while: so many turns at most -/
def whileF (c : FT) (body : FS) : Nat → Rho → MH → RSt
  | 0, _, _ => .stuck
  | n + 1, ρ, M => (c ρ M).stm ρ fun k M1 => if k = true then (match body ρ M1 with
      | .next ρ2 M2 => whileF c body n ρ2 M2
      | .cnt ρ2 M2 => whileF c body n ρ2 M2
      | .brk ρ2 M2 => .next ρ2 M2
      | r => r) else .next ρ M1
def sWhile (n : Nat) (c : FT) (body : FS) : FS := fun ρ M => whileF c body n ρ M
theorem fs_while {n : Nat} {c : Expr} {bd : List Stmt} {fc : FT} {body : FS} {pos : Pos} (hp : PassesOwn (model X.prog X.w) X.A X.env X.xe) (hc : FXT X W c fc) (hb : FXB X W bd body) : FXS X W (.While c bd [] pos) (sWhile n fc body) := by
  obtain ⟨t1, p1, r1⟩ := hc.to
  obtain ⟨t2, p2, r2⟩ := hb.to
  refine ⟨_, ps_while hp p1 p2, ?_⟩
  intro D σ H π ρ M hs hm hp
  refine ⟨fun m σ' H' => ∃ ρ' π' M', RS X.K π' H' σ' ρ' ∧ RM X.prog X.w X.K X.mg π' H' M' ∧ PostS X W σ' π' H' (whileF fc body m ρ' M') D, ⟨n, ρ, π, M, hs, hm, hp⟩, ?_⟩
  rintro m σ' H' ⟨ρ', π', M', hs', m', hp'⟩
  cases m with
  | zero => exact hp'.elim
  | succ m =>
    unfold whileF at hp'
    refine r1.stm hs' m' hp' fun k M1 k' H1 π1 e1 rk m1 hp1 => ?_
    cases rk
    cases k with
    | false => exact hp1 σ' H1 π1 Ext.refl (hs'.ext e1) m1
    | true =>
      refine ⟨fun σ2 H2 => ∃ ρ2 π2 M2, RS X.K π2 H2 σ2 ρ2 ∧ RM X.prog X.w X.K X.mg π2 H2 M2 ∧ PostS X W σ2 π2 H2 (whileF fc body m ρ2 M2) D, fun σ2 H2 h2 => ⟨m, Nat.lt_succ_self m, h2⟩, ?_⟩
      refine r2 _ σ' H1 π1 ρ' M1 (hs'.ext e1) m1 ?_
      have hp2 : PostS X W σ' π1 H1 (match body ρ' M1 with
        | .next ρ2 M2 => whileF fc body m ρ2 M2
        | .cnt ρ2 M2 => whileF fc body m ρ2 M2
        | .brk ρ2 M2 => .next ρ2 M2
        | r => r) D := hp1
      cases eb : body ρ' M1 with
      | next ρ2 M2 =>
        rw [eb] at hp2
        exact fun σ4 H4 π4 e4 hs4 m4 => ⟨ρ2, π4, M2, hs4, m4, PostS.mono e4 hp2⟩
      | cnt ρ2 M2 =>
        rw [eb] at hp2
        exact fun σ4 H4 π4 e4 hs4 m4 => ⟨ρ2, π4, M2, hs4, m4, PostS.mono e4 hp2⟩
      | brk ρ2 M2 =>
        rw [eb] at hp2
        exact hp2
      | ret x M2 =>
        rw [eb] at hp2
        exact hp2
      | ex c fs ρ2 M2 =>
        rw [eb] at hp2
        exact hp2
      | stuck =>
        rw [eb] at hp2
        exact hp2
end
end FL

namespace FL
open PySem PySem.Spec PyProof.Rows L2
/-! ### the one reading of a function -/
section
variable (X : Cx) (W : WX)
def tF {α β : Type} (R : List Addr → Hp → α → β → Prop) (f : Rho → MH → Res α) : St → Hp → (β → Hp → Prop) → Prop := fun σ H Q => ∃ π ρ M, RS X.K π H σ ρ ∧ RM X.prog X.w X.K X.mg π H M ∧ PostR X W R σ π H (f ρ M) Q
end
section
variable {X : Cx} {W : WX} {σ : St} {π π1 : List Addr} {H H1 : Hp} {ρ : Rho} {M : MH}
theorem FX.can {e : Expr} {f : FE} (h : FX X W e f) : PE X e (tF X W (RV X.K) f) := by
  obtain ⟨t, p, r⟩ := h.to
  refine ⟨fun pins s σ H Q I q => ?_⟩
  obtain ⟨π, ρ, M, hs, hm, hp⟩ := q
  exact p.run pins s σ H Q I (r σ H Q π ρ M hs hm hp)
theorem FXT.can {e : Expr} {f : FT} (h : FXT X W e f) : PT X e (tF X W REq f) := by
  obtain ⟨t, p, r⟩ := h.to
  refine ⟨fun pins s σ H Q I q => ?_⟩
  obtain ⟨π, ρ, M, hs, hm, hp⟩ := q
  exact p.run pins s σ H Q I (r σ H Q π ρ M hs hm hp)
/-! ### comprehensions -/
/-- the test of a comprehension -/
structure FXTs (X : Cx) (W : WX) (ifs : List Expr) (f : FT) : Prop where
  to : PTs X ifs (tF X W REq f)
def ftYes : FT := fun _ M => .ok true M
theorem fts_nil : FXTs X W [] ftYes := ⟨⟨fun pins s σ H Q I q => by
  obtain ⟨π, ρ, M, hs, hm, hp⟩ := q
  exact pts_nil.run pins s σ H Q I (hp.ok rfl hm)⟩⟩
theorem fts_one {c : Expr} {f : FT} (h : FXT X W c f) : FXTs X W [c] f := ⟨pts_one h.can⟩
/-- a target whose names are at the places ix -/
structure FXGw (X : Cx) (e : Expr) (g : FG) (ix : List Nat) : Prop where
  to : PG X e (fun v σ H Q => ∃ x π ρ ρ', RV X.K π H x v ∧ RS X.K π H σ ρ ∧ g x ρ = some ρ' ∧ ∀ σ', RS X.K π H σ' ρ' → (∀ vs : List Nat, (∀ i ∈ ix, i ∈ vs) → wipe σ' vs = wipe σ vs) → Q σ' H)
theorem wipe_set {x : Option V} : ∀ (vs : List Nat) (σ : St) (i : Nat), i ∈ vs → wipe (σ.set i x) vs = wipe σ vs
  | [], _, _, h => by cases h
  | v :: vs, σ, i, h => by
    unfold wipe
    by_cases hi : i ∈ vs
    · rw [wipe_set vs σ i hi]
    · have e : i = v := by
        rcases List.mem_cons.mp h with h | h
        · exact h
        · exact absurd h hi
      subst e
      have sw : ∀ (us : List Nat) (τ : St), i ∉ us → wipe (τ.set i x) us = (wipe τ us).set i x := by
        intro us
        induction us with
        | nil => intro τ _; rfl
        | cons u us ih =>
          intro τ hu
          have h1 : i ≠ u := fun z => hu (by rw [z]; exact List.mem_cons_self)
          have h2 : i ∉ us := fun z => hu (List.mem_cons_of_mem _ z)
          unfold wipe
          rw [ih τ h2, List.set_comm _ _ h1]
      rw [sw vs σ hi, List.set_set]
theorem gw_name {i : Nat} {x : Str} {pos : Pos} (hN : X.N.Nodup) (hi : X.N[i]? = some x) (hx : Loc X.env.scope x) (hf : X.fn x = true ∨ X.env.scope.names.lookup x = some .local := by first | exact .inl rfl | exact .inr rfl | assumption) : FXGw X (.Name x pos) (gtName i) [i] := ⟨⟨fun pins s σ H v u Q I r q => by
  obtain ⟨x, π, ρ, ρ', rv, hs, e, k⟩ := q
  cases e
  exact (pg_name hN hi hx hf).run pins s σ H v u Q I r (k _ (hs.set i rv) fun vs h => wipe_set vs σ i (h i List.mem_cons_self))⟩⟩
/-- several names -/
structure FXGsw (X : Cx) (es : List Expr) (g : List MV → Rho → Option Rho) (ix : List Nat) : Prop where
  to : PGs X es (fun vs σ H Q => ∃ xs π ρ ρ', RVs X.K π H xs vs ∧ RS X.K π H σ ρ ∧ g xs ρ = some ρ' ∧ ∀ σ', RS X.K π H σ' ρ' → (∀ us : List Nat, (∀ i ∈ ix, i ∈ us) → wipe σ' us = wipe σ us) → Q σ' H)
theorem gsw_nil : FXGsw X [] gtNil [] := ⟨⟨fun pins s σ H vs us Q I r q => by
  obtain ⟨xs, π, ρ, ρ', rv, hs, e, k⟩ := q
  cases xs with
  | nil =>
    cases e
    exact pgs_nil.run pins s σ H vs us Q I r ⟨rv.unnil, k σ hs fun _ _ => rfl⟩
  | cons x xs => cases e⟩⟩
theorem gsw_cons {e : Expr} {es : List Expr} {g : FG} {h : List MV → Rho → Option Rho} {ix jx : List Nat} (h1 : FXGw X e g ix) (h2 : FXGsw X es h jx) (hs : (assignEach (e :: es) X.env).map (·.2) = assign e X.env :: (assignEach es X.env).map (·.2) := by rfl) : FXGsw X (e :: es) (gtCons g h) (ix ++ jx) := ⟨⟨fun pins s σ H vs us Q I r q => by
  obtain ⟨xs, π, ρ, ρ', rv, hs', e', k⟩ := q
  cases xs with
  | nil => cases e'
  | cons x xs =>
    obtain ⟨v, ws, rfl, r3, r4⟩ := rv.uncons
    simp only [gtCons] at e'
    cases e1 : g x ρ with
    | none =>
      rw [e1] at e'
      cases e'
    | some ρ1 =>
      rw [e1] at e'
      refine (pgs_cons h1.to h2.to hs).run pins s σ H _ us Q I r ⟨v, ws, rfl, x, π, ρ, ρ1, r3, hs', e1, fun σ1 hs1 w1 => ⟨xs, π, ρ1, ρ', r4, hs1, e', fun σ2 hs2 w2 => k σ2 hs2 fun us hu => ?_⟩⟩
      rw [w2 us fun i hi => hu i (List.mem_append_right _ hi), w1 us fun i hi => hu i (List.mem_append_left _ hi)]⟩⟩
theorem gw_tup {es : List Expr} {k : Nat} {pos : Pos} {h : List MV → Rho → Option Rho} {n : Nat} {ix : List Nat} (hc : X.calm = true) (h1 : FXGsw X es h ix) (hn : (assignEach es X.env).length = n := by rfl) (hst : (assignEach es X.env).findIdx? (·.1) = none := by rfl) : FXGw X (.Tuple es k pos) (gtTup n h) ix := ⟨⟨fun pins s σ H v u Q I r q => by
  obtain ⟨x, π, ρ, ρ', rv, hs, e, k'⟩ := q
  cases x with
  | tup xs =>
    obtain ⟨a, vs, rfl, g1, g2⟩ := tup_sq rv
    simp only [gtTup] at e
    split at e
    · rename_i hz
      exact (pg_tup hc h1.to hn hst).run pins s σ H _ u Q I r ⟨a, vs, rfl, g1, by rw [← g2.length]; exact hz, xs, π, ρ, ρ', g2, hs, e, k'⟩
    · cases e
  | _ => cases e⟩⟩
def wipeR (ρ : Rho) : List Nat → Rho
  | [] => ρ
  | v :: vs => (wipeR ρ vs).set v none
theorem RS.wipe (h : RS X.K π H σ ρ) : ∀ vs : List Nat, RS X.K π H (L2.wipe σ vs) (wipeR ρ vs)
  | [] => h
  | v :: vs => by
    have ih := RS.wipe h vs
    refine ⟨by unfold L2.wipe wipeR; simp [ih.len], fun i x q => ?_⟩
    unfold wipeR at q
    by_cases hi : v = i
    · subst hi
      rw [List.getElem?_set] at q
      simp only [if_true] at q
      split at q <;> cases q
    · rw [List.getElem?_set_ne hi] at q
      obtain ⟨w', h1, h2⟩ := ih.at_ i x q
      refine ⟨w', ?_, h2⟩
      unfold L2.wipe
      rw [List.getElem?_set_ne hi]
      exact h1
/-- a comprehension's turns: the list is the thing n -/
def compF (chk : MH → Bool) (g : FG) (tt : FT) (te : FE) (n : Nat) (ρ : Rho) : List MV → MH → Res MV
  | [], M => .ok (.ref n) M
  | x :: xs, M => match g x ρ with
    | none => .stuck
    | some ρ1 => match tt ρ1 M with
      | .ok true M2 => match te ρ1 M2 with
        | .ok y M3 => match M3[n]? with
          | some (.lst acc) => if (small (acc.length + 1) && chk (M3.set n (.lst (acc ++ [y])))) = true then compF chk g tt te n ρ xs (M3.set n (.lst (acc ++ [y]))) else .stuck
          | _ => .stuck
        | _ => .stuck
      | .ok false M2 => if chk M2 = true then compF chk g tt te n ρ xs M2 else .stuck
      | _ => .stuck
def fLc (vs : List Nat) (f : FI) (g : FG) (tt : FT) (te : FE) : FE := fun ρ M => (f ρ M).bind fun S M1 => if S.chk (M1 ++ [.lst []]) = true then compF S.chk g tt te M1.length (wipeR ρ vs) S.items (M1 ++ [.lst []]) else .stuck
abbrev W0 : WX := fun _ _ _ _ => False
theorem rf_lc {vs : List Nat} {wi : TI} {f : FI} {g : FG} {tt : FT} {te : FE} {ix : List Nat} (hix : ∀ i ∈ ix, i ∈ vs) (ri : ∀ σ H R π ρ M, RS X.K π H σ ρ → RM X.prog X.w X.K X.mg π H M → PostR X W (RISrc X) σ π H (f ρ M) R → wi σ H R) :
    RF X W (RV X.K) (tLc wi (fun v σ H Q => ∃ x π ρ ρ', RV X.K π H x v ∧ RS X.K π H σ ρ ∧ g x ρ = some ρ' ∧ ∀ σ', RS X.K π H σ' ρ' → (∀ us : List Nat, (∀ i ∈ ix, i ∈ us) → wipe σ' us = wipe σ us) → Q σ' H) (tF X W0 REq tt) (tF X W0 (RV X.K) te) vs) (fLc vs f g tt te) := by
  intro σ H Q π ρ M hs hm hp
  refine RF.bind (R1 := RISrc X) ri hs hm hp fun S M1 J H1 π1 e1 rJ m1 hp1 => ?_
  intro D hD
  have hp1' : PostR X W (RV X.K) σ π1 H1 (if S.chk (M1 ++ [.lst []]) = true then compF S.chk g tt te M1.length (wipeR ρ vs) S.items (M1 ++ [.lst []]) else .stuck) Q := hp1
  by_cases hc : S.chk (M1 ++ [.lst []]) = true
  · rw [if_pos hc] at hp1'
    have e2 : Ext π1 H1 (π1 ++ [D]) (upd H1 D (.lst [])) := Ext.push hD
    have m2 : RM X.prog X.w X.K X.mg (π1 ++ [D]) (upd H1 D (.lst [])) (M1 ++ [.lst []]) := m1.push hD ⟨[], upd_same, RVs.nil⟩
    refine ⟨fun i m H' => m = S.items.length - i ∧ i ≤ S.items.length ∧ ∃ π' M', Ext (π1 ++ [D]) (upd H1 D (.lst [])) π' H' ∧ RM X.prog X.w X.K X.mg π' H' M' ∧ S.chk M' = true ∧ PostR X W (RV X.K) σ π' H' (compF S.chk g tt te M1.length (wipeR ρ vs) (S.items.drop i) M') Q,
      ⟨S.items.length, by simp, Nat.zero_le _, π1 ++ [D], M1 ++ [.lst []], Ext.refl, m2, hc, PostR.mono e2 (by simpa using hp1')⟩, ?_⟩
    rintro i m H' ⟨rfl, hi, π', M', e', m', hc', hp'⟩
    obtain ⟨go, stop⟩ := rJ i π' H' M' (e2.trans e') m' hc'
    have hDn : (π1 ++ [D])[M1.length]? = some D := by rw [← m1.len]; simp
    by_cases hlt : i < S.items.length
    · right
      have hx : S.items[i]? = some S.items[i] := List.getElem?_eq_getElem hlt
      obtain ⟨g1, y1⟩ := go _ hx
      refine ⟨g1, fun H2 => i + 1 ≤ S.items.length ∧ ∃ π2 M2, Ext (π1 ++ [D]) (upd H1 D (.lst [])) π2 H2 ∧ RM X.prog X.w X.K X.mg π2 H2 M2 ∧ S.chk M2 = true ∧ PostR X W (RV X.K) σ π2 H2 (compF S.chk g tt te M1.length (wipeR ρ vs) (S.items.drop (i + 1)) M2) Q, fun H2 h2 => ⟨S.items.length - (i + 1), by omega, rfl, h2⟩, fun v H'' yy => ?_⟩
      obtain ⟨e3, m3, rv⟩ := y1 v H'' yy
      rw [List.drop_eq_getElem_cons hlt] at hp'
      have hsw : RS X.K π' H'' (wipe σ vs) (wipeR ρ vs) := ((((hs.ext e1).ext e2).ext e').ext e3).wipe vs
      cases eg : g S.items[i] (wipeR ρ vs) with
      | none =>
        simp only [compF, eg] at hp'
        exact hp'.elim
      | some ρ1 =>
        simp only [compF, eg] at hp'
        refine ⟨_, π', _, ρ1, rv, hsw, eg, fun σ3 hs3 hw => ⟨?_, π', ρ1, M', hs3, m3, ?_⟩⟩
        · rw [hw vs hix]
          have wp : ∀ (us : List Nat) (τ : St), wipe (wipe τ us) us = wipe τ us := by
            intro us
            induction us with
            | nil => intro τ; rfl
            | cons u us ih =>
              intro τ
              have e1 : wipe τ (u :: us) = (wipe τ us).set u none := rfl
              rw [e1, wipe_set (u :: us) (wipe τ us) u List.mem_cons_self]
              show (wipe (wipe τ us) us).set u none = _
              rw [ih τ]
          exact wp vs σ
        · cases et : tt ρ1 M' with
          | ex c fs M2 =>
            simp only [et] at hp'
            exact hp'.elim
          | stuck =>
            simp only [et] at hp'
            exact hp'.elim
          | ok b M2 =>
            intro b' H4 π4 e4 eb m4
            cases eb
            cases b with
            | false =>
              simp only [et] at hp'
              by_cases hc2 : S.chk M2 = true
              · rw [if_pos hc2] at hp'
                exact ⟨hlt, π4, M2, (e'.trans e3).trans e4, m4, hc2, PostR.mono (e3.trans e4) hp'⟩
              · rw [if_neg hc2] at hp'
                exact hp'.elim
            | true =>
              simp only [et] at hp'
              refine ⟨π4, ρ1, M2, hs3.ext e4, m4, ?_⟩
              cases ee : te ρ1 M2 with
              | ex c fs M3 =>
                simp only [ee] at hp'
                exact hp'.elim
              | stuck =>
                simp only [ee] at hp'
                exact hp'.elim
              | ok y M3 =>
                intro v5 H5 π5 e5 rv5 m5
                simp only [ee] at hp'
                have hD5 : π5[M1.length]? = some D := e5.at (e4.at (e3.at (e'.at hDn)))
                cases eo : M3[M1.length]? with
                | none =>
                  simp only [eo] at hp'
                  exact hp'.elim
                | some o =>
                  cases o with
                  | lst acc =>
                    simp only [eo] at hp'
                    by_cases hz : (small (acc.length + 1) && S.chk (M3.set M1.length (.lst (acc ++ [y])))) = true
                    · rw [if_pos hz] at hp'
                      rw [Bool.and_eq_true] at hz
                      obtain ⟨ws, k1, k2⟩ := m5.at_ hD5 eo
                      have e6 : Ext π5 H5 π5 (upd H5 D (.lst (ws ++ [v5]))) := Ext.write k1 fun _ z => by cases z
                      refine ⟨ws, k1, ?_, hlt, π5, M3.set M1.length (.lst (acc ++ [y])), ((((e'.trans e3).trans e4).trans e5).trans e6), m5.write hD5 eo rfl rfl ⟨_, upd_same, (k2.append (RVs.cons rv5 RVs.nil)).ext e6⟩, hz.2, PostR.mono (((e3.trans e4).trans e5).trans e6) hp'⟩
                      have := small_le hz.1
                      rw [← k2.length]
                      omega
                    · rw [if_neg hz] at hp'
                      exact hp'.elim
                  | cst _ =>
                    simp only [eo] at hp'
                    exact hp'.elim
                  | dct _ =>
                    simp only [eo] at hp'
                    exact hp'.elim
                  | ins _ _ =>
                    simp only [eo] at hp'
                    exact hp'.elim
    · left
      have hi2 : S.items.length = i := by omega
      refine ⟨stop hi2, ?_⟩
      rw [List.drop_eq_nil_of_le (by omega)] at hp'
      refine hp' _ H' π' Ext.refl ?_ m'
      unfold RV
      exact ⟨D, rfl, e'.at hDn⟩
  · rw [if_neg hc] at hp1'
    exact hp1'.elim
theorem fx_lc {elt tg iter : Expr} {ifs : List Expr} {scope : Scope} {own : List (Str × Nat)} {pos : Pos} {f : FI} {g : FG} {tt : FT} {te : FE} {ix : List Nat} (hc : X.calm = true) (hN : X.N.Nodup) (hi : FXI X W tg iter f) (ok : BlkOk X.N X.env.scope scope own)
    (hg : ∀ (s : Shared) (H : Hp) (C : Addr) (cl : List (Str × Addr)) (fp : List Addr), FXGw (X.blk s H scope (compEnvC scope cl C X.env) fp) tg g ix) (hix : ∀ i ∈ ix, i ∈ own.map (·.2))
    (ht : ∀ (s : Shared) (H : Hp) (C : Addr) (cl : List (Str × Addr)) (fp : List Addr), FXTs (X.blk s H scope (compEnvC scope cl C X.env) fp) W0 ifs tt)
    (he : ∀ (s : Shared) (H : Hp) (C : Addr) (cl : List (Str × Addr)) (fp : List Addr), FX (X.blk s H scope (compEnvC scope cl C X.env) fp) W0 elt te) (hs : ∀ x, foldedSetIterable iter X.env x = pure x := by intro _; rfl) :
    FX X W (.ListComp elt [⟨tg, iter, ifs, 0⟩] scope pos) (fLc (own.map (·.2)) f g tt te) := by
  obtain ⟨t1, p1, r1⟩ := hi.to
  exact ⟨_, pe_lc hc hN p1 ok (fun s H C cl fp => (hg s H C cl fp).to) (fun s H C cl fp => (ht s H C cl fp).to) (fun s H C cl fp => (he s H C cl fp).can) hs, rf_lc hix r1⟩
theorem fs_setLc {i : Nat} {y : Str} {py : Pos} {elt tg iter : Expr} {ifs : List Expr} {scope : Scope} {own : List (Str × Nat)} {pos spos : Pos} {f : FI} {g : FG} {tt : FT} {te : FE} {ix : List Nat} (hc : X.calm = true) (hN : X.N.Nodup) (hy : X.N[i]? = some y) (hyl : X.env.scope.names.lookup y = some .local)
    (hsw : swapsWith (.ListComp elt [⟨tg, iter, ifs, 0⟩] scope pos) (some (.Name y py)) spos.line X.env = pure true) (hi : FXI X W tg iter f) (ok : BlkOk X.N X.env.scope scope own)
    (hg : ∀ (s : Shared) (H : Hp) (C : Addr) (cl : List (Str × Addr)) (fp : List Addr), FXGw (X.blk s H scope (compEnvC scope cl C X.env) fp) tg g ix) (hix : ∀ i ∈ ix, i ∈ own.map (·.2))
    (ht : ∀ (s : Shared) (H : Hp) (C : Addr) (cl : List (Str × Addr)) (fp : List Addr), FXTs (X.blk s H scope (compEnvC scope cl C X.env) fp) W0 ifs tt)
    (he : ∀ (s : Shared) (H : Hp) (C : Addr) (cl : List (Str × Addr)) (fp : List Addr), FX (X.blk s H scope (compEnvC scope cl C X.env) fp) W0 elt te) (hs : ∀ x, foldedSetIterable iter X.env x = pure x := by intro _; rfl) :
    FXS X W (.Assign [.Name y py] (.ListComp elt [⟨tg, iter, ifs, 0⟩] scope pos) spos) (sAsg (fLc (own.map (·.2)) f g tt te) (gtName i)) := by
  obtain ⟨t1, p1, r1⟩ := hi.to
  refine ⟨_, ps_setLc hc hN hy hyl hsw p1 ok (fun s H C cl fp => (hg s H C cl fp).to) (fun s H C cl fp => (ht s H C cl fp).to) (fun s H C cl fp => (he s H C cl fp).can) hs, rfs_asg (rf_lc hix r1) ?_⟩
  intro x v σ H π ρ ρ' Q rv hs e k
  cases e
  exact k _ (hs.set i rv)
end

/-! ### defs -/
section
variable (P : Program) (w : World) (K : PySem.W.Frag) (mg : Str → Option Value)
def PostN (π : List Addr) (H : Hp) (r : Res MV) (Q : VK) (E : XK) : Prop := match r with
  | .ok x M => ∀ v H' π', Ext π H π' H' → RV K π' H' x v → RM P w K mg π' H' M → Q v H'
  | .ex c fs M => ∀ C d H' π', Ext π H π' H' → RX K mg π' H' C d c fs → RM P w K mg π' H' M → E (.ref C) d H'
  | .stuck => False
/-- the promise of a def that does F, for n arguments -/
def spF (n : Nat) (F : FN) : Sp := fun vs H Q E => vs.length = n ∧ ∃ π xs M, RVs K π H xs vs ∧ RM P w K mg π H M ∧ PostN P w K mg π H (F xs M) Q E
end
def startR (n : Nat) (xs : List MV) : Rho := xs.map some ++ List.replicate (n - xs.length) none
def fnOf (n : Nat) (body : FS) : FN := fun xs M => match body (startR n xs) M with
  | .ret x M1 => .ok x M1
  | .next _ M1 => .ok .non M1
  | .ex c fs _ M1 => .ex c fs M1
  | _ => .stuck
abbrev FnF (P : Program) (w : World) (K : PySem.W.Frag) (mg : Str → Option Value) (base : Heap) (k : Nat) (f : Addr) (fd : FuncData) (ps : List Str) (F : FN) : Prop := FnOk P w K mg base (L2.CX P w) k f fd ps (spF P w K mg ps.length F)
theorem startR_rs {K : PySem.W.Frag} {π : List Addr} {H : Hp} {N : List Str} {xs : List MV} {vs : List V} (r : RVs K π H xs vs) : RS K π H (L2.start N vs) (startR N.length xs) := by
  have hl := r.length
  refine ⟨by unfold L2.start startR; simp [hl], fun i x e => ?_⟩
  unfold startR at e
  unfold L2.start
  by_cases hi : i < xs.length
  · rw [List.getElem?_append_left (by simpa using hi), List.getElem?_map] at e
    obtain ⟨y, h1, h2⟩ := Option.map_eq_some_iff.mp e
    cases h2
    obtain ⟨v, g1, g2⟩ := r.get h1
    refine ⟨v, ?_, g2⟩
    rw [List.getElem?_append_left (by rw [List.length_map, ← hl]; exact hi), List.getElem?_map, g1]
    rfl
  · rw [List.getElem?_append_right (by rw [List.length_map]; omega), List.getElem?_replicate] at e
    split at e <;> cases e
section
variable {P : Program} {w : World} {K : PySem.W.Frag} {mg : Str → Option Value} {base : Heap}
theorem fn_ok {x qual : Str} {st : Stmt} {f : Addr} {fd : FuncData} {N ps : List Str} {k : Nat} {body : FS} (F : Fun K x qual st f fd) (S : FnScope N ps (defScope st))
    (hb : ∀ (cdv : Value) (A : Around) (outer : List Env) (s : Shared) (H : Hp) (E : XK), Room k (A.deeper (envOfC qual (defScope st) s.heap.objs.size f cdv)) →
      FXB (cxOf (L2.CX P w) P w K mg base N qual (defScope st) f cdv A outer s H E) (fun cls d _ H => E cls d H) (defBody st) body) : FnF P w K mg base (k + 1) f fd ps (fnOf N.length body) := by
  refine F.okX S (fun vs H Q E h => h.1) (fun cdv A outer s H vs Q E hr h => ?_)
  obtain ⟨t, p, r⟩ := (hb cdv A outer s H E hr).to
  obtain ⟨hl, π, xs, M, rv, hm, hp⟩ := h
  refine ⟨t, p, r _ _ _ π (startR N.length xs) M (startR_rs rv) hm ?_⟩
  unfold fnOf at hp
  cases e : body (startR N.length xs) M with
  | next ρ M1 =>
    rw [e] at hp
    exact fun σ' H' π' e' _ m' => hp .non H' π' e' (by unfold RV; rfl) m'
  | ret y M1 =>
    rw [e] at hp
    exact hp
  | ex c fs ρ M1 =>
    rw [e] at hp
    exact fun C d σ' H' π' e' x' _ m' => hp C d H' π' e' x' m'
  | brk ρ M1 =>
    rw [e] at hp
    exact hp.elim
  | cnt ρ M1 =>
    rw [e] at hp
    exact hp.elim
  | stuck =>
    rw [e] at hp
    exact hp.elim
/-- a def of the module that does F -/
structure CalF (P : Program) (w : World) (K : PySem.W.Frag) (mg : Str → Option Value) (base : Heap) (k : Nat) (x : Str) (n : Nat) (F : FN) : Prop where
  ex : ∃ (f : Addr) (fd : FuncData) (ps : List Str), mg x = some (.ref f) ∧ PySem.W.keepIn K (.ref f) = true ∧ Binds K fd ps [] ∧ ps.length = n ∧ FnF P w K mg base k f fd ps F
end
section
variable {X : Cx} {W : WX}
/-- F on so many arguments alone -/
def arity (n : Nat) (F : FN) : FN := fun xs M => if xs.length = n then F xs M else .stuck
theorem rf_call {n : Nat} {F : FN} {t : TA} {a : FA} (r : RF X W (RVs X.K) t a) : RF X W (RV X.K) (tCallS (spF X.prog X.w X.K X.mg n F) (WE W) t) (fFn (arity n F) a) := by
  intro σ H Q π ρ M hs hm hp
  refine r.bind hs hm hp fun xs M1 vs H1 π1 e1 rv m1 hp1 => ?_
  unfold arity at hp1
  by_cases h : xs.length = n
  · rw [if_pos h] at hp1
    refine ⟨by rw [← rv.length]; exact h, π1, xs, M1, rv, m1, ?_⟩
    cases e : F xs M1 with
    | ok y M2 => rw [e] at hp1; exact hp1
    | ex c fs M2 => rw [e] at hp1; exact hp1
    | stuck => rw [e] at hp1; exact hp1
  · rw [if_neg h] at hp1
    exact hp1.elim
theorem fx_call {k j n : Nat} {x : Str} {F : FN} {p pos : Pos} {e : Expr} {es : List Expr} {a : FA} (c : CalF X.prog X.w X.K X.mg X.base k x n F) (hr : Room j X.A) (hk : k ≤ j) (hg : Gl X x) (tk : Takes X W) (ha : FXA X W (e :: es) a)
    (hdb : (x == ("__debug__" : Str)) = false := by decide) (he : starEach (e :: es) X.env = (false, eval e X.env) :: starEach es X.env := by rfl) (hpl : (backTo pos (starEach es X.env)).any (·.1) = false := by rfl) :
    FX X W (.Call (.Name x p) (e :: es) [] pos) (fFn (arity n F) a) := by
  obtain ⟨f, fd, ps, hm, kp, hb, hn, hF⟩ := c.ex
  subst hn
  obtain ⟨t1, p1, r1⟩ := ha.to
  exact ⟨_, pe_callS hF (hr.mono hk) hg hm kp hb (passAt tk) p1 hdb he hpl, rf_call r1⟩
theorem fx_call0 {k j : Nat} {x : Str} {F : FN} {p pos : Pos} (c : CalF X.prog X.w X.K X.mg X.base k x 0 F) (hr : Room j X.A) (hk : k ≤ j) (hg : Gl X x) (tk : Takes X W) (hdb : (x == ("__debug__" : Str)) = false := by decide) :
    FX X W (.Call (.Name x p) [] [] pos) (fFn (arity 0 F) faNil) := by
  obtain ⟨f, fd, ps, hm, kp, hb, hn, hF⟩ := c.ex
  refine ⟨tCallS (spF X.prog X.w X.K X.mg ps.length F) (WE W) tNil, ⟨fun pins s σ H Q I h => ?_⟩, ?_⟩
  · refine wpAny_Call_Name_kw (ld_glob I hg hm ?_ hdb)
    exact PySem.W.callWith_K0 I.kIn kp (run_fnS (us := []) hF (hr.mono hk) hb (passAt tk σ) I .nil h)
  · rw [hn]
    exact rf_call fun σ H Q π ρ M hs hm hp => hp.ok RVs.nil hm
end
/-! ### a law's end -/
section
variable {P : Program} {w : World} {K : PySem.W.Frag} {mg : Str → Option Value} {base : Heap}
/-- the law's promise: script in, True out -/
theorem sp_law {F : FN} {H : Hp} {a : Addr} {ns : List Int} (hO : Only H) (hS : SqL K H a (ns.map V.int)) (h : ∃ M, F [.ref 0] [.cst (ns.map MV.int)] = .ok (.bl true) M) : spF P w K mg 1 F [.ref a] H (fun v _ => v = .bl true) fun _ _ _ => False := by
  have rv : ∀ l : List Int, RVs K [a] H (l.map MV.int) (l.map V.int) := by
    intro l
    induction l with
    | nil => exact RVs.nil
    | cons i l ih => exact RVs.cons (by unfold RV; rfl) ih
  refine ⟨rfl, [a], [.ref 0], [.cst (ns.map MV.int)], RVs.cons (by unfold RV; exact ⟨a, rfl, rfl⟩) RVs.nil, ⟨rfl, ?_, ?_⟩, ?_⟩
  · intro i j b o u h1 h2 h3 h4 c1 c2
    cases i with
    | zero =>
      cases h3
      cases c1
    | succ i => simp at h3
  · intro i b o h1 h2
    cases i with
    | zero =>
      cases h1
      cases h2
      refine ⟨ns.map V.int, ?_, rv ns⟩
      rcases hS with (h | ⟨o, h⟩) | h
      · exfalso
        rcases hO a with q | ⟨o, xs, q⟩
        · rw [q] at h
          cases h
        · rw [q] at h
          cases h
      · exact .inl ⟨o, h⟩
      · exact .inr h
    | succ i => simp at h1
  · obtain ⟨M, e⟩ := h
    rw [e]
    intro v H' π' e' r m
    unfold RV at r
    exact r
/-- .. with the bits of the script's ints told -/
theorem walk_ofEB {l : PySem.W.OpenLaw} {n k : Nat} {q : Program} {loose : List Str} {XP : (Str → Option Value) → Heap → Prop} {YP : World → Heap → Prop} {d : DefRec} {CX : World → CXT} {x : Str}
    (hn : l.most = some n) (hn2 : n ≤ sizeLine) (hdf : d.params.defaults = []) (hr : Room k callerA)
    (F : ∀ (w : World) (mg : Str → Option Value) (fa : Addr) (h : Heap), YP w h → h.Ns mainGlobals mg → mg d.name = some (.ref fa) →
      ∃ (K : PySem.W.Frag) (fd : FuncData) (sp : Sp), K.In h ∧ (∀ (s : Shared) (u : Value), BindsTo s fd ⟨[u], []⟩ [(x, u)]) ∧
        (∀ (H : Hp) (a : Addr) (ns : List Int), ns.length ≤ n → (∀ z ∈ ns, Builtin.Int.intBits z ≤ 1048576) → Only H → SqL K H a (ns.map V.int) → sp [.ref a] H (fun v _ => v = .bl true) fun _ _ _ => False) ∧
        ∀ base : Heap, K.In base → base.Ns mainGlobals mg → FnOk l.prog w K mg base (CX w) k fa fd [x] sp)
    (hCX : ∀ (w : World) (H : Hp) (s : Shared) (e : Value) (s' : Shared), CX w [] H s (fun _ _ _ => False) e s' → False) :
    PySem.W.WalkO q loose XP YP l.row.toRowW d [] (fun f vs => PySem.call f vs) := by
  refine Att.attach_callB hn hdf fun w s₀ s₁ mg mb fa o pm cd doc a vs ns G Y ho hd hcd hmg hobj hints hlen hbits hg => ?_
  obtain ⟨K, fd, sp, KX, hb, hsp, hF⟩ := F w mg fa _ Y G.T.g hmg
  exact law_call KX G.T.g G.T.b G.T.builtins G.T.nolimit hg hobj hints (Nat.le_trans hlen hn2) hr hF hb (fun H hO hS => hsp H a ns hlen hbits hO hS) fun H e s' => hCX w H s₁ e s'
end
end FL

namespace FL
open PySem PySem.Spec PyProof.Rows L2
section
variable {P : Program} {w : World} {K : PySem.W.Frag} {mg : Str → Option Value} {base : Heap}
theorem fun_of {x qual : Str} {st : Stmt} {f : Addr} {fd : FuncData} (F : FunD K x qual (defArgs st) (defBody st) (defScope st) [] [] f fd) : Fun K x qual st f fd := by
  obtain ⟨oc, od, dV, kV, doc, pm, an, cdv, ct, osl, e, lk, hc, hd, hk⟩ := F.ex
  have e0 : dV = .none := by
    rcases hd with ⟨_, h⟩ | ⟨h, _⟩
    · exact h
    · exact absurd rfl h
  subst e0
  exact ⟨⟨oc, od, kV, doc, pm, an, cdv, ct, osl, e, lk, hc⟩, F.kp⟩
theorem cal_mk {x qual : Str} {st : Stmt} {f : Addr} {N ps : List Str} {k : Nat} {body : FS} (D : ∃ fd, FunD K x qual (defArgs st) (defBody st) (defScope st) [] [] f fd) (g : mg x = some (.ref f)) (S : FnScope N ps (defScope st))
    (hbind : ∀ (kV doc pm : Value) (an : Option Addr) (cdv ct : Value) (us : List Value), us.length = ps.length → bindArgs (PySem.W.fnOf x qual (defArgs st) (defBody st) (defScope st) .none kV doc pm an cdv ct) ⟨us, []⟩ = pure (ps.zip us))
    (hb : ∀ (cdv : Value) (A : Around) (outer : List Env) (s : Shared) (H : Hp) (E : XK), Room k (A.deeper (envOfC qual (defScope st) s.heap.objs.size f cdv)) →
      FXB (cxOf (L2.CX P w) P w K mg base N qual (defScope st) f cdv A outer s H E) (fun cls d _ H => E cls d H) (defBody st) body) : CalF P w K mg base (k + 1) x ps.length (FL.fnOf N.length body) := by
  obtain ⟨fd, D⟩ := D
  have F := fun_of D
  exact ⟨f, fd, ps, g, F.kp, F.binds hbind, rfl, fn_ok F S hb⟩
end
end FL
namespace FL
open PySem PySem.Spec PyProof.Rows L2
theorem b_len : bootBuiltins "len" = some (.builtin "len") := by decide +kernel
theorem b_isinstance : bootBuiltins "isinstance" = some (.builtin "isinstance") := by decide +kernel
theorem b_max : bootBuiltins "max" = some (.builtin "max") := by decide +kernel
theorem b_min : bootBuiltins "min" = some (.builtin "min") := by decide +kernel
theorem b_all : bootBuiltins "all" = some (.builtin "all") := by decide +kernel
theorem b_any : bootBuiltins "any" = some (.builtin "any") := by decide +kernel
theorem b_list : bootBuiltins "list" = some (.type "list") := by decide +kernel
theorem b_tuple : bootBuiltins "tuple" = some (.type "tuple") := by decide +kernel
theorem b_bool : bootBuiltins "bool" = some (.type "bool") := by decide +kernel
theorem b_int : bootBuiltins "int" = some (.type "int") := by decide +kernel
theorem b_str : bootBuiltins "str" = some (.type "str") := by decide +kernel
theorem b_dict : bootBuiltins "dict" = some (.type "dict") := by decide +kernel
end FL
namespace FL
open PySem PySem.Spec PyProof.Rows L2
section
variable {P : Program} {w : World} {K : PySem.W.Frag} {mg : Str → Option Value}
/-- the law's own def -/
theorem law_mk {x qual a : Str} {st : Stmt} {f : Addr} {N : List Str} {k : Nat} {body : FS} (D : ∃ fd, FunD K x qual (defArgs st) (defBody st) (defScope st) [] [] f fd) (S : FnScope N [a] (defScope st))
    (hbind : ∀ (kV doc pm : Value) (an : Option Addr) (cdv ct : Value) (us : List Value), us.length = [a].length → bindArgs (PySem.W.fnOf x qual (defArgs st) (defBody st) (defScope st) .none kV doc pm an cdv ct) ⟨us, []⟩ = pure ([a].zip us))
    (hb : ∀ (base : Heap) (cdv : Value) (A : Around) (outer : List Env) (s : Shared) (H : Hp) (E : XK), Room k (A.deeper (envOfC qual (defScope st) s.heap.objs.size f cdv)) →
      FXB (cxOf (L2.CX P w) P w K mg base N qual (defScope st) f cdv A outer s H E) (fun cls d _ H => E cls d H) (defBody st) body) :
    ∃ fd : FuncData, (∀ (s : Shared) (v : Value), BindsTo s fd ⟨[v], []⟩ [(a, v)]) ∧ ∀ base : Heap, FnOk P w K mg base (L2.CX P w) (k + 1) f fd [a] (spF P w K mg 1 (FL.fnOf N.length body)) := by
  obtain ⟨fd, D⟩ := D
  exact ⟨fd, fun s v => FunD.bindsA (ps := [a]) D hbind s [v] rfl, fun base => fn_ok (fun_of D) S (hb base)⟩
end
section
variable {X : Cx} {W : WX}
theorem fx_gc {x : Str} {pos : Pos} {f : FE} (hg : Gl X x) (h : ∃ v y, f = fC y ∧ (∀ π H, RV X.K π H y v) ∧ ∃ u, X.mg x = some u ∧ RelV v u) (hd : (x == ("__debug__" : Str)) = false := by decide) : FX X W (.Name x pos) f := by
  obtain ⟨v, y, rfl, r, u, hm, hr⟩ := h
  exact fx_c (pe_glob hg hm hr hd) r
end
end FL

namespace FL
open PySem PySem.Spec PyProof.Rows L2
/-! ### the model heap: what stood, and what came -/
theorem h_get0 {M G : MH} : (M ++ G)[M.length]? = G[0]? := by rw [List.getElem?_append_right (Nat.le_refl _)]; simp
theorem h_getk {M G : MH} {k : Nat} : (M ++ G)[M.length + k]? = G[k]? := by rw [List.getElem?_append_right (by omega)]; simp
theorem h_old {M G : MH} {n : Nat} {o : MO} (h : M[n]? = some o) : (M ++ G)[n]? = some o := by rw [List.getElem?_append_left (List.getElem?_eq_some_iff.mp h).1]; exact h
theorem h_set0 {M G : MH} {o : MO} : (M ++ G).set M.length o = M ++ G.set 0 o := by rw [List.set_append_right _ _ (Nat.le_refl _)]; simp
theorem h_setk {M G : MH} {k : Nat} {o : MO} : (M ++ G).set (M.length + k) o = M ++ G.set k o := by rw [List.set_append_right _ _ (by omega)]; simp
theorem h_app {M G G2 : MH} : (M ++ G) ++ G2 = M ++ (G ++ G2) := List.append_assoc ..
theorem h_len {M G : MH} : (M ++ G).length = M.length + G.length := List.length_append ..
theorem lstOf_old {M G : MH} {x : MV} {xs : List MV} (h : lstOf M x = some xs) : lstOf (M ++ G) x = some xs := by
  cases x with
  | ref n =>
    cases q : M[n]? with
    | none => simp [lstOf, q] at h
    | some o => rw [lstOf, h_old q]; rw [lstOf, q] at h; exact h
  | _ => exact h
theorem bind_ok {α β : Type} {a : α} {M : MH} {k : α → MH → Res β} : (Res.ok a M).bind k = k a M := rfl
theorem stm_ok {α : Type} {a : α} {M : MH} {ρ : Rho} {k : α → MH → RSt} : (Res.ok a M).stm ρ k = k a M := rfl
theorem seq_next {ρ : Rho} {M : MH} {k : Rho → MH → RSt} : (RSt.next ρ M).seq k = k ρ M := rfl
theorem seq_ret {x : MV} {M : MH} {k : Rho → MH → RSt} : (RSt.ret x M).seq k = .ret x M := rfl
theorem seq_ex {c : Str} {fs : List (Str × MV)} {ρ : Rho} {M : MH} {k : Rho → MH → RSt} : (RSt.ex c fs ρ M).seq k = .ex c fs ρ M := rfl
theorem gI_ok {C : Int → Int → Bool} {k : Int → Int → MV} {i j : Int} {M : MH} (h : C i j = true) : gI C k (.int i) (.int j) M = .ok (k i j) M := by
  unfold gI
  exact if_pos h
theorem mod_ok {i j : Int} {M : MH} (h : 0 < j) : gMod (.int i) (.int j) M = .ok (.int (i % j)) M := gI_ok (decide_eq_true h)
theorem fdiv_ok {i j : Int} {M : MH} (h : (decide (0 < j) && decide (j.natAbs.log2 < 9000)) = true) : gFdiv (.int i) (.int j) M = .ok (.int (i / j)) M := gI_ok h
theorem small_ok {n : Nat} (h : n ≤ 16777216) : small n = true := decide_eq_true (by rw [sizeLine_eq]; exact h)
theorem pow_ok {i j : Int} {M : MH} (h : (decide (0 ≤ j) && (decide (j ≤ 1000000) && decide (i.natAbs < 2 ^ 64))) = true) : gPow (.int i) (.int j) M = .ok (.int (i ^ j.toNat)) M := gI_ok h
theorem sub_ok {i j : Int} {M : MH} : gSub (.int i) (.int j) M = .ok (.int (i - j)) M := rfl
theorem add_ok {i j : Int} {M : MH} : gAdd (.int i) (.int j) M = .ok (.int (i + j)) M := rfl
theorem log2_lt {i : Int} {n : Nat} (h : i.natAbs < 2 ^ n) (h0 : 0 < n) : i.natAbs.log2 < n := PySem.Flt.log2_lt_of h0 h
theorem mul_ok {i j : Int} {M : MH} (h : i.natAbs.log2 + j.natAbs.log2 < 130000000) : gMul (.int i) (.int j) M = .ok (.int (i * j)) M := gI_ok (decide_eq_true h)
theorem bits_log {z : Int} {n : Nat} (h : Builtin.Int.intBits z ≤ n) : z.natAbs.log2 ≤ n := by
  unfold Builtin.Int.intBits at h
  split at h
  · rename_i q
    have : z = 0 := by simpa using q
    subst this
    simp
  · omega
theorem log2_mono {a b : Nat} (h : a ≤ b) : a.log2 ≤ b.log2 := by
  by_cases ha : a = 0
  · subst ha
    simp
  · exact (Nat.le_log2 (by omega)).mpr (Nat.le_trans (Nat.log2_self_le ha) h)
/-- a remainder is small -/
theorem mod_log (i : Int) {j : Int} (h : 0 < j) : (i % j).natAbs.log2 ≤ j.natAbs.log2 := log2_mono (by
  have h1 := Int.emod_nonneg i (Int.ne_of_gt h)
  have h2 := Int.emod_lt_of_pos i h
  omega)
/-- an item at a remainder -/
theorem atI_mod {α : Type} {xs : List α} (i : Int) (h : 0 < xs.length) : ∃ v, atI xs (i % (xs.length : Int)) = some v ∧ v ∈ xs := by
  have h0 : (0 : Int) < (xs.length : Int) := by omega
  have h1 := Int.emod_nonneg i (Int.ne_of_gt h0)
  have h2 := Int.emod_lt_of_pos i h0
  obtain ⟨j, hj⟩ : ∃ j : Nat, i % (xs.length : Int) = (j : Int) := ⟨(i % (xs.length : Int)).toNat, by omega⟩
  have hl : j < xs.length := by omega
  exact ⟨xs[j], by rw [hj]; exact atI_nat (List.getElem?_eq_getElem hl), List.getElem_mem hl⟩
end FL
namespace FL
open PySem PySem.Spec PyProof.Rows L2
def pick2 {α : Type} (a b : α) (i : Int) : α := if i % 2 = 0 then a else b
def pick3 {α : Type} (a b c : α) (i : Int) : α := if i % 3 = 0 then a else if i % 3 = 1 then b else c
def pick4 {α : Type} (a b c d : α) (i : Int) : α := if i % 4 = 0 then a else if i % 4 = 1 then b else if i % 4 = 2 then c else d
theorem atI_2 {α : Type} (a b : α) (i : Int) : atI [a, b] (i % 2) = some (pick2 a b i) := by
  unfold pick2
  have h : i % 2 = 0 ∨ i % 2 = 1 := by omega
  rcases h with h | h <;> rw [h] <;> rfl
theorem atI_3 {α : Type} (a b c : α) (i : Int) : atI [a, b, c] (i % 3) = some (pick3 a b c i) := by
  unfold pick3
  have h : i % 3 = 0 ∨ i % 3 = 1 ∨ i % 3 = 2 := by omega
  rcases h with h | h | h <;> rw [h] <;> rfl
theorem atI_4 {α : Type} (a b c d : α) (i : Int) : atI [a, b, c, d] (i % 4) = some (pick4 a b c d i) := by
  unfold pick4
  have h : i % 4 = 0 ∨ i % 4 = 1 ∨ i % 4 = 2 ∨ i % 4 = 3 := by omega
  rcases h with h | h | h | h <;> rw [h] <;> rfl
theorem pick2_f {α β : Type} (f : α → β) (a b : α) (i : Int) : pick2 (f a) (f b) i = f (pick2 a b i) := by unfold pick2; split <;> rfl
theorem pick3_f {α β : Type} (f : α → β) (a b c : α) (i : Int) : pick3 (f a) (f b) (f c) i = f (pick3 a b c i) := by unfold pick3; split <;> (try split) <;> rfl
theorem pick4_f {α β : Type} (f : α → β) (a b c d : α) (i : Int) : pick4 (f a) (f b) (f c) (f d) i = f (pick4 a b c d i) := by unfold pick4; split <;> (try split) <;> (try split) <;> rfl
theorem pick2_str (a b : Str) (i : Int) : pick2 (MV.str a) (.str b) i = .str (pick2 a b i) := pick2_f _ _ _ _
theorem pick3_str (a b c : Str) (i : Int) : pick3 (MV.str a) (.str b) (.str c) i = .str (pick3 a b c i) := pick3_f _ _ _ _ _
theorem pick4_str (a b c d : Str) (i : Int) : pick4 (MV.str a) (.str b) (.str c) (.str d) i = .str (pick4 a b c d i) := pick4_f _ _ _ _ _ _
theorem pick2_tup (a b : List MV) (i : Int) : pick2 (MV.tup a) (.tup b) i = .tup (pick2 a b i) := pick2_f _ _ _ _
theorem pick4_tup (a b c d : List MV) (i : Int) : pick4 (MV.tup a) (.tup b) (.tup c) (.tup d) i = .tup (pick4 a b c d i) := pick4_f _ _ _ _ _ _
theorem pick2_of {α : Type} {p : α → Prop} {a b : α} (ha : p a) (hb : p b) (i : Int) : p (pick2 a b i) := by unfold pick2; split <;> assumption
theorem pick3_of {α : Type} {p : α → Prop} {a b c : α} (ha : p a) (hb : p b) (hc : p c) (i : Int) : p (pick3 a b c i) := by unfold pick3; split <;> (try split) <;> assumption
theorem pick4_of {α : Type} {p : α → Prop} {a b c d : α} (ha : p a) (hb : p b) (hc : p c) (hd : p d) (i : Int) : p (pick4 a b c d i) := by unfold pick4; split <;> (try split) <;> (try split) <;> assumption
theorem veq_int {i j : Int} {M : MH} : gEq (.int i) (.int j) M = .ok (.bl (decide (i = j))) M := rfl
theorem vne_int {i j : Int} {M : MH} : gNe (.int i) (.int j) M = .ok (.bl (!decide (i = j))) M := rfl
theorem veq_str1 {a : Str} {M : MH} : gEq (.str a) (.str a) M = .ok (.bl true) M := by show Res.ok (MV.bl (decide (a = a))) M = _; rw [decide_eq_true rfl]
theorem veq_str0 {a b : Str} {M : MH} (h : a ≠ b) : gEq (.str a) (.str b) M = .ok (.bl false) M := by show Res.ok (MV.bl (decide (a = b))) M = _; rw [decide_eq_false h]
theorem vne_str1 {a : Str} {M : MH} : gNe (.str a) (.str a) M = .ok (.bl false) M := by show Res.ok (MV.bl (!decide (a = a))) M = _; rw [decide_eq_true rfl]; rfl
theorem vne_str0 {a b : Str} {M : MH} (h : a ≠ b) : gNe (.str a) (.str b) M = .ok (.bl true) M := by show Res.ok (MV.bl (!decide (a = b))) M = _; rw [decide_eq_false h]; rfl
/- good data: == of itself -/
mutual
def okD : PyData → Bool
  | .none => true
  | .bool _ => true
  | .int _ => true
  | .str _ => true
  | .list xs => okDs xs
  | .tuple xs => okDs xs
  | .dict _ => false
def okDs : List PyData → Bool
  | [] => true
  | x :: xs => okD x && okDs xs
end
mutual
theorem eqv_self : ∀ d : PyData, okD d = true → PyData.eqv d d = true
  | .none, _ => rfl
  | .bool b, _ => by simp [PyData.eqv]
  | .int b, _ => by simp [PyData.eqv]
  | .str b, _ => by simp [PyData.eqv]
  | .list xs, h => by rw [PyData.eqv]; exact eqv_selfs xs (by rw [okD] at h; exact h)
  | .tuple xs, h => by rw [PyData.eqv]; exact eqv_selfs xs (by rw [okD] at h; exact h)
  | .dict _, h => by simp [okD] at h
theorem eqv_selfs : ∀ ds : List PyData, okDs ds = true → PyData.eqvAll ds ds = true
  | [], _ => rfl
  | x :: xs, h => by
    rw [okDs, Bool.and_eq_true] at h
    rw [PyData.eqvAll, eqv_self x h.1, eqv_selfs xs h.2]
    rfl
end
end FL

namespace FL
open PySem PySem.Spec PyProof.Rows L2
/-! ### plain data: == is equality -/
/-- ints, texts, None, tuples of these, so deep -/
def okV : Nat → MV → Bool
  | _, .non => true
  | _, .int _ => true
  | _, .str x => PyData.strOk x
  | 0, .tup _ => false
  | n + 1, .tup xs => xs.all (okV n)
  | _, .bl _ => false
  | _, .ref _ => false
mutual
def pD : MV → PyData
  | .non => .none
  | .bl b => .bool b
  | .int i => .int i
  | .str x => .str x
  | .tup xs => .tuple (pDs xs)
  | .ref _ => .none
def pDs : List MV → List PyData
  | [] => []
  | x :: xs => pD x :: pDs xs
end
theorem pDs_map : ∀ xs : List MV, pDs xs = xs.map pD
  | [] => rfl
  | x :: xs => by rw [pDs, pDs_map xs]; rfl
theorem allD_of {f : MV → Option PyData} {g : MV → PyData} : ∀ {xs : List MV}, (∀ x ∈ xs, f x = some (g x)) → allD f xs = some (xs.map g)
  | [], _ => rfl
  | x :: xs, h => by
    rw [allD, h x List.mem_cons_self, allD_of fun y hy => h y (List.mem_cons_of_mem _ hy)]
    rfl
theorem toD_pD {M : MH} : ∀ (n : Nat) (x : MV), okV n x = true → toD (n + 1) M x = some (pD x)
  | n, .non, _ => rfl
  | n, .int _, _ => rfl
  | n, .str _, _ => rfl
  | 0, .tup _, h => by cases h
  | n + 1, .tup xs, h => by
    have h' : xs.all (okV n) = true := h
    have e : allD (toD (n + 1) M) xs = some (xs.map pD) := allD_of fun x hx => toD_pD n x (List.all_eq_true.mp h' x hx)
    show (allD (toD (n + 1) M) xs).map PyData.tuple = some (pD (.tup xs))
    rw [e, pD, pDs_map]
    rfl
  | n, .bl _, h => by cases n <;> cases h
  | n, .ref _, h => by cases n <;> cases h
theorem canLay_all : ∀ {ds : List PyData}, (∀ d ∈ ds, d.canLay0 = true) → PyData.canLayAll0 ds = true
  | [], _ => rfl
  | d :: ds, h => by
    rw [PyData.canLayAll0, h d List.mem_cons_self, canLay_all fun e he => h e (List.mem_cons_of_mem _ he)]
    rfl
theorem depth_all : ∀ {ds : List PyData} {n : Nat}, (∀ d ∈ ds, d.depth ≤ n) → PyData.depthAll ds ≤ n
  | [], n, _ => by rw [PyData.depthAll]; exact Nat.zero_le _
  | d :: ds, n, h => by
    rw [PyData.depthAll]
    exact Nat.max_le.mpr ⟨h d List.mem_cons_self, depth_all fun e he => h e (List.mem_cons_of_mem _ he)⟩
theorem pD_lay : ∀ (n : Nat) (x : MV), okV n x = true → (pD x).canLay0 = true ∧ (pD x).depth ≤ n
  | n, .non, _ => ⟨rfl, by rw [pD, PyData.depth]; exact Nat.zero_le _⟩
  | n, .int _, _ => ⟨rfl, by rw [pD, PyData.depth]; exact Nat.zero_le _⟩
  | n, .str x, h => ⟨by rw [pD, PyData.canLay0]; cases n <;> exact h, by rw [pD, PyData.depth]; exact Nat.zero_le _⟩
  | 0, .tup _, h => by cases h
  | n + 1, .tup xs, h => by
    have h' : xs.all (okV n) = true := h
    have ih : ∀ d ∈ pDs xs, d.canLay0 = true ∧ d.depth ≤ n := by
      rw [pDs_map]
      intro d hd
      obtain ⟨x, hx, rfl⟩ := List.mem_map.mp hd
      exact pD_lay n x (List.all_eq_true.mp h' x hx)
    refine ⟨?_, ?_⟩
    · rw [pD, PyData.canLay0]
      exact canLay_all fun d hd => (ih d hd).1
    · rw [pD, PyData.depth]
      exact Nat.succ_le_succ (depth_all fun d hd => (ih d hd).2)
  | n, .bl _, h => by cases n <;> cases h
  | n, .ref _, h => by cases n <;> cases h
theorem pD_shaped {n : Nat} {x : MV} (h : okV n x = true) (hn : n ≤ 64) : SeqAt.shaped (pD x) = true := by
  obtain ⟨h1, h2⟩ := pD_lay n x h
  unfold SeqAt.shaped
  rw [Bool.and_eq_true]
  exact ⟨h1, decide_eq_true (Nat.le_trans h2 hn)⟩
theorem beq_dec {α : Type} [DecidableEq α] (a b : α) : (a == b) = decide (a = b) := by
  by_cases h : a = b
  · subst h
    simp
  · rw [decide_eq_false h]
    exact beq_eq_false_iff_ne.mpr h
theorem eqv_all {n m : Nat} : ∀ {xs ys : List MV}, (∀ x ∈ xs, ∀ y ∈ ys, PyData.eqv (pD x) (pD y) = decide (x = y)) → PyData.eqvAll (pDs xs) (pDs ys) = decide (xs = ys)
  | [], [], _ => by simp [pDs, PyData.eqvAll]
  | [], y :: ys, _ => by simp [pDs, PyData.eqvAll]
  | x :: xs, [], _ => by simp [pDs, PyData.eqvAll]
  | x :: xs, y :: ys, h => by
    rw [pDs, pDs, PyData.eqvAll, h x List.mem_cons_self y List.mem_cons_self, eqv_all (n := n) (m := m) fun a ha b hb => h a (List.mem_cons_of_mem _ ha) b (List.mem_cons_of_mem _ hb)]
    by_cases e1 : x = y
    · by_cases e2 : xs = ys
      · simp [e1, e2]
      · simp [e1, e2]
    · simp [e1]
theorem eqv_pD : ∀ (n m : Nat) (x y : MV), okV n x = true → okV m y = true → PyData.eqv (pD x) (pD y) = decide (x = y) := by
  intro n
  induction n with
  | zero =>
    intro m x y hx hy
    cases x <;> cases y <;> first | (cases hx; done) | (cases m <;> cases hy; done) | (simp only [pD, PyData.eqv]; simp [beq_dec]; done)
  | succ n ih =>
    intro m x y hx hy
    cases x with
    | tup xs =>
      cases y with
      | tup ys =>
        cases m with
        | zero => cases hy
        | succ m =>
          have hx' : xs.all (okV n) = true := hx
          have hy' : ys.all (okV m) = true := hy
          rw [pD, pD, PyData.eqv, eqv_all (n := n) (m := m) fun a ha b hb => ih m a b (List.all_eq_true.mp hx' a ha) (List.all_eq_true.mp hy' b hb)]
          simp
      | _ => first | (cases m <;> cases hy; done) | (simp only [pD, PyData.eqv]; simp; done)
    | _ => cases y <;> first | (cases hx; done) | (cases m <;> cases hy; done) | (simp only [pD, PyData.eqv]; simp [beq_dec]; done)
theorem deepEq_plain {M : MH} {n m : Nat} {x y : MV} (hx : okV n x = true) (hy : okV m y = true) (hn : n ≤ 64) (hm : m ≤ 64) : deepEq M x y = some (decide (x = y)) := by
  have up : ∀ (k j : Nat) (z : MV), okV k z = true → okV (k + j) z = true := by
    intro k
    induction k with
    | zero =>
      intro j z h
      cases z with
      | tup _ => cases h
      | bl _ => cases h
      | ref _ => cases h
      | str x => cases j <;> exact h
      | _ => cases j <;> rfl
    | succ k ih =>
      intro j z h
      rw [Nat.succ_add]
      cases z with
      | tup zs =>
        have h' : zs.all (okV k) = true := h
        show zs.all (okV (k + j)) = true
        exact List.all_eq_true.mpr fun a ha => ih j a (List.all_eq_true.mp h' a ha)
      | bl _ => cases h
      | ref _ => cases h
      | str x => exact h
      | _ => rfl
  have e1 : toD 66 M x = some (pD x) := toD_pD 65 x (by
    have := up n (65 - n) x hx
    rwa [show n + (65 - n) = 65 by omega] at this)
  have e2 : toD 66 M y = some (pD y) := toD_pD 65 y (by
    have := up m (65 - m) y hy
    rwa [show m + (65 - m) = 65 by omega] at this)
  unfold deepEq
  rw [e1, e2]
  simp only [pD_shaped hx hn, pD_shaped hy hm, Bool.and_self, if_true]
  rw [eqv_pD n m x y hx hy]
theorem scalEq_eq {x y : MV} {b : Bool} (h : scalEq x y = some b) : b = decide (x = y) := by
  unfold scalEq at h
  split at h <;> cases h <;> simp
theorem eqM_plain {M : MH} {n m : Nat} {x y : MV} (hx : okV n x = true) (hy : okV m y = true) (hn : n ≤ 64) (hm : m ≤ 64) : eqM M x y = some (decide (x = y)) := by
  unfold eqM
  cases h : scalEq x y with
  | some b => rw [scalEq_eq h]
  | none => exact deepEq_plain hx hy hn hm
theorem gEq_plain {M : MH} {n m : Nat} {x y : MV} (hx : okV n x = true) (hy : okV m y = true) (hn : n ≤ 64 := by decide) (hm : m ≤ 64 := by decide) : gEq x y M = .ok (.bl (decide (x = y))) M := by
  unfold gEq
  rw [eqM_plain hx hy hn hm]
theorem gNe_plain {M : MH} {n m : Nat} {x y : MV} (hx : okV n x = true) (hy : okV m y = true) (hn : n ≤ 64 := by decide) (hm : m ≤ 64 := by decide) : gNe x y M = .ok (.bl (!decide (x = y))) M := by
  unfold gNe
  rw [eqM_plain hx hy hn hm]
end FL

namespace FL
open PySem PySem.Spec PyProof.Rows L2
/-! ### dicts: an insertion-ordered table -/
def dGet (kvs : List (MV × MV)) (k : MV) : Option MV := (kvs.find? fun kv => decide (kv.1 = k)).map (·.2)
def dPut (kvs : List (MV × MV)) (k x : MV) : List (MV × MV) :=
  if (kvs.any fun kv => decide (kv.1 = k)) = true then kvs.map (fun kv => if kv.1 = k then (kv.1, x) else kv) else kvs ++ [(k, x)]
def dDel (kvs : List (MV × MV)) (k : MV) : List (MV × MV) := kvs.filter fun kv => decide (kv.1 ≠ k)
def okF (k : MV) : Bool := (flatOf k).isSome
def isTup : MV → Bool
  | .tup _ => true
  | _ => false
def okN (k : MV) : Bool := isTup k && (match keyOf k with
  | some q => decide (q.depth ≤ 8)
  | none => false)
def mF (kvs : List (MV × MV)) (k : MV) : Bool := okF k && kvs.all fun p => okF p.1
def mN (kvs : List (MV × MV)) (k : MV) : Bool := okN k && kvs.all fun p => isTup p.1
def modeOk (kvs : List (MV × MV)) (k : MV) : Bool := mF kvs k || mN kvs k
theorem dGet_pos {j x k : MV} {r : List (MV × MV)} (e : j = k) : dGet ((j, x) :: r) k = some x := by simp [dGet, List.find?_cons, e]
theorem dGet_neg {j x k : MV} {r : List (MV × MV)} (e : ¬ j = k) : dGet ((j, x) :: r) k = dGet r k := by simp [dGet, List.find?_cons, e]
theorem atKey_pos {q p : NestedKey} {b : Addr} {u : Value} {r : List (NestedKey × Addr × Value)} (e : q = p) : atKey ((q, b, u) :: r) p = some (b, u) := by simp [atKey, List.find?_cons, e]
theorem atKey_neg {q p : NestedKey} {b : Addr} {u : Value} {r : List (NestedKey × Addr × Value)} (e : ¬ q = p) : atKey ((q, b, u) :: r) p = atKey r p := by simp [atKey, List.find?_cons, e]
theorem flat_inj {x y : MV} {q : Key} (h : flatOf x = some q) (h2 : flatOf y = some q) : x = y := by
  cases x <;> cases y <;> simp_all [flatOf]
  · rw [← h] at h2
    injection h2 with h2
    exact h2.symm
  · rw [← h] at h2
    cases h2
  · rw [← h] at h2
    cases h2
  · rw [← h] at h2
    injection h2 with h2
    exact h2.symm
mutual
theorem key_inj : ∀ {x y : MV} {q : NestedKey}, keyOf x = some q → keyOf y = some q → x = y
  | .non, y, q, h, h2 => by
    cases y with
    | non => rfl
    | tup ys =>
      unfold keyOf at h h2
      rw [← h] at h2
      obtain ⟨z, _, e⟩ := Option.map_eq_some_iff.mp h2
      cases e
    | _ => unfold keyOf at h h2; rw [← h] at h2; cases h2
  | .bl _, y, q, h, h2 => by cases h
  | .ref _, y, q, h, h2 => by cases h
  | .int i, y, q, h, h2 => by
    cases y with
    | int j =>
      unfold keyOf at h h2
      rw [← h] at h2
      cases h2
      rfl
    | tup ys =>
      unfold keyOf at h h2
      rw [← h] at h2
      obtain ⟨z, _, e⟩ := Option.map_eq_some_iff.mp h2
      cases e
    | _ => unfold keyOf at h h2; rw [← h] at h2; cases h2
  | .str i, y, q, h, h2 => by
    cases y with
    | str j =>
      unfold keyOf at h h2
      rw [← h] at h2
      cases h2
      rfl
    | tup ys =>
      unfold keyOf at h h2
      rw [← h] at h2
      obtain ⟨z, _, e⟩ := Option.map_eq_some_iff.mp h2
      cases e
    | _ => unfold keyOf at h h2; rw [← h] at h2; cases h2
  | .tup xs, y, q, h, h2 => by
    unfold keyOf at h
    obtain ⟨ks, e1, rfl⟩ := Option.map_eq_some_iff.mp h
    cases y with
    | tup ys =>
      unfold keyOf at h2
      obtain ⟨ls, e2, e3⟩ := Option.map_eq_some_iff.mp h2
      cases e3
      rw [keys_inj e1 e2]
    | _ => unfold keyOf at h2; cases h2
theorem keys_inj : ∀ {xs ys : List MV} {ks : List NestedKey}, keysOf xs = some ks → keysOf ys = some ks → xs = ys
  | [], ys, ks, h, h2 => by
    unfold keysOf at h
    cases h
    cases ys with
    | nil => rfl
    | cons y ys =>
      unfold keysOf at h2
      split at h2 <;> cases h2
  | x :: xs, ys, ks, h, h2 => by
    unfold keysOf at h
    split at h
    · rename_i k ks' e1 e2
      cases h
      cases ys with
      | nil => cases h2
      | cons y ys =>
        unfold keysOf at h2
        split at h2
        · rename_i k2 ks2 e3 e4
          cases h2
          rw [key_inj e1 e3, keys_inj e2 e4]
        · cases h2
    · cases h
end
section
variable {K : PySem.W.Frag} {π : List Addr} {H : Hp}
/-! ### flat keys -/
theorem RDk.nil : RDk K π H [] [] := by unfold RDk; rfl
theorem RDk.cons {k x : MV} {kvs : List (MV × MV)} {q : Key} {v : V} {gs : List (Key × V)} (h : flatOf k = some q) (r : RV K π H x v) (t : RDk K π H kvs gs) : RDk K π H ((k, x) :: kvs) ((q, v) :: gs) := by
  unfold RDk
  exact ⟨q, v, gs, rfl, h, r, t⟩
theorem RDk.un {k x : MV} {kvs : List (MV × MV)} {gs : List (Key × V)} (h : RDk K π H ((k, x) :: kvs) gs) : ∃ q v hs, gs = (q, v) :: hs ∧ flatOf k = some q ∧ RV K π H x v ∧ RDk K π H kvs hs := by
  unfold RDk at h
  exact h
theorem RDk.length : ∀ {kvs : List (MV × MV)} {gs : List (Key × V)}, RDk K π H kvs gs → kvs.length = gs.length
  | [], _, h => by unfold RDk at h; subst h; rfl
  | (k, x) :: kvs, _, h => by
    obtain ⟨q, v, hs, rfl, _, _, t⟩ := h.un
    simp [RDk.length t]
theorem flat_dec {x y : MV} {p q : Key} (h : flatOf x = some p) (h2 : flatOf y = some q) : decide (x = y) = decide (p = q) := by
  by_cases e : p = q
  · subst e
    rw [flat_inj h h2]
    simp
  · rw [decide_eq_false e, decide_eq_false fun z => e (by rw [z, h2] at h; cases h; rfl)]
theorem RDk.any {k : MV} {p : Key} (hk : flatOf k = some p) : ∀ {kvs : List (MV × MV)} {gs : List (Key × V)}, RDk K π H kvs gs → (kvs.any fun kv => decide (kv.1 = k)) = gs.any fun kv => decide (kv.1 = p)
  | [], _, h => by unfold RDk at h; subst h; rfl
  | (j, x) :: kvs, _, h => by
    obtain ⟨q, v, hs, rfl, e, _, t⟩ := h.un
    rw [List.any_cons, List.any_cons, RDk.any hk t, flat_dec e hk]
theorem RDk.get {k : MV} {p : Key} (hk : flatOf k = some p) : ∀ {kvs : List (MV × MV)} {gs : List (Key × V)}, RDk K π H kvs gs → (∀ x, dGet kvs k = some x → ∃ v, valV gs p = some v ∧ RV K π H x v) ∧ (dGet kvs k = none → valV gs p = none)
  | [], _, h => by
    unfold RDk at h
    subst h
    exact ⟨(fun x e => by cases e), fun _ => rfl⟩
  | (j, x) :: kvs, _, h => by
    obtain ⟨q, v, hs, rfl, e, r, t⟩ := h.un
    have ih := RDk.get hk t
    have d := flat_dec e hk
    by_cases c : q = p
    · have c2 : j = k := of_decide_eq_true (by rw [d]; exact decide_eq_true c)
      rw [dGet_pos c2, valV_pos (p := (q, v)) c]
      exact ⟨fun y ey => ⟨v, rfl, by cases ey; exact r⟩, fun ey => by cases ey⟩
    · have c2 : ¬ j = k := of_decide_eq_false (by rw [d]; exact decide_eq_false c)
      rw [dGet_neg c2, valV_neg (p := (q, v)) c]
      exact ih
theorem RDk.map {k : MV} {p : Key} {y : MV} {u : V} (hk : flatOf k = some p) (ry : RV K π H y u) : ∀ {kvs : List (MV × MV)} {gs : List (Key × V)}, RDk K π H kvs gs → RDk K π H (kvs.map fun kv => if kv.1 = k then (kv.1, y) else kv) (gs.map fun kv => if kv.1 = p then (kv.1, u) else kv)
  | [], _, h => by
    unfold RDk at h
    subst h
    exact RDk.nil
  | (j, x) :: kvs, _, h => by
    obtain ⟨q, v, hs, rfl, e, r, t⟩ := h.un
    rw [List.map_cons, List.map_cons]
    have d := flat_dec e hk
    by_cases c : q = p
    · have c2 : j = k := of_decide_eq_true (by rw [d]; exact decide_eq_true c)
      rw [if_pos c, if_pos c2]
      exact RDk.cons e ry (RDk.map hk ry t)
    · have c2 : ¬ j = k := of_decide_eq_false (by rw [d]; exact decide_eq_false c)
      rw [if_neg c, if_neg c2]
      exact RDk.cons e r (RDk.map hk ry t)
theorem RDk.snoc {k : MV} {p : Key} {y : MV} {u : V} (hk : flatOf k = some p) (ry : RV K π H y u) : ∀ {kvs : List (MV × MV)} {gs : List (Key × V)}, RDk K π H kvs gs → RDk K π H (kvs ++ [(k, y)]) (gs ++ [(p, u)])
  | [], _, h => by
    unfold RDk at h
    subst h
    exact RDk.cons hk ry RDk.nil
  | (j, x) :: kvs, _, h => by
    obtain ⟨q, v, hs, rfl, e, r, t⟩ := h.un
    exact RDk.cons e r (RDk.snoc hk ry t)
theorem RDk.put {k : MV} {p : Key} {y : MV} {u : V} (hk : flatOf k = some p) (ry : RV K π H y u) {kvs : List (MV × MV)} {gs : List (Key × V)} (h : RDk K π H kvs gs) : RDk K π H (dPut kvs k y) (putK gs p u) := by
  unfold dPut putK
  rw [RDk.any hk h]
  split
  · exact RDk.map hk ry h
  · exact RDk.snoc hk ry h
theorem RDk.del {k : MV} {p : Key} (hk : flatOf k = some p) : ∀ {kvs : List (MV × MV)} {gs : List (Key × V)}, RDk K π H kvs gs → RDk K π H (dDel kvs k) (dropK gs p)
  | [], _, h => by
    unfold RDk at h
    subst h
    exact RDk.nil
  | (j, x) :: kvs, _, h => by
    obtain ⟨q, v, hs, rfl, e, r, t⟩ := h.un
    have ih := RDk.del hk t
    unfold dDel dropK at *
    rw [List.filter_cons, List.filter_cons]
    have d := flat_dec e hk
    by_cases c : q = p
    · have c2 : j = k := of_decide_eq_true (by rw [d]; exact decide_eq_true c)
      rw [if_neg (by simp [c2]), if_neg (by simp [c])]
      exact ih
    · have c2 : ¬ j = k := of_decide_eq_false (by rw [d]; exact decide_eq_false c)
      rw [if_pos (by simp [c2]), if_pos (by simp [c])]
      exact RDk.cons e r ih

/-! ### tuples as keys -/
/-- entries and what stands in the heap -/
def NV (K : PySem.W.Frag) (π : List Addr) (H : Hp) : List (MV × MV) → List (NestedKey × Addr × Value) → Prop
  | [], xs => xs = []
  | (k, x) :: kvs, xs => ∃ q b v u ys, xs = (q, b, u) :: ys ∧ keyOf k = some q ∧ q.depth ≤ 8 ∧ RV K π H k (.ref b) ∧ RV K π H x v ∧ RelV v u ∧ NV K π H kvs ys
theorem NV.nil : NV K π H [] [] := by unfold NV; rfl
theorem NV.cons {k x : MV} {kvs : List (MV × MV)} {q : NestedKey} {b : Addr} {v : V} {u : Value} {ys : List (NestedKey × Addr × Value)} (h1 : keyOf k = some q) (h2 : q.depth ≤ 8) (h3 : RV K π H k (.ref b)) (h4 : RV K π H x v) (h5 : RelV v u) (t : NV K π H kvs ys) : NV K π H ((k, x) :: kvs) ((q, b, u) :: ys) := by
  unfold NV
  exact ⟨q, b, v, u, ys, rfl, h1, h2, h3, h4, h5, t⟩
theorem NV.un {k x : MV} {kvs : List (MV × MV)} {xs : List (NestedKey × Addr × Value)} (h : NV K π H ((k, x) :: kvs) xs) : ∃ q b v u ys, xs = (q, b, u) :: ys ∧ keyOf k = some q ∧ q.depth ≤ 8 ∧ RV K π H k (.ref b) ∧ RV K π H x v ∧ RelV v u ∧ NV K π H kvs ys := by
  unfold NV at h
  exact h
theorem NV.length : ∀ {kvs : List (MV × MV)} {xs : List (NestedKey × Addr × Value)}, NV K π H kvs xs → kvs.length = xs.length
  | [], _, h => by unfold NV at h; subst h; rfl
  | (k, x) :: kvs, _, h => by
    obtain ⟨q, b, v, u, ys, rfl, _, _, _, _, _, t⟩ := h.un
    simp [NV.length t]
abbrev RNu : (NestedKey × Addr × V) → (NestedKey × Addr × Value) → Prop := fun p q => p.1 = q.1 ∧ p.2.1 = q.2.1 ∧ RelV p.2.2 q.2.2
theorem nv_of : ∀ {kvs : List (MV × MV)} {gs : List (NestedKey × Addr × V)} {us : List (NestedKey × Addr × Value)}, RDn K π H kvs gs → Paired RNu gs us → NV K π H kvs us
  | [], _, _, h, p => by
    unfold RDn at h
    subst h
    cases p
    exact NV.nil
  | (k, x) :: kvs, _, _, h, p => by
    unfold RDn at h
    obtain ⟨q, b, v, hs, rfl, h1, h2, h3, h4, t⟩ := h
    cases p with
    | cons r p =>
      rename_i u us
      obtain ⟨q', b', u'⟩ := u
      obtain ⟨e1, e2, e3⟩ := r
      cases e1
      cases e2
      exact NV.cons h1 h2 h3 h4 e3 (nv_of t p)
theorem nv_split : ∀ {kvs : List (MV × MV)} {us : List (NestedKey × Addr × Value)}, NV K π H kvs us → ∃ gs, RDn K π H kvs gs ∧ Paired RNu gs us
  | [], _, h => by
    unfold NV at h
    subst h
    exact ⟨[], by unfold RDn; rfl, .nil⟩
  | (k, x) :: kvs, _, h => by
    obtain ⟨q, b, v, u, ys, rfl, h1, h2, h3, h4, h5, t⟩ := h.un
    obtain ⟨gs, r, p⟩ := nv_split t
    exact ⟨(q, b, v) :: gs, by unfold RDn; exact ⟨q, b, v, gs, rfl, h1, h2, h3, h4, r⟩, .cons ⟨rfl, rfl, h5⟩ p⟩
theorem key_dec {x y : MV} {p q : NestedKey} (h : keyOf x = some p) (h2 : keyOf y = some q) : decide (x = y) = decide (p = q) := by
  by_cases e : p = q
  · subst e
    rw [key_inj h h2]
    simp
  · rw [decide_eq_false e, decide_eq_false fun z => e (by rw [z, h2] at h; cases h; rfl)]
theorem NV.get {k : MV} {p : NestedKey} (hk : keyOf k = some p) : ∀ {kvs : List (MV × MV)} {xs : List (NestedKey × Addr × Value)}, NV K π H kvs xs →
    (∀ x, dGet kvs k = some x → ∃ e v, atKey xs p = some e ∧ RV K π H x v ∧ RelV v e.2) ∧ (dGet kvs k = none → atKey xs p = none)
  | [], _, h => by
    unfold NV at h
    subst h
    exact ⟨(fun x e => by cases e), fun _ => rfl⟩
  | (j, x) :: kvs, _, h => by
    obtain ⟨q, b, v, u, ys, rfl, e, h2, h3, h4, h5, t⟩ := h.un
    have ih := NV.get hk t
    have d := key_dec e hk
    by_cases c : q = p
    · have c2 : j = k := of_decide_eq_true (by rw [d]; exact decide_eq_true c)
      rw [dGet_pos c2, atKey_pos c]
      exact ⟨fun y ey => ⟨_, v, rfl, by cases ey; exact h4, h5⟩, fun ey => by cases ey⟩
    · have c2 : ¬ j = k := of_decide_eq_false (by rw [d]; exact decide_eq_false c)
      rw [dGet_neg c2, atKey_neg c]
      exact ih
theorem dGet_any (kvs : List (MV × MV)) (k : MV) : (kvs.any fun kv => decide (kv.1 = k)) = (dGet kvs k).isSome := by
  unfold dGet
  induction kvs with
  | nil => rfl
  | cons p kvs ih =>
    rw [List.any_cons, List.find?_cons, ih]
    cases decide (p.1 = k) <;> simp
theorem NV.any {k : MV} {p : NestedKey} (hk : keyOf k = some p) {kvs : List (MV × MV)} {xs : List (NestedKey × Addr × Value)} (h : NV K π H kvs xs) : (kvs.any fun kv => decide (kv.1 = k)) = (atKey xs p).isSome := by
  rw [dGet_any]
  have g := h.get hk
  cases e : dGet kvs k with
  | none => rw [g.2 e]; rfl
  | some x =>
    obtain ⟨e', v, h1, _⟩ := g.1 x e
    rw [h1]
    rfl
theorem NV.map {k : MV} {p : NestedKey} {y : MV} {v : V} {u : Value} (hk : keyOf k = some p) (ry : RV K π H y v) (ru : RelV v u) : ∀ {kvs : List (MV × MV)} {xs : List (NestedKey × Addr × Value)}, NV K π H kvs xs →
    NV K π H (kvs.map fun kv => if kv.1 = k then (kv.1, y) else kv) (xs.map (putAt p u))
  | [], _, h => by
    unfold NV at h
    subst h
    exact NV.nil
  | (j, x) :: kvs, _, h => by
    obtain ⟨q, b, v, u', ys, rfl, e, h2, h3, h4, h5, t⟩ := h.un
    rw [List.map_cons, List.map_cons]
    have d := key_dec e hk
    unfold putAt
    by_cases c : q = p
    · have c2 : j = k := of_decide_eq_true (by rw [d]; exact decide_eq_true c)
      rw [if_pos c, if_pos c2]
      exact NV.cons e h2 h3 ry ru (NV.map hk ry ru t)
    · have c2 : ¬ j = k := of_decide_eq_false (by rw [d]; exact decide_eq_false c)
      rw [if_neg c, if_neg c2]
      exact NV.cons e h2 h3 h4 h5 (NV.map hk ry ru t)
theorem NV.append : ∀ {kvs ls : List (MV × MV)} {xs ys : List (NestedKey × Addr × Value)}, NV K π H kvs xs → NV K π H ls ys → NV K π H (kvs ++ ls) (xs ++ ys)
  | [], _, _, _, h, g => by
    unfold NV at h
    subst h
    exact g
  | (j, x) :: kvs, _, _, _, h, g => by
    obtain ⟨q, b, v, u', ys, rfl, e, h2, h3, h4, h5, t⟩ := h.un
    exact NV.cons e h2 h3 h4 h5 (NV.append t g)
theorem NV.put {k : MV} {p : NestedKey} {y : MV} {b : Addr} {v : V} {u : Value} (hk : keyOf k = some p) (hd : p.depth ≤ 8) (rk : RV K π H k (.ref b)) (ry : RV K π H y v) (ru : RelV v u) {kvs : List (MV × MV)} {xs : List (NestedKey × Addr × Value)} (h : NV K π H kvs xs) :
    NV K π H (dPut kvs k y) (storedH xs p b u) := by
  unfold dPut storedH
  rw [h.any hk]
  split
  · exact NV.map hk ry ru h
  · exact h.append (NV.cons hk hd rk ry ru NV.nil)
theorem NV.del {k : MV} {p : NestedKey} (hk : keyOf k = some p) : ∀ {kvs : List (MV × MV)} {xs : List (NestedKey × Addr × Value)}, NV K π H kvs xs → NV K π H (dDel kvs k) (withoutH xs p)
  | [], _, h => by
    unfold NV at h
    subst h
    exact NV.nil
  | (j, x) :: kvs, _, h => by
    obtain ⟨q, b, v, u', ys, rfl, e, h2, h3, h4, h5, t⟩ := h.un
    have ih := NV.del hk t
    unfold dDel withoutH at *
    rw [List.filter_cons, List.filter_cons]
    have d := key_dec e hk
    by_cases c : q = p
    · have c2 : j = k := of_decide_eq_true (by rw [d]; exact decide_eq_true c)
      rw [if_neg (by simp [c2]), if_neg (by simp [c])]
      exact ih
    · have c2 : ¬ j = k := of_decide_eq_false (by rw [d]; exact decide_eq_false c)
      rw [if_pos (by simp [c2]), if_pos (by simp [c])]
      exact NV.cons e h2 h3 h4 h5 ih
end

/-! ### what stands at a dict's place -/
def DO (P : Program) (w : World) (K : PySem.W.Frag) (π : List Addr) (H : Hp) (a : Addr) (kvs : List (MV × MV)) (o : HO) : Prop :=
  (∃ gs, o = .dK gs ∧ RDk K π H kvs gs) ∨ (∃ gs, kvs ≠ [] ∧ o = dN P w a gs ∧ RDn K π H kvs gs)
section
variable {P : Program} {w : World} {K : PySem.W.Frag} {mg : Str → Option Value} {π π' : List Addr} {H H' : Hp} {a : Addr} {kvs : List (MV × MV)} {o : HO}
theorem RO.dct (h : RO P w K mg π H a (.dct kvs)) : ∃ o, H a = Option.some o ∧ DO P w K π H a kvs o := by
  rcases h with ⟨gs, h1, h2⟩ | ⟨gs, h0, h1, h2⟩
  · exact ⟨_, h1, .inl ⟨gs, rfl, h2⟩⟩
  · exact ⟨_, h1, .inr ⟨gs, h0, rfl, h2⟩⟩
theorem DO.ro (d : DO P w K π H a kvs o) (h : H a = Option.some o) : RO P w K mg π H a (.dct kvs) := by
  rcases d with ⟨gs, rfl, r⟩ | ⟨gs, h0, rfl, r⟩
  · exact .inl ⟨gs, h, r⟩
  · exact .inr ⟨gs, h0, h, r⟩
theorem DO.ext (e : Ext π H π' H') (d : DO P w K π H a kvs o) : DO P w K π' H' a kvs o := by
  rcases d with ⟨gs, rfl, r⟩ | ⟨gs, h0, rfl, r⟩
  · exact .inl ⟨gs, rfl, r.ext e⟩
  · exact .inr ⟨gs, h0, rfl, r.ext e⟩
theorem DO.notup (d : DO P w K π H a kvs o) : ∀ vs, o ≠ .tup vs := by
  rcases d with ⟨gs, rfl, r⟩ | ⟨gs, h0, rfl, r⟩ <;> intro vs z <;> cases z
end
section
variable {X : Cx} {W : WX} {pins : List (Addr × Obj)} {σ : St} {H : Hp} {s : Shared} {π : List Addr} {a : Addr} {kvs : List (MV × MV)} {o : HO}
mutual
theorem nested_is (I : Inv X pins σ H s) : ∀ {x : MV} {q : NestedKey} {v : V} {u : Value}, keyOf x = some q → RV X.K π H x v → RelV v u → NestedIs s.heap q u
  | .non, q, v, u, h, r, ru => by
    cases h
    rw [RV_non] at r
    subst r
    cases ru
    exact .none
  | .int i, q, v, u, h, r, ru => by
    cases h
    rw [RV_int] at r
    subst r
    obtain ⟨t, rfl⟩ := ru
    exact .int i t
  | .str i, q, v, u, h, r, ru => by
    cases h
    rw [RV_str] at r
    subst r
    obtain ⟨t, rfl⟩ := ru
    exact .text i t
  | .bl _, _, _, _, h, _, _ => by cases h
  | .ref _, _, _, _, h, _, _ => by cases h
  | .tup xs, q, v, u, h, r, ru => by
    unfold keyOf at h
    obtain ⟨ks, e1, rfl⟩ := Option.map_eq_some_iff.mp h
    obtain ⟨b, vs, rfl, g1, g2⟩ := tup_sq r
    cases ru
    obtain ⟨its, rv, ⟨ob, h1, h2, n, h3⟩, _⟩ := I.tuple g1
    exact .tup h1 h2 h3 (by simpa using nested_all I e1 g2 rv)
theorem nested_all (I : Inv X pins σ H s) : ∀ {xs : List MV} {ks : List NestedKey} {vs : List V} {us : List Value}, keysOf xs = some ks → RVs X.K π H xs vs → Vals vs us → NestedAll s.heap ks us
  | [], ks, vs, us, h, r, ru => by
    unfold keysOf at h
    cases h
    rw [r.unnil] at ru
    cases ru
    exact .nil
  | x :: xs, ks, vs, us, h, r, ru => by
    unfold keysOf at h
    split at h
    · rename_i k ks' e1 e2
      cases h
      obtain ⟨v, ws, rfl, r1, r2⟩ := r.uncons
      cases ru with
      | cons u1 u2 => exact .cons (nested_is I e1 r1 u1) (nested_all I e2 r2 u2)
    · cases h
end
/-- a dict with flat keys -/
theorem fview (I : Inv X pins σ H s) (d : DO X.prog X.w X.K π H a kvs o) (hk : kvs.all (fun p => okF p.1) = true) : ∃ gs, o = .dK gs ∧ RDk X.K π H kvs gs := by
  rcases d with h | ⟨gs, h0, rfl, r⟩
  · exact h
  · exfalso
    cases kvs with
    | nil => exact h0 rfl
    | cons p kvs =>
      obtain ⟨k, x⟩ := p
      unfold RDn at r
      obtain ⟨q, b, v, hs, rfl, h1, h2, h3, h4, h5⟩ := r
      have f : okF k = true := by
        have := List.all_eq_true.mp hk (k, x) List.mem_cons_self
        exact this
      cases k with
      | int i => rw [RV_int] at h3; cases h3
      | str i => rw [RV_str] at h3; cases h3
      | _ => cases f
/-- a dict with tuples as keys -/
theorem nview (I : Inv X pins σ H s) (ha : H a = some o) (d : DO X.prog X.w X.K π H a kvs o) (hk : kvs.all (fun p => isTup p.1) = true) : (a == sysModules) = false ∧ kvs.length ≤ sizeLine ∧ ∃ xs, NV X.K π H kvs xs ∧ s.heap.DictOfH (nestedKind X.prog X.w) a xs := by
  rcases d with ⟨gs, rfl, r⟩ | ⟨gs, h0, rfl, r⟩
  · cases kvs with
    | nil =>
      unfold RDk at r
      subst r
      obtain ⟨z, hd, vs, rel, ob, es, ep, h1, h2, h3, _, h5, h6⟩ := dk_of I.hok ha
      cases rel
      refine ⟨hd, Nat.zero_le _, [], NV.nil, ob, es, ep, h1, h2, h3, ?_, (fun _ hx => nomatch hx), List.nodup_nil⟩
      cases he : es.toList with
      | nil => rfl
      | cons e es' => rw [he] at h5; cases h5
    | cons p kvs =>
      exfalso
      obtain ⟨k, x⟩ := p
      obtain ⟨q, v, hs, rfl, e, _, _⟩ := r.un
      have f : isTup k = true := by
        have := List.all_eq_true.mp hk (k, x) List.mem_cons_self
        exact this
      cases k with
      | tup _ => cases e
      | _ => cases f
  · obtain ⟨⟨hd, z, us, pr, ob, es, ep, h1, h2, h3, h4, h5⟩, _⟩ := (show ObjOk X.prog X.w H s.heap a (dN X.prog X.w a gs) from I.hok a _ ha)
    have nv := nv_of r pr
    have len : gs.length = us.length := Paired.length pr
    refine ⟨hd, by rw [nv.length, ← len]; exact z, us, nv, ob, es, ep, h1, h2, h3, h4, ?_, h5⟩
    have all : ∀ {kvs : List (MV × MV)} {xs : List (NestedKey × Addr × Value)}, NV X.K π H kvs xs → ∀ x ∈ xs, (nestedKind X.prog X.w).is s.heap x.1 x.2.1 := by
      intro kvs
      induction kvs with
      | nil =>
        intro xs h x hx
        unfold NV at h
        subst h
        cases hx
      | cons p kvs ih =>
        intro xs h x hx
        obtain ⟨k, y⟩ := p
        obtain ⟨q, b, v, u', ys, rfl, e, h2, h3, h4, h5, t⟩ := h.un
        rcases List.mem_cons.mp hx with rfl | hx
        · exact ⟨nested_is I e h3 rfl, h2⟩
        · exact ih t x hx
    exact all nv
theorem d_is (I : Inv X pins σ H s) (ha : H a = some o) (d : DO X.prog X.w X.K π H a kvs o) : (a == sysModules) = false ∧ s.TypeIs (.ref a) "dict" ∧ kvs.length ≤ sizeLine ∧ ∀ b, Value.ref a = .ref b → ∃ ob, s.heap.get? b = some ob ∧ ob.dict = none := by
  rcases d with ⟨gs, rfl, r⟩ | ⟨gs, h0, rfl, r⟩
  · obtain ⟨z, hd, vs, rel, dd⟩ := dk_of I.hok ha
    refine ⟨hd, dd.typeIs, by rw [r.length]; exact z, fun b q => ?_⟩
    cases q
    obtain ⟨ob, _, _, h1, h2, _⟩ := dd
    exact ⟨ob, h1, h2.2.1⟩
  · obtain ⟨⟨hd, z, us, pr, ob, es, ep, h1, h2, h3, h4, h5⟩, _⟩ := (show ObjOk X.prog X.w H s.heap a (dN X.prog X.w a gs) from I.hok a _ ha)
    refine ⟨hd, ⟨ob, h1, h2.1⟩, ?_, fun b q => ?_⟩
    · rw [(nv_of r pr).length, ← Paired.length pr]
      exact z
    · cases q
      exact ⟨ob, h1, h2.2.1⟩
/-- a tuple as key -/
theorem nkey (I : Inv X pins σ H s) {k : MV} {y : V} {u : Value} (hk : okN k = true) (r : RV X.K π H k y) (ru : RelV y u) : ∃ q b, keyOf k = some q ∧ q.depth ≤ 8 ∧ y = .ref b ∧ u = .ref b ∧ (nestedKind X.prog X.w).is s.heap q b := by
  unfold okN at hk
  rw [Bool.and_eq_true] at hk
  obtain ⟨h1, h2⟩ := hk
  cases k with
  | tup xs =>
    cases e : keyOf (.tup xs) with
    | none => rw [e] at h2; cases h2
    | some q =>
      rw [e] at h2
      have hd : q.depth ≤ 8 := of_decide_eq_true h2
      have n := nested_is I e r ru
      obtain ⟨b, vs, rfl, _, _⟩ := tup_sq r
      cases ru
      exact ⟨q, b, rfl, hd, rfl, rfl, n, hd⟩
  | _ => cases h1
/-- the dict is written: its new description -/
theorem nwrite (I : Inv X pins σ H s) (ha : H a = some o) (d : DO X.prog X.w X.K π H a kvs o) {kvs' : List (MV × MV)} {xs' : List (NestedKey × Addr × Value)} {h' : Heap} {t' : Nat} (hd : (a == sysModules) = false) (hl : kvs'.length ≤ sizeLine) (h0 : kvs' ≠ []) (nv : NV X.K π H kvs' xs') (dd : h'.DictOfH (nestedKind X.prog X.w) a xs') (hs : Heap.SameBut a s.heap h') :
    ∃ o', DO X.prog X.w X.K π H a kvs' o' ∧ Inv X pins σ (upd H a o') { s with heap := h', toks := t' } := by
  obtain ⟨gs, r, pr⟩ := nv_split nv
  obtain ⟨ob, es, ep, h1, h2, h3, h4, _, h5⟩ := dd
  refine ⟨dN X.prog X.w a gs, .inr ⟨gs, h0, rfl, r⟩, d_write I ?_ hs ⟨ob, h1⟩ ?_⟩
  · rcases d with ⟨gs, rfl, r⟩ | ⟨gs, h0, rfl, r⟩ <;> rw [ha] <;> exact True.intro
  · refine ⟨⟨hd, ?_, xs', pr, ob, es, ep, h1, h2, h3, h4, h5⟩, ⟨ob, h1⟩, ?_⟩
    · rw [Paired.length pr, ← nv.length]
      exact hl
    · rintro g1 g2 ⟨q1, q2, us, q3, ob', es', ep', q4, q5⟩ k
      exact ⟨q1, q2, us, q3, ob', es', ep', k _ q4, q5⟩
end
end FL

namespace FL
open PySem PySem.Spec PyProof.Rows L2
theorem hu100 {A : Around} {k : Nat} (hr : Room k A) : A.units + 100 < cLine := by have := hr.un; omega
/-! ### the one reading of an operation -/
def rG (X : Cx) (W : WX) (g : G2) : R2 := fun u v H Q => ∃ σ π M x y, RV X.K π H x u ∧ RV X.K π H y v ∧ RM X.prog X.w X.K X.mg π H M ∧ PostR X W (RV X.K) σ π H (g x y M) Q
def rGM (X : Cx) (W : WX) (g : MV → List MV → MH → Res MV) : V → List V → Hp → VK → Prop := fun u vs H Q => ∃ σ π M x xs, RV X.K π H x u ∧ RVs X.K π H xs vs ∧ RM X.prog X.w X.K X.mg π H M ∧ PostR X W (RV X.K) σ π H (g x xs M) Q
section
variable {X : Cx} {W : WX} {σ : St} {π π1 : List Addr} {H H1 : Hp} {ρ : Rho} {M : MH}
theorem o_g {g : G2} : Op2 X W (rG X W g) g := fun σ H Q π M x y u v ru rv hm hp => ⟨σ, π, M, x, y, ru, rv, hm, hp⟩
/-- {} -/
def fDct : FE := fun _ M => .ok (.ref M.length) (M ++ [.dct []])
theorem fx_dct {pos : Pos} : FX X W (.Dict [] [] pos) fDct := ⟨_, pe_dnewK, by
  intro σ H Q π ρ M hs hm hp p hn
  have e2 : Ext π H (π ++ [p]) (upd H p (.dK [])) := Ext.push hn
  refine hp _ _ _ e2 ?_ (hm.push hn (.inl ⟨[], upd_same, RDk.nil⟩))
  unfold RV
  exact ⟨p, rfl, by rw [← hm.len]; simp⟩⟩
/-- a dict's description where it stands -/
theorem dct_at {n : Nat} {kvs : List (MV × MV)} {u : V} (hm : RM X.prog X.w X.K X.mg π H M) (e : M[n]? = some (.dct kvs)) (r : RV X.K π H (.ref n) u) : ∃ a o, u = .ref a ∧ π[n]? = some a ∧ H a = some o ∧ DO X.prog X.w X.K π H a kvs o := by
  unfold RV at r
  obtain ⟨a, rfl, ha⟩ := r
  obtain ⟨o, h1, h2⟩ := (hm.at_ ha e).dct
  exact ⟨a, o, rfl, ha, h1, h2⟩
/-! ### x in d, x in a list, a tuple, a text -/
def inL (M : MH) (x : MV) (ys : List MV) : Option Bool := match toD 66 M x, allD (toD 65 M) ys with
  | some d, some ds => if (SeqAt.shaped d && SeqAt.shaped (.list ds)) = true then some (ds.any fun z => PyData.eqv z d) else none
  | _, _ => none
def inM (M : MH) (x y : MV) : Option Bool := match y with
  | .ref n => match M[n]? with
    | some (.dct kvs) => if modeOk kvs x = true then some (dGet kvs x).isSome else none
    | _ => match lstOf M (.ref n) with
      | some ys => inL M x ys
      | none => none
  | .tup ys => inL M x ys
  | .str j => match x with
    | .str ⟨⟨[c]⟩⟩ => some (decide (c ∈ j.cps.toList))
    | _ => none
  | _ => none
def gIn : G2 := fun x y M => match inM M x y with
  | some b => .ok (.bl b) M
  | none => .stuck
def gNotIn : G2 := fun x y M => match inM M x y with
  | some b => .ok (.bl (!b)) M
  | none => .stuck
theorem allD_dp (hm : RM X.prog X.w X.K X.mg π H M) {n : Nat} : ∀ (xs : List MV) (ds : List PyData) (vs : List V), allD (toD n M) xs = some ds → RVs X.K π H xs vs → DpAll X.K H vs ds
  | [], ds, vs, e, r => by
    cases e
    rw [r.unnil]
    exact .nil
  | x :: xs, ds, vs, e, r => by
    obtain ⟨v, ws, rfl, r1, r2⟩ := r.uncons
    unfold allD at e
    split at e
    · rename_i d ds e1 e2
      cases e
      exact .cons (toD_dp hm n x d v e1 r1) (allD_dp hm xs ds ws e2 r2)
    · cases e
/-- the answer of in, at the heap -/
def InAns (X : Cx) (b : Bool) (x y : V) (H : Hp) : Prop := ∀ (pins : List (Addr × Obj)) (s : Shared) (σ : St) (v u : Value), Inv X pins σ H s → RelV x v → RelV y u →
  (∀ Q : Value → Shared → Prop, (∀ t, Q (.bool b) { s with toks := t }) → wpAny (model X.prog X.w) X.A (compareOp .In v u) Q X.xe s) ∧
  (∀ Q : Value → Shared → Prop, (∀ t, Q (.bool (!b)) { s with toks := t }) → wpAny (model X.prog X.w) X.A (compareOp .NotIn v u) Q X.xe s)
theorem in_dct (hu : X.A.units + 100 < cLine) {a : Addr} {kvs : List (MV × MV)} {k : MV} {o : HO} {y : V} (ha : H a = some o) (d : DO X.prog X.w X.K π H a kvs o) (hk : modeOk kvs k = true) (r : RV X.K π H k y) : InAns X (dGet kvs k).isSome y (.ref a) H := by
  intro pins s σ v u I rx ry
  cases ry
  unfold modeOk at hk
  rw [Bool.or_eq_true] at hk
  rcases hk with hk | hk
  · unfold mF at hk
    rw [Bool.and_eq_true] at hk
    obtain ⟨gs, rfl, rg⟩ := fview I d hk.2
    obtain ⟨z, hd, vs, rel, dd⟩ := dk_of I.hok ha
    obtain ⟨p, hp⟩ := Option.isSome_iff_exists.mp hk.1
    have ky : y = kV p := by
      cases k with
      | int i => cases hp; rw [RV_int] at r; exact r
      | str i => cases hp; rw [RV_str] at r; exact r
      | _ => cases hp
    subst ky
    have e : (dGet kvs k).isSome = (valueAt vs p).isSome := by
      rw [← dGet_any, rg.any hp, rel.any, ← show (vs.any fun kv => decide (kv.1 = p)) = (valueAt vs p).isSome from ?_]
      have := (rel.val p).isSome_eq
      rw [← this, ← valV_any, rel.any]
    rw [e]
    exact ⟨fun Q h => wpAny_in_of (kV_is rx) hd dd.mapOf (h _), fun Q h => wpAny_notIn_of (kV_is rx) hd dd.mapOf (h _)⟩
  · unfold mN at hk
    rw [Bool.and_eq_true] at hk
    obtain ⟨hd, z, xs, nv, dd⟩ := nview I ha d hk.2
    obtain ⟨q, b, e1, e2, rfl, rfl, ki⟩ := nkey I hk.1 r rx
    have e : (dGet kvs k).isSome = (atKey xs q).isSome := by rw [← dGet_any, nv.any e1]
    rw [e]
    have hr : (nestedKind X.prog X.w).room X.A.in1 := by
      show X.A.units + 1 + 8 < cLine
      omega
    refine ⟨fun Q h => wpAny_in_heap hr ki hd dd (h _), fun Q h => ?_⟩
    show wpAny _ _ (do return .bool (!(← contains (.ref a) (.ref b)))) Q _ s
    exact wpAny_bind (wpAny_contains_heap hr ki hd dd (wpAny_pure (h _)))
theorem in_lst (hu : X.A.units + 100 < cLine) {x : MV} {ys : List MV} {b : Bool} {p : Addr} {vs : List V} {y : V} (hm : RM X.prog X.w X.K X.mg π H M) (e : inL M x ys = some b) (rx : RV X.K π H x y) (rs : RVs X.K π H ys vs) (hq : SqL X.K H p vs ∨ SqT X.K H p vs) : InAns X b y (.ref p) H := by
  intro pins s σ v u I ru ry
  cases ry
  unfold inL at e
  split at e
  · rename_i d ds e1 e2
    split at e
    · rename_i hz
      cases e
      rw [Bool.and_eq_true] at hz
      have hd := toD_dp hm 66 x d y e1 rx
      have ha := allD_dp hm ys ds vs e2 rs
      obtain ⟨as, r1⟩ := Dp.reads I d y v hd ru
      have hu2 : X.A.units + 65 < cLine := by omega
      rcases hq with hq | hq
      · obtain ⟨bs, r2⟩ := Dp.reads I (.list ds) (.ref p) (.ref p) (.lst hq ha) rfl
        exact ⟨fun Q h => SeqAt.in_list_reads r2 r1 (SeqAt.canLay_of_shaped hz.2) (SeqAt.canLay_of_shaped hz.1) (room_in_shaped hz.1 hu2) (h s.toks),
          fun Q h => SeqAt.notIn_list_reads r2 r1 (SeqAt.canLay_of_shaped hz.2) (SeqAt.canLay_of_shaped hz.1) (room_in_shaped hz.1 hu2) (h s.toks)⟩
      · obtain ⟨bs, r2⟩ := Dp.reads I (.tuple ds) (.ref p) (.ref p) (.tup hq ha) rfl
        exact ⟨fun Q h => SeqAt.in_tuple_reads r2 r1 (SeqAt.canLay_of_shaped hz.2) (SeqAt.canLay_of_shaped hz.1) (room_in_shaped hz.1 hu2) (h s.toks),
          fun Q h => SeqAt.notIn_tuple_reads r2 r1 (SeqAt.canLay_of_shaped hz.2) (SeqAt.canLay_of_shaped hz.1) (room_in_shaped hz.1 hu2) (h s.toks)⟩
    · cases e
  · cases e
theorem in_ans (hu : X.A.units + 100 < cLine) {x y : MV} {b : Bool} {u v : V} (hm : RM X.prog X.w X.K X.mg π H M) (e : inM M x y = some b) (ru : RV X.K π H x u) (rv : RV X.K π H y v) : InAns X b u v H := by
  unfold inM at e
  split at e
  · rename_i n
    split at e
    · rename_i kvs en
      split at e
      · rename_i hk
        cases e
        obtain ⟨a, o, rfl, _, ha, d⟩ := dct_at hm en rv
        exact in_dct hu ha d hk ru
      · cases e
    · split at e
      · rename_i ys e0
        obtain ⟨a, vs, rfl, h1, h2⟩ := lstOf_sq e0 hm rv
        exact in_lst hu hm e ru h2 (.inl h1)
      · cases e
  · obtain ⟨a, vs, rfl, h1, h2⟩ := tup_sq rv
    exact in_lst hu hm e ru h2 (.inr h1)
  · rename_i j
    split at e
    · rename_i c
      cases e
      rw [RV_str] at ru rv
      subst ru rv
      intro pins s σ v u I rx ry
      obtain ⟨t, rfl⟩ := rx
      obtain ⟨t', rfl⟩ := ry
      have f := PySem.StrLaws.found_one j c
      constructor
      · intro Q h
        refine PyProof.Rows.in_str ?_
        rw [f]
        exact h s.toks
      · intro Q h
        refine PyProof.Rows.notIn_str ?_
        rw [f]
        exact h s.toks
    · cases e
  · cases e
theorem op_inA (hu : X.A.units + 100 < cLine) : OpR X (compareOp .In) (rG X W gIn) := by
  intro pins s σ H x y v u Q I rx ry h
  obtain ⟨σ0, π, M, mx, my, rmx, rmy, hm, hp⟩ := h
  unfold gIn at hp
  cases e : inM M mx my with
  | none =>
    rw [e] at hp
    exact hp.elim
  | some b =>
    rw [e] at hp
    exact (in_ans hu hm e rmx rmy pins s σ v u I rx ry).1 _ fun t => ⟨.bl b, H, I.tok t, rfl, hp.ok (rvb _ _ _) hm⟩
theorem op_notInA (hu : X.A.units + 100 < cLine) : OpR X (compareOp .NotIn) (rG X W gNotIn) := by
  intro pins s σ H x y v u Q I rx ry h
  obtain ⟨σ0, π, M, mx, my, rmx, rmy, hm, hp⟩ := h
  unfold gNotIn at hp
  cases e : inM M mx my with
  | none =>
    rw [e] at hp
    exact hp.elim
  | some b =>
    rw [e] at hp
    exact (in_ans hu hm e rmx rmy pins s σ v u I rx ry).2 _ fun t => ⟨.bl (!b), H, I.tok t, rfl, hp.ok (rvb _ _ _) hm⟩
/-! ### d[k], xs[i] -/
def gIxA : G2 := fun x y M => match x with
  | .ref n => match M[n]? with
    | some (.dct kvs) => if modeOk kvs y = true then (match dGet kvs y with
      | some v => .ok v M
      | none => .stuck) else .stuck
    | _ => gIx x y M
  | _ => gIx x y M
theorem ix_dct (hu : X.A.units + 100 < cLine) {a : Addr} {kvs : List (MV × MV)} {k x : MV} {o : HO} {y : V} (hm : RM X.prog X.w X.K X.mg π H M) (ha : H a = some o) (d : DO X.prog X.w X.K π H a kvs o) (hk : modeOk kvs k = true) (r : RV X.K π H k y) (hg : dGet kvs k = some x) :
    ∀ (pins : List (Addr × Obj)) (s : Shared) (σ : St) (u : Value) (Q : Value → Shared → Prop), Inv X pins σ H s → RelV y u → (∀ t v w, RV X.K π H x v → RelV v w → Q w { s with toks := t }) → s.TypeIs (.ref a) "dict" ∧ wpAny (model X.prog X.w) X.A (getItem (.ref a) u) Q X.xe s := by
  intro pins s σ u Q I ru h
  refine ⟨(d_is I ha d).2.1, ?_⟩
  unfold modeOk at hk
  rw [Bool.or_eq_true] at hk
  rcases hk with hk | hk
  · unfold mF at hk
    rw [Bool.and_eq_true] at hk
    obtain ⟨gs, rfl, rg⟩ := fview I d hk.2
    obtain ⟨z, hd, vs, rel, dd⟩ := dk_of I.hok ha
    obtain ⟨p, hp⟩ := Option.isSome_iff_exists.mp hk.1
    have ky : y = kV p := by
      cases k with
      | int i => cases hp; rw [RV_int] at r; exact r
      | str i => cases hp; rw [RV_str] at r; exact r
      | _ => cases hp
    subst ky
    obtain ⟨v, hv, rv⟩ := (rg.get hp).1 x hg
    obtain ⟨w', hw, rw'⟩ := RelO.some_of (v := v) (o := valueAt vs p) (by rw [← hv]; exact rel.val p)
    exact wpAny_getItem_of (kV_is ru) dd.mapOf hw (h _ v w' rv rw')
  · unfold mN at hk
    rw [Bool.and_eq_true] at hk
    obtain ⟨hd, z, xs, nv, dd⟩ := nview I ha d hk.2
    obtain ⟨q, b, e1, e2, rfl, rfl, ki⟩ := nkey I hk.1 r ru
    obtain ⟨e, v, h1, h2, h3⟩ := (nv.get e1).1 x hg
    have hr : (nestedKind X.prog X.w).room X.A.in1 := by
      show X.A.units + 1 + 8 < cLine
      omega
    exact wpAny_getItem_heap hr ki dd h1 (h _ v e.2 h2 h3)
theorem ix_all (hu : X.A.units + 100 < cLine) : IxR X (rG X W gIxA) := by
  intro value slice pins s σ H x y v u Q I rx ry h hs
  obtain ⟨σ0, π, M, mx, my, rmx, rmy, hm, hp⟩ := h
  have seq : PostR X W (RV X.K) σ0 π H (gIx mx my M) Q → wpAny (model X.prog X.w) X.A (subscriptTail value slice v u) (EP X pins σ Q) X.xe s :=
    fun hp => ix_seq value slice pins s σ H x y v u Q I rx ry (o_ix σ0 H Q π M mx my x y rmx rmy hm hp) hs
  unfold gIxA at hp
  split at hp
  · rename_i n
    split at hp
    · rename_i kvs en
      split at hp
      · rename_i hk
        split at hp
        · rename_i z hg
          obtain ⟨a, o, rfl, _, ha, d⟩ := dct_at hm en rmx
          cases rx
          have g := ix_dct hu hm ha d hk rmy hg pins s σ u (EP X pins σ Q) I ry fun t v' w' rv rw' => ⟨v', H, I.tok t, rw', hp.ok rv hm⟩
          exact tail_any g.1 PySem.F.slot_dict_getitem.lookup g.2 hs
        · exact hp.elim
      · exact hp.elim
    · exact seq hp
  · exact seq hp
theorem fx_ixA {a b : Expr} {fa fb : FE} {pos : Pos} (hu : X.A.units + 100 < cLine) (ha : FX X W a fa) (hb : FX X W b fb) (hs : PlainIx b) : FX X W (.Subscript a b pos) (fOp gIxA fa fb) := by
  obtain ⟨t1, p1, r1⟩ := ha.to
  obtain ⟨t2, p2, r2⟩ := hb.to
  exact ⟨_, pe_ix (ix_all hu) p1 p2 hs, rf_op o_g r1 r2⟩
/-! ### d[k] = v, xs[i] = v -/
def putM (M : MH) (o k x : MV) : Option MH := match o with
  | .ref n => match M[n]? with
    | some (.dct kvs) => if (modeOk kvs k && small (kvs.length + 1)) = true then some (M.set n (.dct (dPut kvs k x))) else none
    | some (.lst xs) => match k with
      | .int i => match ixN xs.length i with
        | some j => some (M.set n (.lst (xs.set j x)))
        | none => none
      | _ => none
    | _ => none
  | _ => none
theorem dPut_length (kvs : List (MV × MV)) (k x : MV) : (dPut kvs k x).length ≤ kvs.length + 1 := by
  unfold dPut
  split
  · rw [List.length_map]; omega
  · simp
theorem dPut_ne (kvs : List (MV × MV)) (k x : MV) : dPut kvs k x ≠ [] := by
  unfold dPut
  split
  · rename_i h
    intro e
    rw [List.map_eq_nil_iff] at e
    subst e
    cases h
  · simp
/-- a dict is written: what stands behind it -/
theorem dct_write {n : Nat} {a : Addr} {kvs kvs' : List (MV × MV)} {o o' : HO} (hm : RM X.prog X.w X.K X.mg π H M) (en : M[n]? = some (.dct kvs)) (hn : π[n]? = some a) (ha : H a = some o) (d : DO X.prog X.w X.K π H a kvs o) (d' : DO X.prog X.w X.K π H a kvs' o') :
    Ext π H π (upd H a o') ∧ RM X.prog X.w X.K X.mg π (upd H a o') (M.set n (.dct kvs')) := by
  have e : Ext π H π (upd H a o') := Ext.write ha d.notup
  exact ⟨e, hm.write hn en rfl rfl ((d'.ext e).ro upd_same)⟩
theorem put_dct (hu : X.A.units + 100 < cLine) {a : Addr} {kvs : List (MV × MV)} {k x : MV} {o : HO} {y z : V} (ha : H a = some o) (d : DO X.prog X.w X.K π H a kvs o) (hk : modeOk kvs k = true) (hz : kvs.length + 1 ≤ sizeLine) (r : RV X.K π H k y) (rz : RV X.K π H x z) :
    ∀ (pins : List (Addr × Obj)) (s : Shared) (σ : St) (u w : Value) (Q : Unit → Shared → Prop), Inv X pins σ H s → RelV y u → RelV z w → (∀ o' s', DO X.prog X.w X.K π H a (dPut kvs k x) o' → Inv X pins σ (upd H a o') s' → Q () s') → wpAny (model X.prog X.w) X.A (setItem (.ref a) u w) Q X.xe s := by
  intro pins s σ u w Q I ru rw' h
  unfold modeOk at hk
  rw [Bool.or_eq_true] at hk
  rcases hk with hk | hk
  · unfold mF at hk
    rw [Bool.and_eq_true] at hk
    obtain ⟨gs, rfl, rg⟩ := fview I d hk.2
    obtain ⟨p, hp⟩ := Option.isSome_iff_exists.mp hk.1
    have ky : y = kV p := by
      cases k with
      | int i => cases hp; rw [RV_int] at r; exact r
      | str i => cases hp; rw [RV_str] at r; exact r
      | _ => cases hp
    subst ky
    have lg := rg.length
    exact d_setItem (show X.A.units + 1 < cLine by omega) I (DPut.k (k := p) (v := z) ha (show gs.length < sizeLine by omega)) ru rw' fun s' I' => h _ s' (.inl ⟨_, rfl, rg.put hp rz⟩) I'
  · unfold mN at hk
    rw [Bool.and_eq_true] at hk
    obtain ⟨hd, z0, xs, nv, dd⟩ := nview I ha d hk.2
    obtain ⟨q, b, e1, e2, rfl, rfl, ki⟩ := nkey I hk.1 r ru
    have hr : (nestedKind X.prog X.w).room X.A.in1 := by
      show X.A.units + 1 + 8 < cLine
      omega
    have lx := nv.length
    refine wpAny_setItem_heap (hsz := by omega) hr ki dd fun h' dd' hs => ?_
    have hl := dPut_length kvs k x
    obtain ⟨o', d2, I2⟩ := nwrite I ha d (h' := h') (t' := s.toks + (nestedKind X.prog X.w).draws q) hd (by omega) (dPut_ne kvs k x) (nv.put e1 e2 r rz rw') dd' hs
    exact h o' _ d2 I2
def sPut (fo fi fv : FE) : FS := fun ρ M => (fv ρ M).stm ρ fun x M1 => (fo ρ M1).stm ρ fun o M2 => (fi ρ M2).stm ρ fun k M3 => match putM M3 o k x with
  | some M4 => .next ρ M4
  | none => .stuck
theorem fs_put {o i value : Expr} {fo fi fv : FE} {pos pos' : Pos} (hu : X.A.units + 100 < cLine) (ho : FX X W o fo) (hi : FX X W i fi) (hv : FX X W value fv) (hs : swapsWith value (some (.Subscript o i pos')) pos.line X.env = pure false) :
    FXS X W (.Assign [.Subscript o i pos'] value pos) (sPut fo fi fv) := by
  refine ⟨fun D σ H => ∃ π ρ M, RS X.K π H σ ρ ∧ RM X.prog X.w X.K X.mg π H M ∧ PostS X W σ π H (sPut fo fi fv ρ M) D, ⟨fun pins s σ H D I h => ?_⟩, fun D σ H π ρ M hs hm hp => ⟨π, ρ, M, hs, hm, hp⟩⟩
  obtain ⟨π, ρ, M, hs', hm, hp⟩ := h
  obtain ⟨to, po, ro⟩ := ho.to
  obtain ⟨ti, pi, ri⟩ := hi.to
  obtain ⟨tv, pv, rv⟩ := hv.to
  have run : tv σ H fun v H1 => to σ H1 fun x H2 => ti σ H2 fun y H3 => ∃ π M mo mk mx, RV X.K π H3 mo x ∧ RV X.K π H3 mk y ∧ RV X.K π H3 mx v ∧ RS X.K π H3 σ ρ ∧ RM X.prog X.w X.K X.mg π H3 M ∧ PostS X W σ π H3 (match putM M mo mk mx with
      | some M4 => .next ρ M4
      | none => .stuck) D := by
    refine rv.stm hs' hm hp fun x M1 u H1 π1 e1 rx m1 hp1 => ?_
    refine ro.stm (hs'.ext e1) m1 hp1 fun o M2 v H2 π2 e2 rox m2 hp2 => ?_
    refine ri.stm ((hs'.ext e1).ext e2) m2 hp2 fun k M3 y H3 π3 e3 rk m3 hp3 => ?_
    exact ⟨π3, M3, o, k, x, rox.ext e3, rk, rx.ext (e2.trans e3), ((hs'.ext e1).ext e2).ext e3, m3, hp3⟩
  refine wpAny_Assign_Subscript (thn (pv.run pins s σ H _ I run) fun r s1 ⟨v, H1, I1, rv, q1⟩ => thn (po.run pins s1 σ H1 _ I1 q1) fun u s2 ⟨x, H2, I2, rx, q2⟩ => thn (pi.run pins s2 σ H2 _ I2 q2) fun iv s3 ⟨y, H3, I3, ry, q3⟩ => ?_) hs
  obtain ⟨π3, M3, mo, mk, mx, r1, r2, r3, hs3, m3, hp3⟩ := q3
  unfold putM at hp3
  split at hp3
  · rename_i M4 e4
    split at e4
    · rename_i n
      split at e4
      · rename_i kvs en
        split at e4
        · rename_i hz
          cases e4
          rw [Bool.and_eq_true] at hz
          obtain ⟨a, ob, rfl, hn, ha, d⟩ := dct_at m3 en r1
          cases rx
          refine put_dct hu ha d hz.1 (small_le hz.2) r2 r3 pins s3 σ iv r _ I3 ry rv fun o' s' d' I' => ?_
          obtain ⟨e, m'⟩ := dct_write m3 en hn ha d d'
          exact ⟨σ, _, I', hp3 σ _ π3 e (hs3.ext e) m'⟩
        · cases e4
      · rename_i xs en
        split at e4
        · rename_i i
          split at e4
          · rename_i j hj
            cases e4
            rw [RV_int] at r2
            subst r2
            unfold RV at r1
            obtain ⟨a, rfl, hn⟩ := r1
            obtain ⟨vs, h1, h2⟩ := m3.at_ hn en
            cases rx
            have e : Ext π3 H3 π3 (upd H3 a (.lst (vs.set j v))) := Ext.write h1 fun _ z => by cases z
            refine thn (set_list pins s3 σ H3 (.ref a) (.int i) v (.ref a) iv r (fun H4 => H4 = upd H3 a (.lst (vs.set j v))) I3 rfl ry rv ⟨a, vs, i, j, rfl, rfl, h1, by rw [← h2.length]; exact hj, rfl⟩) fun _ s4 ⟨H4, I4, eH⟩ => ?_
            subst eH
            refine ⟨σ, _, I4, hp3 σ _ π3 e (hs3.ext e) (m3.write hn en rfl rfl ⟨_, upd_same, ?_⟩)⟩
            exact (RVs.set r3 j h2).ext e
          · cases e4
        · cases e4
      · cases e4
    · cases e4
  · exact hp3.elim
end
end FL

namespace FL
open PySem PySem.Spec PyProof.Rows L2
/-! ### plain laws over the functional layer -/
/-- a loop that goes to its end -/
theorem loop_inv {chk : MH → Bool} {g : FG} {body : FS} (I : List MV → Rho → MH → Prop)
    (step : ∀ x xs ρ M, I (x :: xs) ρ M → ∃ ρ1 ρ2 M2, g x ρ = some ρ1 ∧ (body ρ1 M = .next ρ2 M2 ∨ body ρ1 M = .cnt ρ2 M2) ∧ chk M2 = true ∧ I xs ρ2 M2) :
    ∀ xs ρ M, I xs ρ M → ∃ ρ' M', loopF chk g body xs ρ M = .next ρ' M' ∧ I [] ρ' M'
  | [], ρ, M, h => ⟨ρ, M, rfl, h⟩
  | x :: xs, ρ, M, h => by
    obtain ⟨ρ1, ρ2, M2, e1, e2, e3, h2⟩ := step x xs ρ M h
    obtain ⟨ρ', M', e4, h4⟩ := loop_inv I step xs ρ2 M2 h2
    refine ⟨ρ', M', ?_, h4⟩
    rcases e2 with e2 | e2 <;> simp only [loopF, e1, e2, e3, if_true] <;> exact e4
/-- a loop that goes to its end, or leaves with a value -/
theorem loop_ret {chk : MH → Bool} {g : FG} {body : FS} (I : List MV → Rho → MH → Prop) (R : RSt → Prop)
    (step : ∀ x xs ρ M, I (x :: xs) ρ M → ∃ ρ1, g x ρ = some ρ1 ∧ ((∃ ρ2 M2, (body ρ1 M = .next ρ2 M2 ∨ body ρ1 M = .cnt ρ2 M2) ∧ chk M2 = true ∧ I xs ρ2 M2) ∨ (∃ v M2, body ρ1 M = .ret v M2 ∧ R (.ret v M2)) ∨ ∃ ρ2 M2, body ρ1 M = .brk ρ2 M2 ∧ R (.next ρ2 M2)))
    (stop : ∀ ρ M, I [] ρ M → R (.next ρ M)) : ∀ xs ρ M, I xs ρ M → R (loopF chk g body xs ρ M)
  | [], ρ, M, h => stop ρ M h
  | x :: xs, ρ, M, h => by
    obtain ⟨ρ1, e1, h⟩ := step x xs ρ M h
    rcases h with ⟨ρ2, M2, e2, e3, h2⟩ | ⟨v, M2, e2, h2⟩ | ⟨ρ2, M2, e2, h2⟩
    · have ih := loop_ret I R step stop xs ρ2 M2 h2
      rcases e2 with e2 | e2 <;> simp only [loopF, e1, e2, e3, if_true] <;> exact ih
    · simp only [loopF, e1, e2]
      exact h2
    · simp only [loopF, e1, e2]
      exact h2
/-- a comprehension whose parts only lay new things -/
theorem comp_run {chk : MH → Bool} {g : FG} {tt : FT} {te : FE} {ρ : Rho} {M0 : MH} {p : MV → Bool} {f : MV → MV} : ∀ (xs : List MV),
    (∀ x ∈ xs, ∃ ρ1, g x ρ = some ρ1 ∧ ∀ acc G, ∃ G1, tt ρ1 (M0 ++ (.lst acc :: G)) = .ok (p x) (M0 ++ (.lst acc :: (G ++ G1))) ∧ (p x = true → ∃ G2, te ρ1 (M0 ++ (.lst acc :: (G ++ G1))) = .ok (f x) (M0 ++ (.lst acc :: (G ++ G2))))) →
    (∀ acc G, chk (M0 ++ (.lst acc :: G)) = true) → ∀ acc G, xs.length + acc.length ≤ 16777216 →
    ∃ G', compF chk g tt te M0.length ρ xs (M0 ++ (.lst acc :: G)) = .ok (.ref M0.length) (M0 ++ (.lst (acc ++ (xs.filter p).map f) :: (G ++ G')))
  | [], _, _, acc, G, _ => ⟨[], by simp [compF]⟩
  | x :: xs, h, hc, acc, G, hl => by
    obtain ⟨ρ1, e1, h1⟩ := h x List.mem_cons_self
    obtain ⟨G1, e2, h2⟩ := h1 acc G
    have hl' : xs.length + 1 + acc.length ≤ 16777216 := hl
    cases hp : p x with
    | false =>
      rw [hp] at e2
      obtain ⟨G', e3⟩ := comp_run xs (fun y hy => h y (List.mem_cons_of_mem _ hy)) hc acc (G ++ G1) (by omega)
      refine ⟨G1 ++ G', ?_⟩
      simp only [compF, e1, e2, hc, if_true]
      rw [e3, List.filter_cons, if_neg (by rw [hp]; exact Bool.false_ne_true), List.append_assoc]
    | true =>
      rw [hp] at e2
      obtain ⟨G2, e4⟩ := h2 hp
      obtain ⟨G', e3⟩ := comp_run xs (fun y hy => h y (List.mem_cons_of_mem _ hy)) hc (acc ++ [f x]) (G ++ G2) (by simp; omega)
      refine ⟨G2 ++ G', ?_⟩
      have g0 : (M0 ++ (MO.lst acc :: (G ++ G2)))[M0.length]? = some (.lst acc) := h_get0
      have s0 : (M0 ++ (MO.lst acc :: (G ++ G2))).set M0.length (.lst (acc ++ [f x])) = M0 ++ (.lst (acc ++ [f x]) :: (G ++ G2)) := h_set0
      have hs : small (acc.length + 1) = true := small_ok (by omega)
      simp only [compF, e1, e2, e4, g0, s0, hc, hs, Bool.and_self, if_true]
      rw [e3, List.filter_cons, if_pos hp, List.map_cons, List.append_assoc, List.append_assoc]
      rfl
theorem lc_run {vs : List Nat} {fi : FI} {g : FG} {tt : FT} {te : FE} {ρ : Rho} {M M0 : MH} {S : Src} {p : MV → Bool} {f : MV → MV} (hi : fi ρ M = .ok S M0)
    (h : ∀ x ∈ S.items, ∃ ρ1, g x (wipeR ρ vs) = some ρ1 ∧ ∀ acc G, ∃ G1, tt ρ1 (M0 ++ (.lst acc :: G)) = .ok (p x) (M0 ++ (.lst acc :: (G ++ G1))) ∧ (p x = true → ∃ G2, te ρ1 (M0 ++ (.lst acc :: (G ++ G1))) = .ok (f x) (M0 ++ (.lst acc :: (G ++ G2)))))
    (hc : ∀ acc G, S.chk (M0 ++ (.lst acc :: G)) = true) (hl : S.items.length ≤ 16777216) :
    ∃ G', fLc vs fi g tt te ρ M = .ok (.ref M0.length) (M0 ++ (.lst ((S.items.filter p).map f) :: G')) := by
  obtain ⟨G', e⟩ := comp_run (chk := S.chk) (g := g) (tt := tt) (te := te) (ρ := wipeR ρ vs) (M0 := M0) (p := p) (f := f) S.items h hc [] [] (by simpa using hl)
  refine ⟨G', ?_⟩
  unfold fLc
  rw [hi, bind_ok, if_pos (hc [] []), e]
  rfl
theorem lst_cases {n : Nat} {xs : List MV} {M : MH} (h : lstOf M (.ref n) = some xs) : M[n]? = some (.lst xs) ∨ M[n]? = some (.cst xs) := by
  have h2 : (match M[n]? with
    | some (.lst xs) => some xs
    | some (.cst xs) => some xs
    | _ => none) = some xs := h
  split at h2
  · rename_i e
    cases h2
    exact .inl e
  · rename_i e
    cases h2
    exact .inr e
  · cases h2
theorem lst_of {n : Nat} {xs : List MV} {M : MH} (h : M[n]? = some (.lst xs)) : lstOf M (.ref n) = some xs := by
  show (match M[n]? with
    | some (.lst xs) => some xs
    | some (.cst xs) => some xs
    | _ => none) = some xs
  rw [h]
theorem cst_of {n : Nat} {xs : List MV} {M : MH} (h : M[n]? = some (.cst xs)) : lstOf M (.ref n) = some xs := by
  show (match M[n]? with
    | some (.lst xs) => some xs
    | some (.cst xs) => some xs
    | _ => none) = some xs
  rw [h]
theorem chkL_at {n : Nat} {xs : List MV} {M : MH} (h : lstOf M (.ref n) = some xs) : chkL n xs M = true := by
  unfold chkL
  rcases lst_cases h with e | e <;> rw [e] <;> exact beqVs_self _
theorem chkL_old {n : Nat} {xs : List MV} {M G : MH} (h : lstOf M (.ref n) = some xs) : chkL n xs (M ++ G) = true := chkL_at (lstOf_old h)
theorem fiAny_lst {f : FE} {ρ : Rho} {M M1 : MH} {n : Nat} {xs : List MV} (h : f ρ M = .ok (.ref n) M1) (e : lstOf M1 (.ref n) = some xs) : fiAny f ρ M = .ok ⟨xs, chkL n xs⟩ M1 := by
  unfold fiAny
  rw [h, bind_ok]
  unfold srcOf
  simp only [e]
theorem fiAny_tup {f : FE} {ρ : Rho} {M M1 : MH} {xs : List MV} (h : f ρ M = .ok (.tup xs) M1) : fiAny f ρ M = .ok ⟨xs, fun _ => true⟩ M1 := by
  unfold fiAny
  rw [h, bind_ok]
  rfl
theorem fiAny_str {f : FE} {ρ : Rho} {M M1 : MH} {z : Str} (h : f ρ M = .ok (.str z) M1) : fiAny f ρ M = .ok ⟨z.cps.toList.map fun c => .str ⟨#[c]⟩, fun _ => true⟩ M1 := by
  unfold fiAny
  rw [h, bind_ok]
  rfl
/-! ### lists of plain data -/
theorem okV_up : ∀ {n : Nat} (j : Nat) {x : MV}, okV n x = true → okV (n + j) x = true := by
  intro n
  induction n with
  | zero =>
    intro j z h
    cases z with
    | tup _ => cases h
    | bl _ => cases h
    | ref _ => cases h
    | str x => cases j <;> exact h
    | _ => cases j <;> rfl
  | succ k ih =>
    intro j z h
    rw [Nat.succ_add]
    cases z with
    | tup zs =>
      have h' : zs.all (okV k) = true := h
      show zs.all (okV (k + j)) = true
      exact List.all_eq_true.mpr fun a ha => ih j (List.all_eq_true.mp h' a ha)
    | bl _ => cases h
    | ref _ => cases h
    | str x => exact h
    | _ => rfl
theorem toD_le {M : MH} {n m : Nat} {x : MV} (h : okV n x = true) (hm : n + 1 ≤ m) : toD m M x = some (pD x) := by
  have e := toD_pD (M := M) (m - 1) x (by
    have := okV_up (m - 1 - n) h
    rwa [show n + (m - 1 - n) = m - 1 by omega] at this)
  rwa [show m - 1 + 1 = m by omega] at e
theorem any_mem {α β : Type} [DecidableEq α] {f : α → β} {e : β → Bool} {x : α} : ∀ {ys : List α}, (∀ y ∈ ys, e (f y) = decide (y = x)) → (ys.map f).any e = decide (x ∈ ys)
  | [], _ => by simp
  | y :: ys, h => by
    rw [List.map_cons, List.any_cons, h y List.mem_cons_self, any_mem fun z hz => h z (List.mem_cons_of_mem _ hz)]
    by_cases c : y = x
    · subst c; simp
    · have : ¬ x = y := fun z => c z.symm
      simp [c, this]
theorem shaped_list {n : Nat} {ys : List MV} (h : ∀ y ∈ ys, okV n y = true) (hn : n ≤ 63) : SeqAt.shaped (.list (ys.map pD)) = true := by
  have c : ∀ d ∈ ys.map pD, d.canLay0 = true ∧ d.depth ≤ n := by
    intro d hd
    obtain ⟨y, hy, rfl⟩ := List.mem_map.mp hd
    exact pD_lay n y (h y hy)
  unfold SeqAt.shaped
  rw [Bool.and_eq_true]
  refine ⟨?_, ?_⟩
  · rw [PyData.canLay0]
    exact canLay_all fun d hd => (c d hd).1
  · rw [PyData.depth]
    have := depth_all (ds := ys.map pD) (n := n) fun d hd => (c d hd).2
    exact decide_eq_true (by omega)
theorem inL_plain {M : MH} {n : Nat} {x : MV} {ys : List MV} (hx : okV n x = true) (hy : ∀ y ∈ ys, okV n y = true) (hn : n ≤ 63 := by decide) : inL M x ys = some (decide (x ∈ ys)) := by
  unfold inL
  rw [toD_le hx (by omega), allD_of (f := toD 65 M) (g := pD) fun y h => toD_le (hy y h) (by omega)]
  simp only [pD_shaped hx (by omega), shaped_list hy hn, Bool.and_self, if_true]
  rw [any_mem fun y h => eqv_pD n n y x (hy y h) hx]
theorem eqM_lists {M : MH} {n : Nat} {i j : Nat} {xs ys : List MV} (hi : lstOf M (.ref i) = some xs) (hj : lstOf M (.ref j) = some ys) (hx : ∀ x ∈ xs, okV n x = true) (hy : ∀ y ∈ ys, okV n y = true) (hn : n ≤ 63 := by decide) : eqM M (.ref i) (.ref j) = some (decide (xs = ys)) := by
  have e1 : toD 66 M (.ref i) = some (.list (xs.map pD)) := by
    show (match lstOf M (.ref i) with
      | some xs => (allD (toD 65 M) xs).map PyData.list
      | none => none) = _
    rw [hi]
    show (allD (toD 65 M) xs).map PyData.list = _
    rw [allD_of (f := toD 65 M) (g := pD) fun y h => toD_le (hx y h) (by omega)]
    rfl
  have e2 : toD 66 M (.ref j) = some (.list (ys.map pD)) := by
    show (match lstOf M (.ref j) with
      | some xs => (allD (toD 65 M) xs).map PyData.list
      | none => none) = _
    rw [hj]
    show (allD (toD 65 M) ys).map PyData.list = _
    rw [allD_of (f := toD 65 M) (g := pD) fun y h => toD_le (hy y h) (by omega)]
    rfl
  unfold eqM
  show (match (none : Option Bool) with
    | some b => some b
    | none => deepEq M (.ref i) (.ref j)) = _
  show deepEq M (.ref i) (.ref j) = _
  unfold deepEq
  rw [e1, e2]
  simp only [shaped_list hx hn, shaped_list hy hn, Bool.and_self, if_true, PyData.eqv]
  rw [← pDs_map, ← pDs_map, eqv_all (n := n) (m := n) fun x h y h2 => eqv_pD n n x y (hx x h) (hy y h2)]
theorem gEq_lists {M : MH} {n : Nat} {i j : Nat} {xs ys : List MV} (hi : lstOf M (.ref i) = some xs) (hj : lstOf M (.ref j) = some ys) (hx : ∀ x ∈ xs, okV n x = true) (hy : ∀ y ∈ ys, okV n y = true) (hn : n ≤ 63 := by decide) : gEq (.ref i) (.ref j) M = .ok (.bl (decide (xs = ys))) M := by
  unfold gEq
  rw [eqM_lists hi hj hx hy hn]
theorem gNe_lists {M : MH} {n : Nat} {i j : Nat} {xs ys : List MV} (hi : lstOf M (.ref i) = some xs) (hj : lstOf M (.ref j) = some ys) (hx : ∀ x ∈ xs, okV n x = true) (hy : ∀ y ∈ ys, okV n y = true) (hn : n ≤ 63 := by decide) : gNe (.ref i) (.ref j) M = .ok (.bl (!decide (xs = ys))) M := by
  unfold gNe
  rw [eqM_lists hi hj hx hy hn]
theorem gIn_list {M : MH} {n i : Nat} {x : MV} {ys : List MV} (hi : lstOf M (.ref i) = some ys) (hx : okV n x = true) (hy : ∀ y ∈ ys, okV n y = true) (hn : n ≤ 63 := by decide) : gIn x (.ref i) M = .ok (.bl (decide (x ∈ ys))) M := by
  have e : inM M x (.ref i) = some (decide (x ∈ ys)) := by
    unfold inM
    rcases lst_cases hi with e | e <;> simp only [e, hi, inL_plain hx hy hn]
  unfold gIn
  rw [e]
theorem gIn_dct {M : MH} {i : Nat} {x : MV} {kvs : List (MV × MV)} (hi : M[i]? = some (.dct kvs)) (hk : modeOk kvs x = true) : gIn x (.ref i) M = .ok (.bl (dGet kvs x).isSome) M := by
  have e : inM M x (.ref i) = some (dGet kvs x).isSome := by
    unfold inM
    simp only [hi, hk, if_true]
  unfold gIn
  rw [e]
theorem gNotIn_dct {M : MH} {i : Nat} {x : MV} {kvs : List (MV × MV)} (hi : M[i]? = some (.dct kvs)) (hk : modeOk kvs x = true) : gNotIn x (.ref i) M = .ok (.bl (!(dGet kvs x).isSome)) M := by
  have e : inM M x (.ref i) = some (dGet kvs x).isSome := by
    unfold inM
    simp only [hi, hk, if_true]
  unfold gNotIn
  rw [e]
theorem gIxA_tup {M : MH} {xs : List MV} {i : Int} {v : MV} (h : atI xs i = some v) : gIxA (.tup xs) (.int i) M = .ok v M := by
  show gIx (.tup xs) (.int i) M = _
  unfold gIx
  simp only [h]
theorem gIxA_lst {M : MH} {n : Nat} {xs : List MV} {i : Int} {v : MV} (e : lstOf M (.ref n) = some xs) (h : atI xs i = some v) : gIxA (.ref n) (.int i) M = .ok v M := by
  have h2 : gIxA (.ref n) (.int i) M = gIx (.ref n) (.int i) M := by
    unfold gIxA
    rcases lst_cases e with e | e <;> simp only [e]
  rw [h2]
  unfold gIx
  simp only [e, h]
theorem put_dct_ok {M : MH} {n : Nat} {kvs : List (MV × MV)} {k x : MV} (e : M[n]? = some (.dct kvs)) (hk : modeOk kvs k = true) (hl : kvs.length + 1 ≤ 16777216) : putM M (.ref n) k x = some (M.set n (.dct (dPut kvs k x))) := by
  unfold putM
  simp only [e, hk, small_ok hl, Bool.and_self, if_true]
theorem part_ok {n : Nat} {x : MV} {xs : List MV} (h : okV (n + 1) (.tup xs) = true) (hx : x ∈ xs) : okV n x = true := List.all_eq_true.mp (show xs.all (okV n) = true from h) x hx
theorem fvar {i : Nat} {ρ : Rho} {x : MV} {M : MH} (h : ρ[i]? = some (some x)) : fVar i ρ M = .ok x M := by
  unfold fVar
  rw [h]
theorem fop {g : G2} {a b : FE} {ρ : Rho} {M M1 M2 : MH} {x y : MV} (h1 : a ρ M = .ok x M1) (h2 : b ρ M1 = .ok y M2) : fOp g a b ρ M = g x y M2 := by
  unfold fOp
  rw [h1, bind_ok, h2, bind_ok]
theorem asb {f : FE} {ρ : Rho} {M M1 : MH} {b : Bool} (h : f ρ M = .ok (.bl b) M1) : asB f ρ M = .ok b M1 := by
  unfold asB
  rw [h]
  rfl
/-! ### tables -/
theorem dGet_put (kvs : List (MV × MV)) (k j x : MV) : dGet (dPut kvs k x) j = if j = k then some x else dGet kvs j := by
  have hmap : ∀ l : List (MV × MV), dGet (l.map fun kv => if kv.1 = k then (kv.1, x) else kv) j = (dGet l j).map fun y => if j = k then x else y := by
    intro l
    induction l with
    | nil => rfl
    | cons p l ih =>
      obtain ⟨q, y⟩ := p
      rw [List.map_cons]
      by_cases h : q = k
      · rw [if_pos h]
        by_cases e : q = j
        · rw [dGet_pos e, dGet_pos e, Option.map_some, if_pos (e.symm.trans h)]
        · rw [dGet_neg e, dGet_neg e, ih]
      · rw [if_neg h]
        by_cases e : q = j
        · rw [dGet_pos e, dGet_pos e, Option.map_some, if_neg fun z => h (e.trans z)]
        · rw [dGet_neg e, dGet_neg e, ih]
  have hsnoc : ∀ l : List (MV × MV), dGet l k = none → dGet (l ++ [(k, x)]) j = if j = k then some x else dGet l j := by
    intro l
    induction l with
    | nil =>
      intro _
      by_cases e : k = j
      · rw [if_pos e.symm]; exact dGet_pos e
      · rw [if_neg fun z => e z.symm]; exact dGet_neg e
    | cons p l ih =>
      obtain ⟨q, y⟩ := p
      intro hn
      have hk : ¬ q = k := fun z => by rw [dGet_pos z] at hn; cases hn
      rw [dGet_neg hk] at hn
      rw [List.cons_append]
      by_cases e : q = j
      · rw [dGet_pos e, dGet_pos e, if_neg fun z => hk (e.trans z)]
      · rw [dGet_neg e, dGet_neg e, ih hn]
  unfold dPut
  by_cases a : (kvs.any fun kv => decide (kv.1 = k)) = true
  · rw [if_pos a, hmap]
    rw [dGet_any] at a
    by_cases e : j = k
    · obtain ⟨y, hy⟩ := Option.isSome_iff_exists.mp a
      rw [if_pos e, e, hy, Option.map_some, if_pos rfl]
    · rw [if_neg e]
      cases dGet kvs j with
      | none => rfl
      | some y => rw [Option.map_some, if_neg e]
  · rw [if_neg a]
    refine hsnoc kvs ?_
    rw [dGet_any] at a
    cases q : dGet kvs k with
    | none => rfl
    | some y => rw [q] at a; exact (a rfl).elim
theorem dPut_keys {p : MV → Bool} {kvs : List (MV × MV)} {k x : MV} (h : kvs.all (fun q => p q.1) = true) (hk : p k = true) : (dPut kvs k x).all (fun q => p q.1) = true := by
  unfold dPut
  split
  · rw [List.all_map]
    refine List.all_eq_true.mpr fun q hq => ?_
    have h2 := List.all_eq_true.mp h q hq
    show p (if q.1 = k then (q.1, x) else q).1 = true
    split <;> exact h2
  · rw [List.all_append, h]
    simp [hk]
end FL

namespace FL
open PySem PySem.Spec PyProof.Rows L2
/-! ### plain data: more -/
theorem okV_int {n : Nat} {i : Int} : okV n (.int i) = true := by cases n <;> rfl
theorem okV_non {n : Nat} : okV n .non = true := by cases n <;> rfl
theorem okV_str {n : Nat} {x : Str} : okV n (.str x) = PyData.strOk x := by cases n <;> rfl
theorem okV_tup {n : Nat} {xs : List MV} : okV (n + 1) (.tup xs) = xs.all (okV n) := rfl
theorem depth_keys {ks : List NestedKey} {n : Nat} : (∀ k ∈ ks, k.depth ≤ n) → NestedKey.depthAll ks ≤ n := by
  induction ks with
  | nil => exact fun _ => by simp [NestedKey.depthAll]
  | cons k ks ih =>
    intro h
    have h1 := h k List.mem_cons_self
    have h2 := ih fun j hj => h j (List.mem_cons_of_mem _ hj)
    simp only [NestedKey.depthAll]
    omega
theorem keysOf_ok {n : Nat} {xs : List MV} (h : ∀ x ∈ xs, ∃ q, keyOf x = some q ∧ q.depth ≤ n) : ∃ qs, keysOf xs = some qs ∧ ∀ q ∈ qs, q.depth ≤ n := by
  induction xs with
  | nil => exact ⟨[], rfl, fun q hq => nomatch hq⟩
  | cons x xs ih =>
    obtain ⟨q, e, l⟩ := h x List.mem_cons_self
    obtain ⟨qs, e2, l2⟩ := ih fun y hy => h y (List.mem_cons_of_mem _ hy)
    refine ⟨q :: qs, by simp [keysOf, e, e2], fun p hp => ?_⟩
    rcases List.mem_cons.mp hp with rfl | hp
    · exact l
    · exact l2 p hp
theorem keyOf_ok : ∀ {n : Nat} {x : MV}, okV n x = true → ∃ q, keyOf x = some q ∧ q.depth ≤ n
  | _, .non, _ => ⟨.none, rfl, by simp [NestedKey.depth]⟩
  | _, .int i, _ => ⟨.num i, rfl, by simp [NestedKey.depth]⟩
  | _, .str x, _ => ⟨.text x, rfl, by simp [NestedKey.depth]⟩
  | 0, .tup _, h => nomatch h
  | n + 1, .tup xs, h => by
    obtain ⟨qs, e, l⟩ := keysOf_ok (n := n) fun x hx => keyOf_ok (List.all_eq_true.mp (show xs.all (okV n) = true from h) x hx)
    refine ⟨.tup qs, by simp [keyOf, e], ?_⟩
    have := depth_keys l
    simp only [NestedKey.depth]
    omega
  | 0, .bl _, h => nomatch h
  | n + 1, .bl _, h => nomatch h
  | 0, .ref _, h => nomatch h
  | n + 1, .ref _, h => nomatch h
theorem okN_of {n : Nat} {x : MV} (h : okV n x = true) (ht : isTup x = true) (hn : n ≤ 8 := by decide) : okN x = true := by
  obtain ⟨q, e, l⟩ := keyOf_ok h
  unfold okN
  rw [ht, e, Bool.true_and]
  exact decide_eq_true (Nat.le_trans l hn)
theorem gLen_lst {M : MH} {f : Nat} {xs : List MV} (h : lstOf M (.ref f) = some xs) : gLen [.ref f] M = .ok (.int xs.length) M := by
  unfold gLen
  simp only [h]
theorem gList_lst {M : MH} {f : Nat} {xs : List MV} (h : lstOf M (.ref f) = some xs) : gList [.ref f] M = .ok (.ref M.length) (M ++ [.lst xs]) := by
  unfold gList
  simp only [h]
theorem gTuple_lst {M : MH} {f : Nat} {xs : List MV} (h : lstOf M (.ref f) = some xs) : gTuple [.ref f] M = .ok (.tup xs) M := by
  unfold gTuple
  simp only [h]
theorem gSl_lst {M : MH} {f : Nat} {xs : List MV} {lo hi : Option Int} (h : lstOf M (.ref f) = some xs) : gSl (.ref f) lo hi M = .ok (.ref M.length) (M ++ [.lst (cutM xs lo hi)]) := by
  unfold gSl
  simp only [h]
theorem ints_at {ns : List Int} {k : Nat} (h : k < ns.length) : atI (ns.map MV.int) (k : Int) = some (.int (ns.getD k 0)) := by
  refine L2.atI_nat (j := k) ?_
  rw [List.getElem?_map, List.getElem?_eq_getElem h]
  simp [List.getElem?_eq_getElem h]
/-- the cell of a script, or 0 -/
def cellB : FS := sSeq (sIf (asB (fOp gLt (fVar 1) (fFn gLen (faCons (fVar 0) faNil)))) (sRet (fOp gIxA (fVar 0) (fVar 1))) sNext) (sRet (fC (.int 0)))
theorem cellB_ok {f : Nat} {ns : List Int} {k : Nat} {M : MH} (h : lstOf M (.ref f) = some (ns.map MV.int)) : fnOf 2 cellB [.ref f, .int k] M = .ok (.int (ns.getD k 0)) M := by
  have e1 : asB (fOp gLt (fVar 1) (fFn gLen (faCons (fVar 0) faNil))) [some (.ref f), some (.int k)] M = .ok (decide (k < ns.length)) M := by
    refine asb ((fop (fvar rfl) (gLen_lst h)).trans ?_)
    simp only [List.length_map]
    show Res.ok (MV.bl (decide ((k : Int) < (ns.length : Int)))) M = _
    rw [decide_eq_decide.mpr Int.ofNat_lt]
  show (match (sSeq (sIf (asB (fOp gLt (fVar 1) (fFn gLen (faCons (fVar 0) faNil)))) (sRet (fOp gIxA (fVar 0) (fVar 1))) sNext) (sRet (fC (.int 0)))) [some (.ref f), some (.int k)] M with
    | .ret x M1 => Res.ok x M1
    | .next _ M1 => .ok .non M1
    | .ex c fs _ M1 => .ex c fs M1
    | _ => .stuck) = _
  unfold sSeq sIf
  rw [e1, stm_ok]
  by_cases c : k < ns.length
  · rw [decide_eq_true c, if_pos rfl]
    unfold sRet
    rw [fop (fvar rfl) (fvar rfl), gIxA_lst h (ints_at c)]
    rfl
  · rw [decide_eq_false c, if_neg Bool.false_ne_true]
    show Res.ok (MV.int 0) M = _
    rw [List.getD_eq_getElem?_getD, List.getElem?_eq_none (Nat.le_of_not_lt c)]
    rfl
end FL

namespace FL
open PySem PySem.Spec PyProof.Rows L2
/-! ### sorted -/
def toks (x : MV) : List (Int ⊕ List Nat) := PySem.W.keyToks (pD x)
def toksL (xs : List MV) : List (Int ⊕ List Nat) := PySem.W.keyToksAll (pDs xs)
abbrev lxt (a b : List (Int ⊕ List Nat)) : Bool := PyProof.Rows.lexLt itemOrd a b
def ltV (x y : MV) : Bool := lxt (toks x) (toks y)
mutual
def cmpV : MV → MV → Bool
  | .int _, .int _ => true
  | .str _, .str _ => true
  | .tup xs, .tup ys => cmpVs xs ys
  | _, _ => false
def cmpVs : List MV → List MV → Bool
  | x :: xs, y :: ys => if x = y then cmpVs xs ys else cmpV x y
  | _, _ => true
end
theorem toksL_cons (x : MV) (xs : List MV) : toksL (x :: xs) = .inl 1 :: (toks x ++ toksL xs) := PySem.W.toks_all_cons _ _
theorem toksL_nil : toksL [] = [.inl 0] := by
  unfold toksL pDs
  simp [PySem.W.keyToksAll]
theorem toks_tup (xs : List MV) : toks (.tup xs) = toksL xs := by
  unfold toks toksL pD
  simp only [PySem.W.keyToks]
theorem lxt_self (x : Int ⊕ List Nat) (a b : List (Int ⊕ List Nat)) : lxt (x :: a) (x :: b) = lxt a b := lex_self (O := itemOrd) x a b
theorem lxt_pre (p a b : List (Int ⊕ List Nat)) : lxt (p ++ a) (p ++ b) = lxt a b := PySem.W.lex_pre p a b
theorem toksL_ne : ∀ {xs ys : List MV}, (∀ x ∈ xs, ∀ y ∈ ys, cmpV x y = true → x ≠ y → ∀ l m, lxt (toks x ++ l) (toks y ++ m) = lxt (toks x) (toks y)) → cmpVs xs ys = true → xs ≠ ys → ∀ l m, lxt (toksL xs ++ l) (toksL ys ++ m) = lxt (toksL xs) (toksL ys)
  | [], [], _, _, hne, _, _ => absurd rfl hne
  | [], y :: ys, _, _, _, l, m => by
    rw [toksL_cons, toksL_nil]
    simp only [List.cons_append, List.nil_append]
    exact (PySem.W.lex_atom (by simp) _ _).trans (PySem.W.lex_atom (by simp) _ _).symm
  | x :: xs, [], _, _, _, l, m => by
    rw [toksL_cons, toksL_nil]
    simp only [List.cons_append, List.nil_append]
    exact (PySem.W.lex_atom (by simp) _ _).trans (PySem.W.lex_atom (by simp) _ _).symm
  | x :: xs, y :: ys, H, hc, hne, l, m => by
    rw [toksL_cons, toksL_cons]
    simp only [List.cons_append, List.append_assoc]
    rw [lxt_self, lxt_self]
    by_cases c : x = y
    · subst c
      rw [lxt_pre, lxt_pre]
      have hc2 : cmpVs xs ys = true := by
        unfold cmpVs at hc
        rwa [if_pos rfl] at hc
      exact toksL_ne (fun a ha b hb => H a (List.mem_cons_of_mem _ ha) b (List.mem_cons_of_mem _ hb)) hc2 (fun e => hne (by rw [e])) l m
    · have hc2 : cmpV x y = true := by
        unfold cmpVs at hc
        rwa [if_neg c] at hc
      have := H x List.mem_cons_self y List.mem_cons_self hc2 c
      rw [this, this]
theorem lxt_atom {p q : Int ⊕ List Nat} (hne : p ≠ q) (l m : List (Int ⊕ List Nat)) : lxt ([p] ++ l) ([q] ++ m) = lxt [p] [q] := PySem.W.lex_atom hne l m
theorem cmpV_cases {x y : MV} (h : cmpV x y = true) : (∃ i j, x = .int i ∧ y = .int j) ∨ (∃ i j, x = .str i ∧ y = .str j) ∨ ∃ xs ys, x = .tup xs ∧ y = .tup ys ∧ cmpVs xs ys = true := by
  unfold cmpV at h
  split at h
  · exact .inl ⟨_, _, rfl, rfl⟩
  · exact .inr (.inl ⟨_, _, rfl, rfl⟩)
  · exact .inr (.inr ⟨_, _, rfl, rfl, h⟩)
  · cases h
theorem okV_part {n : Nat} {x : MV} {xs : List MV} (h : okV n (.tup xs) = true) (hx : x ∈ xs) : okV (n - 1) x = true := by
  cases n with
  | zero => cases h
  | succ n => exact part_ok h hx
theorem toks_ne : ∀ (n : Nat) {x y : MV}, okV n x = true → okV n y = true → cmpV x y = true → x ≠ y → ∀ l m, lxt (toks x ++ l) (toks y ++ m) = lxt (toks x) (toks y) := by
  intro n
  induction n with
  | zero =>
    intro x y hx hy hc hne l m
    rcases cmpV_cases hc with ⟨i, j, rfl, rfl⟩ | ⟨i, j, rfl, rfl⟩ | ⟨xs, ys, rfl, rfl, hc⟩
    · exact lxt_atom (p := .inl i) (q := .inl j) (fun e => hne (by rw [Sum.inl.inj e])) l m
    · exact lxt_atom (p := .inr i.cps.toList) (q := .inr j.cps.toList) (fun e => hne (by rw [PySem.W.str_of_cps (Sum.inr.inj e)])) l m
    · cases hx
  | succ n ih =>
    intro x y hx hy hc hne l m
    rcases cmpV_cases hc with ⟨i, j, rfl, rfl⟩ | ⟨i, j, rfl, rfl⟩ | ⟨xs, ys, rfl, rfl, hc⟩
    · exact lxt_atom (p := .inl i) (q := .inl j) (fun e => hne (by rw [Sum.inl.inj e])) l m
    · exact lxt_atom (p := .inr i.cps.toList) (q := .inr j.cps.toList) (fun e => hne (by rw [PySem.W.str_of_cps (Sum.inr.inj e)])) l m
    · rw [toks_tup, toks_tup]
      exact toksL_ne (fun a ha b hb => ih (part_ok hx ha) (part_ok hy hb)) hc (fun e => hne (by rw [e])) l m
/-- the first place that differs decides -/
theorem firstLt_V {n : Nat} : ∀ {xs ys : List MV}, (∀ x ∈ xs, okV n x = true) → (∀ y ∈ ys, okV n y = true) → cmpVs xs ys = true →
    PySem.SeqAt.firstLt (fun j => decide (xs.getD j .non = ys.getD j .non)) (fun j => ltV (xs.getD j .non) (ys.getD j .non)) (decide (xs.length < ys.length)) (List.range (min xs.length ys.length)) = lxt (toksL xs) (toksL ys)
  | [], [], _, _, _ => by
    simp only [List.length_nil, Nat.min_self, List.range_zero, PySem.SeqAt.firstLt, Nat.lt_irrefl, decide_false]
    exact (lex_irrefl (O := itemOrd) _).symm
  | [], y :: ys, _, _, _ => by
    rw [toksL_cons, toksL_nil]
    have e : lxt ([.inl 0]) (.inl 1 :: (toks y ++ toksL ys)) = true := (lex_diff (O := itemOrd) (x := (.inl 0 : Int ⊕ List Nat)) (y := .inl 1) (by simp)).trans rfl
    simp [PySem.SeqAt.firstLt, e]
  | x :: xs, [], _, _, _ => by
    rw [toksL_cons, toksL_nil]
    have e : lxt (.inl 1 :: (toks x ++ toksL xs)) ([.inl 0]) = false := (lex_diff (O := itemOrd) (x := (.inl 1 : Int ⊕ List Nat)) (y := .inl 0) (by simp)).trans rfl
    simp [PySem.SeqAt.firstLt, e]
  | x :: xs, y :: ys, hx, hy, hc => by
    have em : min (x :: xs).length (y :: ys).length = min xs.length ys.length + 1 := by
      rw [List.length_cons, List.length_cons]
      omega
    have ed : decide ((x :: xs).length < (y :: ys).length) = decide (xs.length < ys.length) := by
      rw [List.length_cons, List.length_cons]
      exact decide_eq_decide.mpr (by omega)
    rw [em, ed, List.range_succ_eq_map, toksL_cons, toksL_cons, lxt_self]
    by_cases c : x = y
    · subst c
      have hc2 : cmpVs xs ys = true := by
        unfold cmpVs at hc
        rwa [if_pos rfl] at hc
      have ih := firstLt_V (fun a ha => hx a (List.mem_cons_of_mem _ ha)) (fun a ha => hy a (List.mem_cons_of_mem _ ha)) hc2
      rw [lxt_pre, ← ih, PySem.SeqAt.firstLt_yes (by simp), PySem.W.firstLt_map]
      simp only [List.getD_cons_succ]
    · have hc2 : cmpV x y = true := by
        unfold cmpVs at hc
        rwa [if_neg c] at hc
      rw [PySem.SeqAt.firstLt_no (by simp [c]), toks_ne n (hx x List.mem_cons_self) (hy y List.mem_cons_self) hc2 c]
      rfl
namespace SortT
open PySem.SeqAt
open AutoSeq1 (wpAny_loadPart')
open MeetsSeq MeetsSeq2 MeetsSeq3 SeqRoads2
/-- < of two tuples: items are compared by < at the first place alone where they differ -/
theorem first_lt (p q : Addr) (us ws : Array Value) (c d : Nat) (k1 k2 : Option Addr) (z1 z2 : Array (Option Value)) (eqs lts : Nat → Bool) :
    Meets (Builtin.«tuple.__lt__» ⟨[.ref p, .ref q], []⟩)
      (fun A R s => (s.heap.get? p = some { cls := .type "tuple", dict := k1, data := .seq us c, slots := z1 } ∧ s.heap.get? q = some { cls := .type "tuple", dict := k2, data := .seq ws d, slots := z2 }) ∧
        ((∀ (j : Nat) (a1 : j < us.size) (a2 : j < ws.size), EqAt A.in1 s us[j] ws[j] (eqs j)) ∧ ∀ (j : Nat) (a1 : j < us.size) (a2 : j < ws.size), (∀ i, i < j → eqs i = true) → eqs j = false → RcLt A.in1 s us[j] ws[j] (lts j)) ∧
        R (.ok (.ret (.bool (firstLt eqs lts (decide (us.size < ws.size)) (List.range (min us.size ws.size)))))) s) :=
  .of_wp fun prog w A R st h => by
    obtain ⟨hp, gl, dx, tk, os⟩ := st
    obtain ⟨⟨o1, o2⟩, ⟨e1, e2⟩, fin⟩ := h
    have sub := AutoSeq1.sub_tuple_tuple
    have zl : (us.toList.zip ws.toList).length = min us.size ws.size := by simp
    wp_walk using wpAny_loadPart' o1, wpAny_loadPart' o2, wpAny_forIn_list _ (fun rest b s' => b.1 = none ∧ s' = ⟨hp, gl, dx, tk, os⟩ ∧ ∃ i, rest = (us.toList.zip ws.toList).drop i ∧ (∀ k, k < i → eqs k = true) ∧
      R (.ok (.ret (.bool (firstLt eqs lts (decide (us.size < ws.size)) ((List.range (min us.size ws.size)).drop i))))) ⟨hp, gl, dx, tk, os⟩) _
    case turn =>
      rintro ⟨y, x⟩ rest b s' ⟨b0, rfl, i, hz, hpre, hR⟩
      have il : i < (us.toList.zip ws.toList).length := by
        rcases Nat.lt_or_ge i (us.toList.zip ws.toList).length with g | g
        · exact g
        · rw [List.drop_of_length_le g] at hz
          cases hz
      have im : i < min us.size ws.size := zl ▸ il
      have i1 : i < us.size := Nat.lt_of_lt_of_le im (Nat.min_le_left _ _)
      have i2 : i < ws.size := Nat.lt_of_lt_of_le im (Nat.min_le_right _ _)
      rw [List.drop_eq_getElem_cons il] at hz
      injection hz with hz1 hz2
      have ey : y = us[i] := by simpa using congrArg Prod.fst hz1
      have ex : x = ws[i] := by simpa using congrArg Prod.snd hz1
      subst ey ex
      have dr : (List.range (min us.size ws.size)).drop i = i :: (List.range (min us.size ws.size)).drop (i + 1) := by simp [List.drop_eq_getElem_cons, im]
      rw [dr] at hR
      refine wpAny_bind (e1 i i1 i2 prog w _ _ ?_)
      cases g : eqs i with
      | true =>
        rw [firstLt_yes g] at hR
        wp_walk
        refine ⟨rfl, rfl, i + 1, hz2, fun k hk => ?_, hR⟩
        rcases Nat.lt_or_ge k i with g2 | g2
        · exact hpre k g2
        · rw [show k = i by omega]
          exact g
      | false =>
        rw [firstLt_no g] at hR
        have r := e2 i i1 i2 hpre g prog w
        wp_walk using r _ _
        exact ⟨_, rfl, hR⟩
    case fin =>
      rintro ⟨b1, b2⟩ s' ⟨b0, rfl, i, hz, _, hR⟩
      simp only at b0
      subst b0
      have ge : min us.size ws.size ≤ i := by
        rcases Nat.lt_or_ge i (us.toList.zip ws.toList).length with g | g
        · rw [List.drop_eq_getElem_cons g] at hz
          cases hz
        · exact zl ▸ g
      rw [List.drop_of_length_le (by simpa using ge)] at hR
      wp_walk
      exact ⟨_, rfl, by simpa [Builtin.Tuple.tupleCompareSizes, firstLt] using hR⟩
    case h =>
      exact ⟨rfl, rfl, 0, rfl, fun k hk => absurd hk (Nat.not_lt_zero _), by simpa using fin⟩
theorem tup_lt {A : Around} {s : Shared} {p q : Addr} {us ws : Array Value} {eqs lts : Nat → Bool} (tp : s.heap.IsTuple p us) (tq : s.heap.IsTuple q ws) (hu : A.units < cLine)
    (he : ∀ (j : Nat) (a1 : j < us.size) (a2 : j < ws.size), EqAt A.in1 s us[j] ws[j] (eqs j)) (hr : ∀ (j : Nat) (a1 : j < us.size) (a2 : j < ws.size), (∀ i, i < j → eqs i = true) → eqs j = false → RcLt A.in1 s us[j] ws[j] (lts j)) :
    RcLt A s (.ref p) (.ref q) (firstLt eqs lts (decide (us.size < ws.size)) (List.range (min us.size ws.size))) := by
  intro prog w E Q g
  obtain ⟨⟨c1, k1, d1, z1⟩, o1, t1, n1, e1⟩ := id tp
  obtain ⟨⟨c2, k2, d2, z2⟩, o2, t2, n2, e2⟩ := id tq
  simp only at t1 e1 t2 e2
  subst t1 e1 t2 e2
  have nn : Value.bool (firstLt eqs lts (decide (us.size < ws.size)) (List.range (min us.size ws.size))) ≠ Value.notImplemented := fun x => nomatch x
  exact richCompare_meets_room (op := .Lt) ⟨_, o1, rfl⟩ ⟨_, o2, rfl⟩ F.slot_tuple_lt F.entry_tuple_lt (F.args_tuple_lt_2 _ _) (first_lt p q us ws n1 n2 k1 k2 z1 z2 eqs lts) ⟨⟨o1, o2⟩, ⟨he, hr⟩, ⟨nn, g⟩⟩ hu
theorem reads_at {h : Heap} : ∀ {xs : List MV} {vs : List Value} {as : List Addr}, ReadsAll h vs (pDs xs) as → vs.length = xs.length ∧ ∀ (j : Nat) (a : j < vs.length), ∃ bs, Reads h vs[j] (pD (xs.getD j .non)) bs
  | [], _, _, r => by
    cases r
    exact ⟨rfl, fun j a => absurd a (Nat.not_lt_zero _)⟩
  | x :: xs, _, _, r => by
    cases r with
    | cons r1 r2 =>
      obtain ⟨h1, h2⟩ := reads_at r2
      refine ⟨by rw [List.length_cons, List.length_cons, h1], fun j a => ?_⟩
      cases j with
      | zero => exact ⟨_, r1⟩
      | succ j => exact h2 j (Nat.lt_of_succ_lt_succ a)
theorem cmpVs_at : ∀ {xs ys : List MV} {j : Nat}, cmpVs xs ys = true → j < xs.length → j < ys.length → (∀ i, i < j → xs.getD i .non = ys.getD i .non) → xs.getD j .non ≠ ys.getD j .non → cmpV (xs.getD j .non) (ys.getD j .non) = true
  | [], _, _, _, h, _, _, _ => absurd h (Nat.not_lt_zero _)
  | _ :: _, [], _, _, _, h, _, _ => absurd h (Nat.not_lt_zero _)
  | x :: xs, y :: ys, 0, hc, _, _, _, hne => by
    have hne' : x ≠ y := hne
    unfold cmpVs at hc
    rw [if_neg hne'] at hc
    exact hc
  | x :: xs, y :: ys, j + 1, hc, h1, h2, hp, hne => by
    have e : x = y := hp 0 (Nat.succ_pos _)
    unfold cmpVs at hc
    rw [if_pos e] at hc
    exact cmpVs_at (xs := xs) (ys := ys) (j := j) hc (Nat.lt_of_succ_lt_succ h1) (Nat.lt_of_succ_lt_succ h2) (fun i hi => hp (i + 1) (Nat.succ_lt_succ hi)) hne
theorem getD_mem {xs : List MV} {j : Nat} (h : j < xs.length) : xs.getD j .non ∈ xs := by
  rw [List.getD_eq_getElem?_getD, List.getElem?_eq_getElem h]
  exact List.getElem_mem h
theorem eq_V {n : Nat} {x y : MV} {A : Around} {s : Shared} {a b : Value} {as bs : List Addr} (hx : okV n x = true) (hy : okV n y = true) (ra : Reads s.heap a (pD x) as) (rb : Reads s.heap b (pD y) bs) (hu : A.units + n < cLine) : EqAt A s a b (decide (x = y)) := by
  obtain ⟨l1, d1⟩ := pD_lay n x hx
  obtain ⟨l2, d2⟩ := pD_lay n y hy
  have := eqAt_reads (pD x) (pD y) A s a b as bs ra rb l1 l2 (by omega)
  rwa [eqv_pD n n x y hx hy] at this
theorem lt_V : ∀ (n : Nat) {x y : MV} {A : Around} {s : Shared} {a b : Value} {as bs : List Addr}, okV n x = true → okV n y = true → cmpV x y = true → Reads s.heap a (pD x) as → Reads s.heap b (pD y) bs → A.units + n < cLine → RcLt A s a b (ltV x y) := by
  intro n
  induction n with
  | zero =>
    intro x y A s a b as bs hx hy hc ra rb hu
    rcases cmpV_cases hc with ⟨i, j, rfl, rfl⟩ | ⟨i, j, rfl, rfl⟩ | ⟨xs, ys, rfl, rfl, hc⟩
    · exact PySem.W.rcLt_alike (.int i) (.int j) A s a b as bs ra rb rfl (fun e => nomatch e) (by simp [PyData.depth]; omega)
    · exact PySem.W.rcLt_alike (.str i) (.str j) A s a b as bs ra rb rfl (fun e => nomatch e) (by simp [PyData.depth]; omega)
    · cases hx
  | succ n ih =>
    intro x y A s a b as bs hx hy hc ra rb hu
    rcases cmpV_cases hc with ⟨i, j, rfl, rfl⟩ | ⟨i, j, rfl, rfl⟩ | ⟨xs, ys, rfl, rfl, hc⟩
    · exact PySem.W.rcLt_alike (.int i) (.int j) A s a b as bs ra rb rfl (fun e => nomatch e) (by simp [PyData.depth]; omega)
    · exact PySem.W.rcLt_alike (.str i) (.str j) A s a b as bs ra rb rfl (fun e => nomatch e) (by simp [PyData.depth]; omega)
    · have hx' : ∀ z ∈ xs, okV n z = true := fun z hz => part_ok hx hz
      have hy' : ∀ z ∈ ys, okV n z = true := fun z hz => part_ok hy hz
      cases ra with
      | @tuple l o vs m _ as₁ h1 h2 h3 h4 =>
        cases rb with
        | @tuple l' o' vs' m' _ bs₁ k1 k2 k3 k4 =>
          obtain ⟨n1, f1⟩ := reads_at h4
          obtain ⟨n2, f2⟩ := reads_at k4
          rw [Array.length_toList] at n1 n2
          have hu1 : A.in1.units + n < cLine := by
            rw [Around.in1_units]
            omega
          unfold ltV
          rw [toks_tup, toks_tup, ← firstLt_V hx' hy' hc, ← n1, ← n2]
          refine tup_lt ⟨_, h1, h2, _, h3⟩ ⟨_, k1, k2, _, k3⟩ (by omega) (fun j a1 a2 => ?_) fun j a1 a2 hp hne => ?_
          · obtain ⟨q1, r1⟩ := f1 j (by simpa using a1)
            obtain ⟨q2, r2⟩ := f2 j (by simpa using a2)
            have := eq_V (A := A.in1) (hx' _ (getD_mem (by omega))) (hy' _ (getD_mem (by omega))) r1 r2 hu1
            simpa using this
          · obtain ⟨q1, r1⟩ := f1 j (by simpa using a1)
            obtain ⟨q2, r2⟩ := f2 j (by simpa using a2)
            have hc2 := cmpVs_at hc (j := j) (by omega) (by omega) (fun i hi => of_decide_eq_true (hp i hi)) (of_decide_eq_false hne)
            have := ih (A := A.in1) (hx' _ (getD_mem (by omega))) (hy' _ (getD_mem (by omega))) hc2 r1 r2 hu1
            simpa using this
section
variable {prog : Program} {w : World} {A : Around} {E : Value → Shared → Prop} {s : Shared}
theorem tup_or {x y : MV} (h : isTup x = false) (hc : cmpV x y = true) : PySem.W.alike (pD x) (pD y) = true ∧ PySem.W.dataLt (pD x) (pD y) = ltV x y ∧ pD x ≠ .none ∧ ∀ t, pD x ≠ .tuple t := by
  rcases cmpV_cases hc with ⟨i, j, rfl, rfl⟩ | ⟨i, j, rfl, rfl⟩ | ⟨xs, ys, rfl, rfl, _⟩
  · exact ⟨rfl, rfl, by simp [pD], by simp [pD]⟩
  · exact ⟨rfl, rfl, by simp [pD], by simp [pD]⟩
  · cases h
/-- one item against another -/
theorem one_V {n : Nat} {f : Bool} {x y : MV} {a b : Value} {as bs : List Addr} {Q : Bool → Shared → Prop} (hf : f = true → isTup x = false) (hx : okV n x = true) (hy : okV n y = true) (hc : cmpV x y = true) (ra : Reads s.heap a (pD x) as) (rb : Reads s.heap b (pD y) bs)
    (hu : A.units + n < cLine) (hq : Q (ltV x y) s) : wpAny (model prog w) A (oneLt' f a b) Q E s := by
  cases f with
  | false =>
    rw [oneLt'_eq]
    simp only [Bool.false_eq_true, if_false]
    exact wpAny_bind (lt_V n hx hy hc ra rb hu prog w E _ (wpAny_truthy_bool hq))
  | true =>
    obtain ⟨h1, h2, h3, h4⟩ := tup_or (hf rfl) hc
    have := (pD_lay n x hx).2
    refine PySem.W.oneLt_alike (fun _ => h4) ra rb h1 h3 (by omega) (by rw [h2]; exact hq)
theorem lex_V {n : Nat} {b fin : Bool} {Q : Bool → Shared → Prop} : ∀ (xs ys : List MV) (i : Nat) {vs ws : List Value} {as bs : List Addr}, ReadsAll s.heap vs (pDs xs) as → ReadsAll s.heap ws (pDs ys) bs → (∀ x ∈ xs, okV n x = true) → (∀ y ∈ ys, okV n y = true) → cmpVs xs ys = true →
    A.units + n < cLine → (b = true → i = 0 → ∀ x r, xs = x :: r → isTup x = false) → fin = decide (xs.length < ys.length) → Q (lxt (toksL xs) (toksL ys)) s → PySem.W.KatLex prog w A b fin Q (vs.zip ws) i s
  | [], [], i, _, _, _, _, ra, rb, _, _, _, _, _, hf, hq => by
    cases ra
    cases rb
    have e : fin = false := by rw [hf]; rfl
    subst e
    have e2 : lxt (toksL []) (toksL []) = false := lex_irrefl (O := itemOrd) _
    rw [e2] at hq
    exact PySem.W.kat_nil hq
  | [], y :: ys, i, _, _, _, _, ra, rb, _, _, _, _, _, hf, hq => by
    cases ra
    have e : fin = true := by rw [hf]; exact decide_eq_true (Nat.succ_pos _)
    subst e
    have e2 : lxt (toksL []) (toksL (y :: ys)) = true := by
      rw [toksL_cons, toksL_nil]
      exact (lex_diff (O := itemOrd) (x := (.inl 0 : Int ⊕ List Nat)) (y := .inl 1) (by simp)).trans rfl
    rw [e2] at hq
    rw [List.zip_nil_left]
    exact PySem.W.kat_nil hq
  | x :: xs, [], i, _, _, _, _, ra, rb, _, _, _, _, _, hf, hq => by
    cases rb
    have e : fin = false := by rw [hf]; exact decide_eq_false (Nat.not_lt_zero _)
    subst e
    have e2 : lxt (toksL (x :: xs)) (toksL []) = false := by
      rw [toksL_cons, toksL_nil]
      exact (lex_diff (O := itemOrd) (x := (.inl 1 : Int ⊕ List Nat)) (y := .inl 0) (by simp)).trans rfl
    rw [e2] at hq
    rw [List.zip_nil_right]
    exact PySem.W.kat_nil hq
  | x :: xs, y :: ys, i, _, _, _, _, ra, rb, hx, hy, hc, hu, hb, hf, hq => by
    have hf2 : fin = decide (xs.length < ys.length) := by
      rw [hf]
      simp only [List.length_cons, Nat.add_lt_add_iff_right]
    have ox := hx x List.mem_cons_self
    have oy := hy y List.mem_cons_self
    cases ra with
    | cons r rs =>
      cases rb with
      | cons r' rs' =>
        rw [List.zip_cons_cons]
        refine PySem.W.kat_cons (eq_V ox oy r r' hu prog w _ _ ?_)
        rw [toksL_cons, toksL_cons, lxt_self] at hq
        by_cases c : x = y
        · subst c
          rw [decide_eq_true rfl]
          rw [lxt_pre] at hq
          have hc2 : cmpVs xs ys = true := by
            unfold cmpVs at hc
            rwa [if_pos rfl] at hc
          exact PySem.W.kat_yes (lex_V xs ys (i + 1) rs rs' (fun z hz => hx z (List.mem_cons_of_mem _ hz)) (fun z hz => hy z (List.mem_cons_of_mem _ hz)) hc2 hu (fun _ hi => absurd hi (Nat.succ_ne_zero i)) hf2 hq)
        · rw [decide_eq_false c]
          have hc2 : cmpV x y = true := by
            unfold cmpVs at hc
            rwa [if_neg c] at hc
          rw [toks_ne n ox oy hc2 c] at hq
          refine PySem.W.kat_no (one_V (fun hbi => ?_) ox oy hc2 r r' hu hq)
          rw [Bool.and_eq_true] at hbi
          exact hb hbi.1 (by simpa using hbi.2) x xs rfl
end
theorem okV_le {n : Nat} {x : MV} (h : okV (n - 1) x = true) : okV n x = true := by
  cases n with
  | zero => exact h
  | succ n => exact okV_up 1 h
theorem each_map {h : Heap} {us : List Value} {xs : List MV} (e : PySem.W.EachIs (fun u x => ∃ as, Reads h u (pD x) as) us xs) : PySem.W.EachIs (fun v d => ∃ as, Reads h v d as) us (xs.map pD) := by
  induction e with
  | nil => exact .nil
  | cons h _ ih => exact .cons h ih
/-- the kind of keys that these values make in a heap -/
noncomputable def kindV (h : Heap) (xs : List MV) : PyProof.Rows.KeyKind where
  toKeyOrd := listOrd itemOrd
  keyOf u := open Classical in if q : ∃ x, x ∈ xs ∧ ∃ as, Reads h u (pD x) as then some (toks q.choose) else none
  dflt := ([] : List (Int ⊕ List Nat))
theorem kindV_pos {h : Heap} {xs : List MV} {u : Value} (q : ∃ x, x ∈ xs ∧ ∃ as, Reads h u (pD x) as) : (kindV h xs).keyOf u = some (toks q.choose) := by
  show (open Classical in if q : ∃ x, x ∈ xs ∧ ∃ as, Reads h u (pD x) as then some (toks q.choose) else none) = _
  rw [dif_pos q]
theorem kindV_some {n : Nat} {h : Heap} {xs : List MV} (ho : ∀ x ∈ xs, okV n x = true) {u : Value} {x : MV} {as : List Addr} (hx : x ∈ xs) (r : Reads h u (pD x) as) : (kindV h xs).keyOf u = some (toks x) := by
  have q : ∃ x, x ∈ xs ∧ ∃ as, Reads h u (pD x) as := ⟨x, hx, as, r⟩
  rw [kindV_pos q]
  obtain ⟨m, as', r'⟩ := q.choose_spec
  have e : pD q.choose = pD x := Reads.unique _ _ _ _ _ (pD_lay n _ (ho _ m)).1 r' r
  unfold toks
  rw [e]
theorem kindV_inv {h : Heap} {xs : List MV} {u : Value} {k : List (Int ⊕ List Nat)} (e : (kindV h xs).keyOf u = some k) : ∃ x as, x ∈ xs ∧ Reads h u (pD x) as ∧ k = toks x := by
  by_cases q : ∃ x, x ∈ xs ∧ ∃ as, Reads h u (pD x) as
  · rw [kindV_pos q] at e
    obtain ⟨m, as', r'⟩ := q.choose_spec
    exact ⟨_, as', m, r', (Option.some.inj e).symm⟩
  · exfalso
    have e2 : (kindV h xs).keyOf u = none := by
      show (open Classical in if q : ∃ x, x ∈ xs ∧ ∃ as, Reads h u (pD x) as then some (toks q.choose) else none) = _
      rw [dif_neg q]
      rfl
    rw [e2] at e
    cases e
def tyN : MV → String
  | .int _ => "int"
  | .str _ => "str"
  | .tup _ => "tuple"
  | _ => ""
def headIs (t : String) : MV → Bool
  | .tup (x :: _) => tyN x == t
  | _ => false
def srtShape (xs : List MV) : Bool := xs.all (fun x => !isTup x) || (xs.all (headIs "int") || xs.all (headIs "str"))
def srtOk (xs : List MV) : Bool := (xs.all (okV 20) && xs.all fun x => xs.all fun y => cmpV x y) && (srtShape xs && decide (xs.length ≤ 16777216))
theorem head_of {t : String} {x : MV} (h : headIs t x = true) : ∃ a r, x = .tup (a :: r) ∧ tyN a = t := by
  unfold headIs at h
  split at h
  · exact ⟨_, _, rfl, by simpa using h⟩
  · cases h
theorem dataTy {a : MV} {t : String} (e : tyN a = t) (ht : t = "int" ∨ t = "str") : PySem.W.dataType (pD a) = .type t := by
  subst e
  cases a <;> first | rfl | (exfalso; simp [tyN] at ht)
section
variable {prog : Program} {w : World} {A : Around} {E : Value → Shared → Prop} {s : Shared}
open PySem.W in
theorem sorts_V {us : List Value} {xs : List MV} {n : Nat} (e : EachIs (fun u x => ∃ as, Reads s.heap u (pD x) as) us xs) (ho : ∀ x ∈ xs, okV n x = true) (hc : ∀ x ∈ xs, ∀ y ∈ xs, cmpV x y = true) (hs : srtShape xs = true) (hu : A.units + n < cLine) :
    SortsAt prog w A s (kindV s.heap xs) us := by
  refine ⟨fun v hv => ?_, ?_⟩
  · obtain ⟨x, hx, as, r⟩ := e.left v hv
    exact ⟨_, kindV_some ho hx r⟩
  have tups : ∀ t : String, (t = "int" ∨ t = "str") → xs.all (headIs t) = true → ∃ kd : SortKind, H.LtAt prog w A s (kindV s.heap xs) kd ∧ (2 ≤ us.length → ∀ (E : Value → Shared → Prop) {Q : SortKind → Shared → Prop}, Q kd s → wpAny (model prog w) A (keyKind' us.toArray) Q E s) := by
    intro t ht hall
    have hh : ∀ x ∈ xs, ∃ a r, x = .tup (a :: r) ∧ tyN a = t := fun x hx => head_of (List.all_eq_true.mp hall x hx)
    have ntT : (Value.type t != Value.type "tuple") = true := by rcases ht with rfl | rfl <;> rfl
    refine ⟨tuples' (Value.type t != Value.type "tuple"), ?_, fun h2 E Q hq => ?_⟩
    · intro E x y a b Q ha hb hq
      obtain ⟨X, as, mX, ra, rfl⟩ := kindV_inv ha
      obtain ⟨Y, bs, mY, rb, rfl⟩ := kindV_inv hb
      have cXY := hc X mX Y mY
      have oX := ho X mX
      have oY := ho Y mY
      obtain ⟨x1, r1, rfl, t1⟩ := hh X mX
      obtain ⟨x2, r2, rfl, t2⟩ := hh Y mY
      have hq' : Q (lxt (toks (.tup (x1 :: r1))) (toks (.tup (x2 :: r2)))) s := hq
      rw [toks_tup, toks_tup] at hq'
      cases ra with
      | @tuple l o vs m _ as₁ h1 h2 h3 h4 =>
        cases rb with
        | @tuple l' o' vs' m' _ bs₁ k1 k2 k3 k4 =>
          obtain ⟨n1, _⟩ := reads_at h4
          obtain ⟨n2, _⟩ := reads_at k4
          rw [Array.length_toList] at n1 n2
          have hcs : cmpVs (x1 :: r1) (x2 :: r2) = true := by
            unfold cmpV at cXY
            exact cXY
          refine kat_lt h1 h3 k1 k3 (lex_V (n := n) (x1 :: r1) (x2 :: r2) 0 h4 k4 (fun z hz => okV_le (okV_part oX hz)) (fun z hz => okV_le (okV_part oY hz)) hcs hu (fun _ _ x r ex => ?_) (by rw [n1, n2]) hq')
          obtain ⟨rfl, rfl⟩ := List.cons.inj ex
          rcases ht with rfl | rfl <;> cases x1 <;> first | rfl | (exfalso; simp [tyN] at t1)
    · have e2 : EachIs (fun v d => ∃ as, Reads s.heap v d as) us (pDs xs) := by
        rw [pDs_map]
        exact each_map e
      obtain ⟨fs, g1, g2, g3⟩ := each_katTups e2 (fun d hd => by
        rw [pDs_map] at hd
        obtain ⟨x, hx, rfl⟩ := List.mem_map.mp hd
        obtain ⟨a, r, rfl, _⟩ := hh x hx
        exact ⟨pD a, pDs r, rfl⟩)
      refine kat_kind (T := Value.type t) g1 (by omega) (fun f hf => ?_) (beq_self_eq_true _) hq
      obtain ⟨x, r, as, m1, m2⟩ := g3 f hf
      rw [pDs_map] at m1
      obtain ⟨y, hy, ey⟩ := List.mem_map.mp m1
      obtain ⟨a, r', rfl, ta⟩ := hh y hy
      rw [pD, pDs] at ey
      injection ey with ey
      obtain ⟨rfl, _⟩ := List.cons.inj ey
      rw [← dataTy ta ht]
      exact looks_reads m2
  unfold srtShape at hs
  rw [Bool.or_eq_true, Bool.or_eq_true] at hs
  rcases hs with hn | hi | hs
  · have hn' : ∀ x ∈ xs, isTup x = false := fun x hx => by simpa using List.all_eq_true.mp hn x hx
    refine ⟨oneType', ?_, fun h2 E Q hq => ?_⟩
    · intro E x y a b Q ha hb hq
      obtain ⟨X, as, mX, ra, rfl⟩ := kindV_inv ha
      obtain ⟨Y, bs, mY, rb, rfl⟩ := kindV_inv hb
      rw [keyLt'_oneType]
      exact one_V (fun _ => hn' X mX) (ho X mX) (ho Y mY) (hc X mX Y mY) ra rb hu hq
    · cases xs with
      | nil =>
        cases e
        exact absurd h2 (by simp)
      | cons x₀ xs₀ =>
        have m0 : x₀ ∈ x₀ :: xs₀ := List.mem_cons_self
        obtain ⟨_, _, _, h4⟩ := tup_or (hn' x₀ m0) (hc x₀ m0 x₀ m0)
        refine kas_kind (T := dataType (pD x₀)) h2 (fun v hv => ?_) (dataType_other h4) (beq_self_eq_true _) hq
        obtain ⟨x, hx, as, r⟩ := e.left v hv
        rw [← dataType_alike (tup_or (hn' x hx) (hc x hx x₀ m0)).1]
        exact looks_reads r
  · exact tups "int" (.inl rfl) hi
  · exact tups "str" (.inr rfl) hs
end
def leV (x y : MV) : Bool := !ltV y x
open PySem.W in
/-- the sorted values, beside what they are -/
theorem sort_split {us : List Value} {vs : List V} {xs : List MV} {n : Nat} {h : Heap} {π : List Addr} {H : Hp} {K : PySem.W.Frag} (ru : Vals vs us) (rv : RVs K π H xs vs) (e : EachIs (fun u x => ∃ as, Reads h u (pD x) as) us xs) (ho : ∀ x ∈ xs, okV n x = true) :
    ∃ ws, Vals ws (sortVals (kindV h xs) false us us) ∧ RVs K π H (xs.mergeSort leV) ws := by
  have pr : ∀ {us : List Value} {vs : List V} {xs : List MV}, Vals vs us → RVs K π H xs vs → EachIs (fun (u : Value) (p : MV × V) => RelV p.2 u) us (xs.zip vs) := by
    intro us vs xs ru
    induction ru generalizing xs with
    | nil =>
      intro rv
      cases xs with
      | nil => exact .nil
      | cons x xs => exact absurd rv.length (by simp)
    | cons r _ ih =>
      intro rv
      cases xs with
      | nil => exact absurd rv.length (by simp)
      | cons x xs =>
        obtain ⟨v, ws, e, _, r2⟩ := rv.uncons
        cases e
        exact .cons r (ih r2)
  have pk : ∀ {us : List Value} {vs : List V} {xs ys : List MV}, Vals vs us → EachIs (fun u x => ∃ as, Reads h u (pD x) as) us xs → (∀ x ∈ xs, x ∈ ys) → (∀ x ∈ ys, okV n x = true) → EachIs (fun (u : Value) (p : MV × V) => (kindV h ys).keyOf u = some (toks p.1)) us (xs.zip vs) := by
    intro us vs xs ys ru
    induction ru generalizing xs with
    | nil =>
      intro e _ _
      cases e
      exact .nil
    | cons r _ ih =>
      intro e hm hy
      cases e with
      | cons h1 t =>
        obtain ⟨as, r1⟩ := h1
        exact .cons (kindV_some hy (hm _ List.mem_cons_self) r1) (ih t (fun z hz => hm z (List.mem_cons_of_mem _ hz)) hy)
  have s1 := sortVals_each (κ := kindV h xs) (rev := false) (fun p : MV × V => toks p.1) (pr ru rv) (pk ru e (fun _ hx => hx) ho)
  have hl : xs.length = vs.length := rv.length
  refine ⟨((xs.zip vs).mergeSort (sortLe (kindV h xs).toKeyOrd false fun p : MV × V => toks p.1)).map Prod.snd, ?_, ?_⟩
  · have go : ∀ {us : List Value} {ps : List (MV × V)}, EachIs (fun (u : Value) (p : MV × V) => RelV p.2 u) us ps → Vals (ps.map Prod.snd) us := by
      intro us ps e
      induction e with
      | nil => exact .nil
      | cons r _ ih => exact .cons r ih
    exact go s1
  · have e1 : ((xs.zip vs).mergeSort (sortLe (kindV h xs).toKeyOrd false fun p : MV × V => toks p.1)).map Prod.fst = xs.mergeSort leV := by
      have := sort_maps (r := sortLe (kindV h xs).toKeyOrd false fun p : MV × V => toks p.1) (s := leV) Prod.fst (l := xs.zip vs) (fun a _ b _ => rfl)
      rw [this, List.map_fst_zip (by omega)]
    rw [← e1]
    have hz : ∀ {xs : List MV} {vs : List V}, RVs K π H xs vs → ∀ p ∈ xs.zip vs, RV K π H p.1 p.2 := by
      intro xs
      induction xs with
      | nil =>
        intro vs r p hp
        rw [List.zip_nil_left] at hp
        cases hp
      | cons x xs ih =>
        intro vs r p hp
        obtain ⟨v, ws, rfl, r1, r2⟩ := r.uncons
        rw [List.zip_cons_cons] at hp
        rcases List.mem_cons.mp hp with rfl | hp
        · exact r1
        · exact ih r2 p hp
    have all : ∀ p ∈ (xs.zip vs).mergeSort (sortLe (kindV h xs).toKeyOrd false fun p : MV × V => toks p.1), RV K π H p.1 p.2 := fun p hp => hz rv p ((List.mergeSort_perm _ _).mem_iff.mp hp)
    generalize (xs.zip vs).mergeSort (sortLe (kindV h xs).toKeyOrd false fun p : MV × V => toks p.1) = ps at all
    induction ps with
    | nil => exact RVs.nil
    | cons p ps ih => exact RVs.cons (all p List.mem_cons_self) (ih fun q hq => all q (List.mem_cons_of_mem _ hq))
end SortT
end FL

namespace FL
open PySem PySem.Spec PyProof.Rows L2
/-! ### the keys of a dict, sorted(x) -/
def rGN (X : Cx) (W : WX) (g : GN) : List V → Hp → VK → Prop := fun vs H Q => ∃ σ π M xs, RVs X.K π H xs vs ∧ RM X.prog X.w X.K X.mg π H M ∧ PostR X W (RV X.K) σ π H (g xs M) Q
section
variable {X : Cx} {W : WX} {σ : St} {π π1 : List Addr} {H H1 : Hp} {ρ : Rho} {M : MH} {s : Shared} {pins : List (Addr × Obj)} {E : Value → Shared → Prop}
theorem o_gn {g : GN} : OpN X W (rGN X W g) g := fun σ H Q π M xs vs r hm hp => ⟨σ, π, M, xs, r, hm, hp⟩
theorem rv_flat {k : MV} {q : Key} (h : flatOf k = some q) : RV X.K π H k (kV q) := by
  cases k <;> simp only [flatOf, reduceCtorEq, Option.some.injEq] at h
  · subst h
    rw [RV_int]
    rfl
  · subst h
    rw [RV_str]
    rfl
theorem flat_keys : ∀ {kvs : List (MV × MV)} {gs : List (Key × V)}, RDk X.K π H kvs gs → RVs X.K π H (kvs.map (·.1)) ((gs.map (·.1)).map kV)
  | [], _, h => by
    unfold RDk at h
    subst h
    exact RVs.nil
  | (k, x) :: kvs, _, h => by
    obtain ⟨q, v, hs, rfl, e, _, t⟩ := h.un
    exact RVs.cons (rv_flat e) (flat_keys t)
theorem nest_keys : ∀ {kvs : List (MV × MV)} {xs : List (NestedKey × Addr × Value)}, NV X.K π H kvs xs → RVs X.K π H (kvs.map (·.1)) ((xs.map fun x => x.2.1).map V.ref)
  | [], _, h => by
    unfold NV at h
    subst h
    exact RVs.nil
  | (k, x) :: kvs, _, h => by
    obtain ⟨q, b, v, u, ys, rfl, _, _, h3, _, _, t⟩ := h.un
    exact RVs.cons h3 (nest_keys t)
def keysOk (kvs : List (MV × MV)) : Bool := kvs.all (fun p => okF p.1) || kvs.all (fun p => isTup p.1)
/-- what a walk over a dict's keys gives -/
theorem dct_source {a : Addr} {o : HO} {kvs : List (MV × MV)} (I : Inv X pins σ H s) (ha : H a = some o) (d : DO X.prog X.w X.K π H a kvs o) (hk : keysOk kvs = true) :
    ∃ (n : Nat) (P : Nat → Value → Prop) (OK : Heap → Prop), PySem.W.KdlSrc X.prog X.w "dict" a a n P OK ∧ OK s.heap ∧ n ≤ sizeLine ∧ n = kvs.length ∧ ∃ vs : List V, RVs X.K π H (kvs.map (·.1)) vs ∧ ∀ acc : Array Value, ItemsOf P acc n → Vals vs acc.toList := by
  unfold keysOk at hk
  rw [Bool.or_eq_true] at hk
  rcases hk with hk | hk
  · obtain ⟨gs, rfl, rd⟩ := fview I d hk
    obtain ⟨z, lo, vs, rel, dd⟩ := dk_of I.hok ha
    obtain ⟨ep, hat⟩ := dd.dictAt
    refine ⟨_, _, _, PySem.W.kdl_dict (knd := mixKind X.prog X.w) (kvs := vs) (ep := ep) lo, hat, by rw [← rel.length]; exact z, by rw [rd.length, rel.length], _, flat_keys rd, fun acc hacc => ?_⟩
    have := keys_at (us := acc.toList) (vs := vs) (by rw [Array.length_toList]; exact hacc.1) fun j v e => hacc.2 j v (by rw [← Array.getElem?_toList]; exact e)
    rw [rel.keys, List.map_map]
    exact this
  · obtain ⟨lo, z, xs, nv, ob, es, ep, h1, h2, h3, h4, _⟩ := nview I ha d hk
    have l1 : es.size = xs.length := by
      have := congrArg List.length h4
      rw [List.length_map, Array.length_toList] at this
      exact this
    refine ⟨_, _, _, kdl_raw (prog := X.prog) (w := X.w) lo h2 h3, h1, by rw [l1, ← nv.length]; exact z, by rw [l1, nv.length], _, nest_keys nv, fun acc it => ?_⟩
    have ea : acc.toList = (xs.map fun x => x.2.1).map Value.ref := by
      have hl : acc.toList.length = xs.length := by rw [Array.length_toList, it.1]; exact l1
      apply List.ext_getElem?
      intro j
      rw [List.getElem?_map, List.getElem?_map]
      cases hj : acc.toList[j]? with
      | none =>
        have g := List.getElem?_eq_none_iff.mp hj
        rw [List.getElem?_eq_none (by omega)]
        all_goals rfl
      | some v =>
        obtain ⟨en, hen, hv⟩ := it.2 j v (by rw [← Array.getElem?_toList]; exact hj)
        have qe := entry_at h4 j
        rw [hen] at qe
        cases hb : xs[j]? with
        | none =>
          rw [hb] at qe
          exact nomatch (show some en = none from qe)
        | some b =>
          rw [hb] at qe
          have e2 : en = entryOfKey (nestedKind X.prog X.w) b := Option.some.inj qe
          rw [hv, e2]
          all_goals rfl
    rw [ea]
    exact vals_refs _
theorem reads_each (I : Inv X pins σ H s) (hm : RM X.prog X.w X.K X.mg π H M) {n : Nat} (hn : n + 1 ≤ 66) : ∀ {ys : List MV} {vs : List V} {us : List Value}, RVs X.K π H ys vs → Vals vs us → (∀ y ∈ ys, okV n y = true) → PySem.W.EachIs (fun u x => ∃ as, Reads s.heap u (pD x) as) us ys
  | [], vs, us, r, v, _ => by
    rw [r.unnil] at v
    cases v
    exact .nil
  | y :: ys, vs, us, r, v, h => by
    obtain ⟨x, ws, rfl, r1, r2⟩ := r.uncons
    cases v with
    | cons v1 v2 =>
      obtain ⟨as, q⟩ := Dp.reads I (pD y) x _ (toD_dp hm 66 y (pD y) x (toD_le (h y List.mem_cons_self) hn) r1) v1
      exact .cons ⟨as, q⟩ (reads_each I hm hn r2 v2 fun z hz => h z (List.mem_cons_of_mem _ hz))
/-- what sorted walks over -/
def keysM (M : MH) (x : MV) : Option (List MV) := match x with
  | .ref n => match M[n]? with
    | some (.dct kvs) => if keysOk kvs = true then some (kvs.map (·.1)) else none
    | _ => lstOf M x
  | _ => none
open SortT in
def gSorted : GN := fun xs M => match xs with
  | [x] => match keysM M x with
    | some ys => if srtOk ys = true then .ok (.ref M.length) (M ++ [.lst (ys.mergeSort leV)]) else .stuck
    | none => .stuck
  | _ => .stuck
open SortT PySem.W in
theorem call_sortA (hcalm : X.calm = true) (hu : X.A.units + 100 < cLine) : CallR X (.builtin "sorted") (rGN X W gSorted) := by
  intro pins s σ H vs us Q I r q
  obtain ⟨σ', π, M, xs, rv, hm, hp⟩ := q
  unfold gSorted at hp
  split at hp
  · rename_i x
    obtain ⟨v, ws, rfl, rx, r0⟩ := rv.uncons
    rw [r0.unnil] at r
    obtain ⟨u, rfl, ru⟩ := vals1 r
    split at hp
    · rename_i ys ek
      split at hp
      · rename_i hs
        unfold srtOk at hs
        rw [Bool.and_eq_true, Bool.and_eq_true, Bool.and_eq_true] at hs
        obtain ⟨⟨h1, h2⟩, h3, h4⟩ := hs
        have h4 := of_decide_eq_true h4
        have ho : ∀ y ∈ ys, okV 20 y = true := List.all_eq_true.mp h1
        have hc : ∀ y ∈ ys, ∀ z ∈ ys, cmpV y z = true := fun y hy z hz => List.all_eq_true.mp (List.all_eq_true.mp h2 y hy) z hz
        have hz : ys.length ≤ sizeLine := by rw [sizeLine_eq]; exact h4
        have hu2 : ∀ B : Around, B.units ≤ X.A.units + 3 → B.units + 20 < cLine := fun B hB => by omega
        unfold keysM at ek
        split at ek
        · rename_i n
          split at ek
          · rename_i kvs en
            split at ek
            · rename_i hk
              cases ek
              obtain ⟨a, o, rfl, _, ha, d⟩ := dct_at hm en rx
              cases ru
              obtain ⟨m, P, OK, src, ok, hl, hlen, zs, rz, hv⟩ := dct_source I ha d hk
              refine Calls.call_function_entry PyProof.Rows.kind_sorted PyProof.Rows.plain_sorted PyProof.Rows.entry_sorted (PyProof.Rows.args_sorted1 _) ?_
              unfold Builtin.«sorted»
              refine wpAny_bind (m := checkCount "sorted" 1 1 _) (wpAny_pure ?_)
              refine wpAny_bind (PySem.W.kdu_collect (A := X.A.in1) src (I.ok.hd hcalm) ok hl fun h' tk acc hk hacc => ?_)
              have hV := hv acc hacc
              have I1 : Inv X pins σ H { s with heap := h', toks := tk } := I.kept hk
              have e0 := reads_each I1 hm (by decide) rz hV ho
              have la : acc.toList.length = m := by rw [Array.length_toList]; exact hacc.1
              refine wpAny_bind (wpAny_newList ?_ (by omega))
              have hoL : (h'.push (seqObj "list" acc.toList.toArray 0)).get? h'.objs.size = some (seqObj "list" acc.toList.toArray 0) := Heap.get?_push_size _ rfl
              have e1 : EachIs (fun u x => ∃ as, Reads (sortingHeap (h'.push (seqObj "list" acc.toList.toArray 0)) h'.objs.size acc.toList) u (pD x) as) acc.toList (kvs.map (·.1)) := e0.mono fun u x q => by
                obtain ⟨as, q⟩ := q
                refine ⟨as, Reads.keeps (fun b o e => ?_) q⟩
                exact sortingHeap_old (Nat.ne_of_lt (Heap.lt_size e)) (Heap.get?_push_of_some _ e)
              show wpAny _ _ _ _ _ { s with heap := h'.push (seqObj "list" acc.toList.toArray 0), toks := tk }
              have S := sorts_V (prog := X.prog) (w := X.w) (A := X.A.in1.in1) (s := { s with heap := sortingHeap (h'.push (seqObj "list" acc.toList.toArray 0)) h'.objs.size acc.toList, toks := tk }) e1 ho hc h3 (hu2 _ (by rw [Around.in1_units, Around.in1_units]; omega))
              obtain ⟨ws, g1, g2⟩ := sort_split hV rz e1 ho
              refine wpAny_bind (wpAny_holding (wpAny_call_entry PyProof.Rows.slot_list_sort ⟨_, hoL, rfl⟩ PyProof.Rows.entry_list_sort
                (list_sort_vals (s := { s with heap := h'.push (seqObj "list" acc.toList.toArray 0), toks := tk }) hoL S (by omega) ?_) (PyProof.Rows.args_list_sort _)))
              obtain ⟨e', he'⟩ := PyProof.Rows.sortedHeap_at (vs := acc.toList) (out := (sortVals (kindV (sortingHeap (h'.push (seqObj "list" acc.toList.toArray 0)) h'.objs.size acc.toList) (kvs.map (·.1))) false acc.toList acc.toList).toArray) hoL
              have hlw : ws.length ≤ sizeLine := by rw [← g2.length, List.length_mergeSort]; exact hz
              refine ⟨_, rfl, wpAny_pure ⟨_, rfl, .ref h'.objs.size, upd H h'.objs.size (.lst ws), I1.laid (t' := tk) (fun b u e => ?_) (Nat.le_refl _)
                (show ObjOk X.prog X.w _ _ _ (.lst ws) from ⟨hlw, _, e', g1, he'⟩), rfl, new_lst (α := Unit) hp hm g2 (I1.hok.fresh (Nat.le_refl _))⟩⟩
              have hb : b < h'.objs.size := Heap.lt_size e
              show (PyProof.Rows.sortedHeap _ _ _ _).get? b = _
              rw [PyProof.Rows.sortedHeap_old (Nat.ne_of_lt hb) (by rw [size_push']; exact Nat.lt_succ_of_lt hb)]
              exact Heap.get?_push_of_some _ e
            · cases ek
          · obtain ⟨a, zs, rfl, h1, h2⟩ := lstOf_sq ek hm rx
            cases ru
            obtain ⟨its, rv, hl, _⟩ := I.list h1
            have e0 := reads_each I hm (by decide) h2 rv ho
            have hli : its.length = ys.length := by rw [h2.length, rv.length]
            have e1 : EachIs (fun u x => ∃ as, Reads (sortingHeap (copyHeap s.heap its) (s.heap.objs.size + 1) its) u (pD x) as) its ys := e0.mono fun u x q => by
              obtain ⟨as, q⟩ := q
              exact ⟨as, Reads.keeps (fun b o e => sorting_copy_old e) q⟩
            have S := sorts_V (prog := X.prog) (w := X.w) (A := X.A.in1.in1) (s := { s with heap := sortingHeap (copyHeap s.heap its) (s.heap.objs.size + 1) its }) e1 ho hc h3 (hu2 _ (by rw [Around.in1_units, Around.in1_units]; omega))
            obtain ⟨ws, g1, g2⟩ := sort_split rv h2 e1 ho
            refine sorted_vals hl.isList S (by omega) ?_
            obtain ⟨ep, he'⟩ := PyProof.Rows.sortedAll_at s.heap its (sortVals (kindV (sortingHeap (copyHeap s.heap its) (s.heap.objs.size + 1) its) ys) false its its).toArray
            have hlw : ws.length ≤ sizeLine := by rw [← g2.length, List.length_mergeSort]; exact hz
            exact ⟨.ref _, upd H (s.heap.objs.size + 1) (.lst ws), I.laid (t' := s.toks) (fun _ _ => PyProof.Rows.sortedAll_old) (Nat.le_succ _) ⟨hlw, _, ep, g1, he'⟩, rfl, new_lst (α := Unit) hp hm g2 (I.hok.fresh (Nat.le_succ _))⟩
        · cases ek
      · exact hp.elim
    · exact hp.elim
  · exact hp.elim
end
end FL

namespace FL
open PySem PySem.Spec PyProof.Rows L2
theorem b_sorted : bootBuiltins "sorted" = some (.builtin "sorted") := by kernel_rfl
/-! ### methods of builtin types: the type is what the value has -/
abbrev GM := MV → List MV → MH → Res MV
def tyM (M : MH) (x : MV) : Option String := match x with
  | .str _ => some "str"
  | .ref n => match M[n]? with
    | some (.dct _) => some "dict"
    | some (.lst _) => some "list"
    | some (.cst _) => some "list"
    | _ => none
  | _ => none
def fBm (tb : List (String × GM)) (fo : FE) (fa : FA) : FE := fun ρ M => (fo ρ M).bind fun x M1 => match (tyM M1 x).bind (fun T => tb.lookup T) with
  | some g => (fa ρ M1).bind fun xs M2 => g x xs M2
  | none => .stuck
def BMt (X : Cx) (W : WX) (name : Str) (T : String) (g : GM) : Prop := ∃ id, PlainAttrs T ∧ Slot T name id ∧ typeOf (.builtin id) = pure (.type "method_descriptor") ∧ MtR X id (rGM X W g)
def BMs (X : Cx) (W : WX) (name : Str) : List (String × GM) → Prop
  | [] => True
  | p :: r => BMt X W name p.1 p.2 ∧ BMs X W name r
section
variable {X : Cx} {W : WX} {σ : St} {π π1 : List Addr} {H H1 : Hp} {ρ : Rho} {M : MH} {s : Shared} {pins : List (Addr × Obj)}
theorem tyM_is {x : MV} {y : V} {u : Value} {T : String} (I : Inv X pins σ H s) (hm : RM X.prog X.w X.K X.mg π H M) (e : tyM M x = some T) (r : RV X.K π H x y) (ru : RelV y u) : s.TypeIs u T ∧ ∀ a, u = .ref a → ∃ ob, s.heap.get? a = some ob ∧ ob.dict = none := by
  unfold tyM at e
  split at e
  · rename_i z
    cases e
    rw [RV_str] at r
    subst r
    obtain ⟨t, rfl⟩ := ru
    exact ⟨typeIs_str s z t, fun _ e => nomatch e⟩
  · rename_i n
    have lsts : ∀ xs, lstOf M (.ref n) = some xs → s.TypeIs u "list" ∧ ∀ a, u = .ref a → ∃ ob, s.heap.get? a = some ob ∧ ob.dict = none := fun xs e0 => by
      obtain ⟨a, vs, rfl, h1, _⟩ := lstOf_sq e0 hm r
      cases ru
      obtain ⟨its, _, pl, _⟩ := I.list h1
      refine ⟨pl.isList.typeIs, fun a e => ?_⟩
      cases e
      obtain ⟨o, n, e, c, hd, _⟩ := pl
      exact ⟨o, e, hd⟩
    split at e
    · rename_i kvs en
      cases e
      obtain ⟨a, o, rfl, _, ha, d⟩ := dct_at hm en r
      cases ru
      obtain ⟨_, h1, _, h2⟩ := d_is I ha d
      exact ⟨h1, h2⟩
    · rename_i xs en
      cases e
      exact lsts xs (lst_of en)
    · rename_i xs en
      cases e
      exact lsts xs (cst_of en)
    · cases e
  · cases e
theorem BMs.at : ∀ {name : Str} {tb : List (String × GM)} {T : String} {g : GM}, BMs X W name tb → tb.lookup T = some g → BMt X W name T g
  | _, [], _, _, _, e => nomatch e
  | name, p :: r, T, g, h, e => by
    obtain ⟨k, v⟩ := p
    rw [List.lookup_cons] at e
    split at e
    · rename_i c
      cases e
      have c2 : T = k := by simpa using c
      subst c2
      exact h.1
    · exact BMs.at h.2 e
theorem fx_bm {o e : Expr} {es : List Expr} {fo : FE} {fa : FA} {name : Str} {apos cpos : Pos} {tb : List (String × GM)} (hb : BMs X W name tb) (ho : FX X W o fo) (ha : FXA X W (e :: es) fa)
    (hbase : attributeBase o name X.env (eval o X.env) = eval o X.env := by rfl)
    (hfew : ((backTo cpos (starEach (e :: es) X.env)).all (fun x => !x.1) && (backToKw cpos (keywordEach [] X.env)).all (fun x => x.1.isSome)
      && decide ((e :: es).length + ([] : List Keyword).length + (if ([] : List Keyword).isEmpty then 0 else 1) < 30)) = true := by rfl)
    (hline : (apos.endLine == cpos.line) = true := by rfl) (hs : starEach (e :: es) X.env = (false, eval e X.env) :: starEach es X.env := by rfl) (hplain : (backTo cpos (starEach es X.env)).any (·.1) = false := by rfl) :
    FX X W (.Call (.Attribute o name apos) (e :: es) [] cpos) (fBm tb fo fa) := by
  refine ⟨fun σ H Q => ∃ π ρ M, RS X.K π H σ ρ ∧ RM X.prog X.w X.K X.mg π H M ∧ PostR X W (RV X.K) σ π H (fBm tb fo fa ρ M) Q, ⟨fun pins s σ H Q I h => ?_⟩, fun σ H Q π ρ M hs hm hp => ⟨π, ρ, M, hs, hm, hp⟩⟩
  obtain ⟨π, ρ, M, hr, hm, hp⟩ := h
  obtain ⟨to, po, ro⟩ := ho.to
  obtain ⟨ta, pa, ra⟩ := ha.to
  have run : to σ H fun y H1 => ∃ T g, (∀ (pins : List (Addr × Obj)) (s : Shared) (u : Value), Inv X pins σ H1 s → RelV y u → s.TypeIs u T ∧ ∀ a, u = .ref a → ∃ ob, s.heap.get? a = some ob ∧ ob.dict = none) ∧ tb.lookup T = some g ∧ ta σ H1 fun vs H2 => ∃ σ π M x xs, RV X.K π H2 x y ∧ RVs X.K π H2 xs vs ∧ RM X.prog X.w X.K X.mg π H2 M ∧ PostR X W (RV X.K) σ π H2 (g x xs M) Q := by
    refine ro.bind hr hm hp fun x M1 y H1 π1 e1 rx m1 hp1 => ?_
    split at hp1
    · rename_i g eg
      rw [Option.bind_eq_some_iff] at eg
      obtain ⟨T, e1', e2'⟩ := eg
      refine ⟨T, g, fun pins s u I ru => tyM_is I m1 e1' rx ru, e2', ?_⟩
      refine ra.bind (hr.ext e1) m1 hp1 fun xs M2 vs H2 π2 e2 rs m2 hp2 => ?_
      exact ⟨σ, π2, M2, x, xs, rx.ext e2, rs, m2, hp2⟩
    · exact hp1.elim
  refine wpAny_Call_method_late hbase hfew hline rfl (thn (po.run pins s σ H _ I run) fun u s1 ⟨y, H1, I1, ry, T, g, ht, eg, q1⟩ => ?_)
  obtain ⟨h1, h2⟩ := ht pins s1 u I1 ry
  obtain ⟨id, pl, slot, hty, hmt⟩ := hb.at eg
  refine ⟨T, id, pl, slot, hty, h1, h2, ?_⟩
  have hA := pa.run cpos pins s1 σ H1 _ I1 q1
  rw [hs] at hA ⊢
  refine Calls.callWith_builtin (by show (false || (backTo cpos (starEach es X.env)).any (·.1)) = false; rw [hplain] <;> rfl) (Calls.evalArgs_plain ?_)
  exact thn hA fun us s2 ⟨vs, H2, I2, r2, q2⟩ => hmt pins s2 σ H2 y vs u us Q I2 ry r2 q2
theorem fx_bm0 {o : Expr} {fo : FE} {name : Str} {apos cpos : Pos} {tb : List (String × GM)} (hb : BMs X W name tb) (ho : FX X W o fo)
    (hbase : attributeBase o name X.env (eval o X.env) = eval o X.env := by rfl) (hline : (apos.endLine == cpos.line) = true := by rfl) : FX X W (.Call (.Attribute o name apos) [] [] cpos) (fBm tb fo faNil) := by
  refine ⟨fun σ H Q => ∃ π ρ M, RS X.K π H σ ρ ∧ RM X.prog X.w X.K X.mg π H M ∧ PostR X W (RV X.K) σ π H (fBm tb fo faNil ρ M) Q, ⟨fun pins s σ H Q I h => ?_⟩, fun σ H Q π ρ M hs hm hp => ⟨π, ρ, M, hs, hm, hp⟩⟩
  obtain ⟨π, ρ, M, hr, hm, hp⟩ := h
  obtain ⟨to, po, ro⟩ := ho.to
  have run : to σ H fun y H1 => ∃ T g, (∀ (pins : List (Addr × Obj)) (s : Shared) (u : Value), Inv X pins σ H1 s → RelV y u → s.TypeIs u T ∧ ∀ a, u = .ref a → ∃ ob, s.heap.get? a = some ob ∧ ob.dict = none) ∧ tb.lookup T = some g ∧ ∃ σ π M x xs, RV X.K π H1 x y ∧ RVs X.K π H1 xs [] ∧ RM X.prog X.w X.K X.mg π H1 M ∧ PostR X W (RV X.K) σ π H1 (g x xs M) Q := by
    refine ro.bind hr hm hp fun x M1 y H1 π1 e1 rx m1 hp1 => ?_
    split at hp1
    · rename_i g eg
      rw [Option.bind_eq_some_iff] at eg
      obtain ⟨T, e1', e2'⟩ := eg
      exact ⟨T, g, fun pins s u I ru => tyM_is I m1 e1' rx ru, e2', σ, π1, M1, x, [], rx, RVs.nil, m1, hp1⟩
    · exact hp1.elim
  refine wpAny_Call_method0_late hbase hline (thn (po.run pins s σ H _ I run) fun u s1 ⟨y, H1, I1, ry, T, g, ht, eg, q1⟩ => ?_)
  obtain ⟨h1, h2⟩ := ht pins s1 u I1 ry
  obtain ⟨id, pl, slot, hty, hmt⟩ := hb.at eg
  exact ⟨T, id, pl, slot, hty, h1, h2, Calls.callWith_builtin rfl (PySem.evalArgs_none (hmt pins s1 σ H1 y [] u [] Q I1 ry .nil q1))⟩
/-! list.append -/
def gAppend : GM := fun x xs M => match x, xs with
  | .ref n, [y] => match M[n]? with
    | some (.lst ys) => if small (ys.length + 1) = true then .ok .non (M.set n (.lst (ys ++ [y]))) else .stuck
    | _ => .stuck
  | _, _ => .stuck
theorem lst_at {n : Nat} {xs : List MV} {u : V} (hm : RM X.prog X.w X.K X.mg π H M) (e : M[n]? = some (.lst xs)) (r : RV X.K π H (.ref n) u) : ∃ a vs, u = .ref a ∧ π[n]? = some a ∧ H a = some (.lst vs) ∧ RVs X.K π H xs vs := by
  unfold RV at r
  obtain ⟨a, rfl, ha⟩ := r
  obtain ⟨vs, h1, h2⟩ := hm.at_ ha e
  exact ⟨a, vs, rfl, ha, h1, h2⟩
/-- a list is written: what stands behind it -/
theorem lst_write {n : Nat} {a : Addr} {xs xs' : List MV} {vs vs' : List V} (hm : RM X.prog X.w X.K X.mg π H M) (en : M[n]? = some (.lst xs)) (hn : π[n]? = some a) (ha : H a = some (.lst vs)) (r : RVs X.K π H xs' vs') :
    Ext π H π (upd H a (.lst vs')) ∧ RM X.prog X.w X.K X.mg π (upd H a (.lst vs')) (M.set n (.lst xs')) := by
  have e : Ext π H π (upd H a (.lst vs')) := Ext.write ha fun _ z => by cases z
  exact ⟨e, hm.write hn en rfl rfl ⟨_, upd_same, r.ext e⟩⟩
theorem rv_non {π : List Addr} {H : Hp} : RV X.K π H .non .non := by rw [RV_non]
theorem m_append : MtR X "list.append" (rGM X W gAppend) := by
  intro pins s σ H y vs u us Q I ry rs q
  obtain ⟨σ', π, M, x, xs, rx, rxs, hm, hp⟩ := q
  unfold gAppend at hp
  split at hp
  · rename_i n z
    split at hp
    · rename_i ys en
      split at hp
      · rename_i hz
        obtain ⟨a, ws, rfl, hn, ha, rw'⟩ := lst_at hm en rx
        obtain ⟨v, ws', rfl, r1, r2⟩ := rxs.uncons
        rw [r2.unnil] at rs
        obtain ⟨e, m'⟩ := lst_write hm en hn ha (RVs.append rw' (RVs.cons r1 RVs.nil))
        have := small_le hz
        have hl := rw'.length
        exact mt_append pins s σ H (.ref a) [v] u us Q I ry rs ⟨a, ws, v, rfl, rfl, ha, by omega, hp _ _ π e rv_non m'⟩
      · exact hp.elim
    · exact hp.elim
  · exact hp.elim
theorem b_append : BMs X W "append" [("list", gAppend)] := ⟨⟨_, PySem.F.plainAttrs_list, PySem.F.slot_list_append, PySem.F.type_list_append, m_append⟩, trivial⟩
end
end FL

namespace FL
open PySem PySem.Spec PyProof.Rows L2 SortT
/-! ### plain laws: parts of tuples, cuts, sorted lists -/
theorem ix0 {a : MV} {r : List MV} {M : MH} : gIxA (.tup (a :: r)) (.int 0) M = .ok a M := gIxA_tup (L2.atI_nat (j := 0) (show (a :: r)[0]? = some a from rfl))
theorem ix1 {a b : MV} {r : List MV} {M : MH} : gIxA (.tup (a :: b :: r)) (.int 1) M = .ok b M := gIxA_tup (L2.atI_nat (j := 1) (show (a :: b :: r)[1]? = some b from rfl))
theorem ix2 {a b c : MV} {r : List MV} {M : MH} : gIxA (.tup (a :: b :: c :: r)) (.int 2) M = .ok c M := gIxA_tup (L2.atI_nat (j := 2) (show (a :: b :: c :: r)[2]? = some c from rfl))
theorem ix3 {a b c d : MV} {r : List MV} {M : MH} : gIxA (.tup (a :: b :: c :: d :: r)) (.int 3) M = .ok d M := gIxA_tup (L2.atI_nat (j := 3) (show (a :: b :: c :: d :: r)[3]? = some d from rfl))
theorem ix4 {a b c d e : MV} {r : List MV} {M : MH} : gIxA (.tup (a :: b :: c :: d :: e :: r)) (.int 4) M = .ok e M := gIxA_tup (L2.atI_nat (j := 4) (show (a :: b :: c :: d :: e :: r)[4]? = some e from rfl))
theorem sl_tup {xs : List MV} {lo hi : Option Int} {M : MH} : gSl (.tup xs) lo hi M = .ok (.tup (cutM xs lo hi)) M := rfl
theorem len_tup {xs : List MV} {M : MH} : gLen [.tup xs] M = .ok (.int xs.length) M := rfl
theorem list_tup {xs : List MV} {M : MH} : gList [.tup xs] M = .ok (.ref M.length) (M ++ [.lst xs]) := rfl
theorem tuple_tup {xs : List MV} {M : MH} : gTuple [.tup xs] M = .ok (.tup xs) M := rfl
theorem add_tup {xs ys : List MV} {M : MH} (h : small (xs.length + ys.length) = true) : gAdd (.tup xs) (.tup ys) M = .ok (.tup (xs ++ ys)) M := by
  show (if small (xs.length + ys.length) = true then _ else _) = _
  rw [if_pos h]
theorem add_lst {n m : Nat} {xs ys : List MV} {M : MH} (h1 : M[n]? = some (.lst xs)) (h2 : M[m]? = some (.lst ys)) (h : xs.length + ys.length ≤ 16777216) : gAdd (.ref n) (.ref m) M = .ok (.ref M.length) (M ++ [.lst (xs ++ ys)]) := by
  unfold gAdd
  simp only [h1, h2]
  rw [if_pos (small_ok h)]
theorem max_ok {i j : Int} {M : MH} : gMax [.int i, .int j] M = .ok (.int (if j > i then j else i)) M := rfl
theorem min_ok {i j : Int} {M : MH} : gMin [.int i, .int j] M = .ok (.int (if j < i then j else i)) M := rfl
theorem ge_ok {i j : Int} {M : MH} : gGe (.int i) (.int j) M = .ok (.bl (decide (j ≤ i))) M := rfl
theorem lt_ok {i j : Int} {M : MH} : gLt (.int i) (.int j) M = .ok (.bl (decide (i < j))) M := rfl
theorem append_ok {n : Nat} {xs : List MV} {y : MV} {M : MH} (h : M[n]? = some (.lst xs)) (hl : xs.length + 1 ≤ 16777216) : gAppend (.ref n) [y] M = .ok .non (M.set n (.lst (xs ++ [y]))) := by
  unfold gAppend
  simp only [h]
  rw [if_pos (small_ok hl)]
theorem six {k n d : Nat} : HT.sIx n d (some (k : Int)) = min k n := by
  unfold HT.sIx
  simp only
  rw [if_neg (Int.not_lt.mpr (Int.natCast_nonneg k)), Int.toNat_natCast]
theorem six0 {n d : Nat} : HT.sIx n d none = d := rfl
theorem cut_from {α : Type} (xs : List α) (k : Nat) : cutM xs (some (k : Int)) none = xs.drop k := by
  unfold cutM
  rw [six, six0, List.take_of_length_le]
  · rcases Nat.le_total k xs.length with h | h
    · rw [Nat.min_eq_left h]
    · rw [Nat.min_eq_right h, List.drop_of_length_le h, List.drop_of_length_le (Nat.le_refl _)]
  · rw [List.length_drop]
    omega
theorem cut_to {α : Type} (xs : List α) (k : Nat) : cutM xs none (some (k : Int)) = xs.take k := by
  unfold cutM
  rw [six, six0, List.drop_zero, Nat.sub_zero]
  rcases Nat.le_total k xs.length with h | h
  · rw [Nat.min_eq_left h]
  · rw [Nat.min_eq_right h, List.take_of_length_le h, List.take_of_length_le (Nat.le_refl _)]
/-! sorted -/
theorem cmpVs_cons {x y : MV} {xs ys : List MV} (h : cmpV x y = true) (t : x = y → cmpVs xs ys = true) : cmpVs (x :: xs) (y :: ys) = true := by
  unfold cmpVs
  by_cases c : x = y
  · rw [if_pos c]
    exact t c
  · rw [if_neg c]
    exact h
theorem cmpVs_nil {ys : List MV} : cmpVs [] ys = true := by cases ys <;> rfl
theorem cmpVs_nil' {xs : List MV} : cmpVs xs [] = true := by cases xs <;> rfl
theorem cmp_ints : ∀ (xs ys : List Int), cmpVs (xs.map MV.int) (ys.map MV.int) = true
  | [], _ => cmpVs_nil
  | _ :: _, [] => cmpVs_nil'
  | x :: xs, y :: ys => cmpVs_cons rfl fun _ => cmp_ints xs ys
theorem cmp_strs : ∀ (xs ys : List Str), cmpVs (xs.map MV.str) (ys.map MV.str) = true
  | [], _ => cmpVs_nil
  | _ :: _, [] => cmpVs_nil'
  | x :: xs, y :: ys => cmpVs_cons rfl fun _ => cmp_strs xs ys
theorem toks_inj {n : Nat} {x y : MV} (hx : okV n x = true) (hy : okV n y = true) (hc : cmpV x y = true) (e : toks x = toks y) : x = y := by
  by_cases c : x = y
  · exact c
  exfalso
  have h := toks_ne n hx hy hc c [] [.inl 0]
  rw [e, lxt_pre] at h
  have h2 : lxt (toks y) (toks y) = false := lex_irrefl (O := itemOrd) _
  rw [h2] at h
  cases h
theorem ltV_irrefl (x : MV) : ltV x x = false := lex_irrefl (O := itemOrd) _
theorem ltV_trans {x y z : MV} (h1 : ltV x y = true) (h2 : ltV y z = true) : ltV x z = true := lex_trans (O := itemOrd) _ _ _ h1 h2
theorem ltV_total {n : Nat} {x y : MV} (hx : okV n x = true) (hy : okV n y = true) (hc : cmpV x y = true) (h : ltV y x = false) (hne : x ≠ y) : ltV x y = true := by
  cases h2 : ltV x y with
  | true => rfl
  | false => exact absurd (toks_inj hx hy hc (lex_total (O := itemOrd) _ _ h2 h)) hne
abbrev Strict (xs : List MV) : Prop := xs.Pairwise fun a b => ltV a b = true
theorem strict_eq : ∀ {xs ys : List MV}, Strict xs → Strict ys → (∀ z, z ∈ xs ↔ z ∈ ys) → xs = ys
  | [], [], _, _, _ => rfl
  | [], y :: ys, _, _, h => absurd ((h y).mpr List.mem_cons_self) (by simp)
  | x :: xs, [], _, _, h => absurd ((h x).mp List.mem_cons_self) (by simp)
  | x :: xs, y :: ys, h1, h2, h => by
    obtain ⟨a1, a2⟩ := List.pairwise_cons.mp h1
    obtain ⟨b1, b2⟩ := List.pairwise_cons.mp h2
    have e : x = y := by
      rcases List.mem_cons.mp ((h x).mp List.mem_cons_self) with e | m
      · exact e
      · rcases List.mem_cons.mp ((h y).mpr List.mem_cons_self) with e | m2
        · exact e.symm
        · have := ltV_trans (a1 y m2) (b1 x m)
          rw [ltV_irrefl] at this
          cases this
    subst e
    have no1 : ∀ z ∈ xs, z ≠ x := fun z hz e => by
      have := a1 z hz
      rw [e, ltV_irrefl] at this
      cases this
    have no2 : ∀ z ∈ ys, z ≠ x := fun z hz e => by
      have := b1 z hz
      rw [e, ltV_irrefl] at this
      cases this
    rw [strict_eq a2 b2 fun z => ⟨fun hz => ?_, fun hz => ?_⟩]
    · rcases List.mem_cons.mp ((h z).mp (List.mem_cons_of_mem _ hz)) with e | m
      · exact absurd e (no1 z hz)
      · exact m
    · rcases List.mem_cons.mp ((h z).mpr (List.mem_cons_of_mem _ hz)) with e | m
      · exact absurd e (no2 z hz)
      · exact m
theorem leV_total : PySem.W.TotalLe leV := PySem.W.sortLe_total (listOrd itemOrd) false toks
/-- sorted without doubles: each less than those behind it -/
theorem sort_strict {n : Nat} {xs : List MV} (ho : ∀ x ∈ xs, okV n x = true) (hc : ∀ x ∈ xs, ∀ y ∈ xs, cmpV x y = true) (hd : xs.Nodup) : Strict (xs.mergeSort leV) := by
  have p := PySem.W.sort_pairwise leV_total xs
  have nd : (xs.mergeSort leV).Nodup := (List.mergeSort_perm xs leV).nodup_iff.mpr hd
  have m : ∀ z ∈ xs.mergeSort leV, z ∈ xs := fun z hz => (List.mergeSort_perm xs leV).mem_iff.mp hz
  generalize xs.mergeSort leV = ys at p nd m
  induction ys with
  | nil => exact .nil
  | cons y ys ih =>
    obtain ⟨a1, a2⟩ := List.pairwise_cons.mp p
    obtain ⟨b1, b2⟩ := List.nodup_cons.mp nd
    refine List.pairwise_cons.mpr ⟨fun z hz => ?_, ih a2 b2 fun z hz => m z (List.mem_cons_of_mem _ hz)⟩
    have my := m y List.mem_cons_self
    have mz := m z (List.mem_cons_of_mem _ hz)
    refine ltV_total (ho y my) (ho z mz) (hc y my z mz) ?_ fun e => b1 (e ▸ hz)
    have := a1 z hz
    unfold leV at this
    simpa using this
/-- each once, the first of its like -/
def once : List MV → List MV
  | [] => []
  | x :: xs => x :: (once xs).filter (fun y => decide (y ≠ x))
theorem once_mem : ∀ {xs : List MV} {z : MV}, z ∈ once xs ↔ z ∈ xs
  | [], z => Iff.rfl
  | x :: xs, z => by
    unfold once
    rw [List.mem_cons, List.mem_cons, List.mem_filter, once_mem, decide_eq_true_eq]
    by_cases c : z = x <;> simp [c]
theorem once_nodup : ∀ xs : List MV, (once xs).Nodup
  | [] => .nil
  | x :: xs => by
    unfold once
    refine List.nodup_cons.mpr ⟨fun h => ?_, (once_nodup xs).filter _⟩
    have := (List.mem_filter.mp h).2
    simp at this
end FL

namespace FL
open PySem PySem.Spec PyProof.Rows L2 SortT
/-! ### loops, by an invariant -/
theorem upto_map (n : Nat) : upto 0 n = (List.range' 0 n).map fun k : Nat => MV.int (k : Int) := by
  unfold upto
  rw [List.range_eq_range']
  refine List.map_congr_left fun k _ => ?_
  simp
theorem range_src {a : FA} {ρ : Rho} {M M1 : MH} {n : Nat} (h : a ρ M = .ok [.int (n : Int)] M1) (hn : n ≤ 16777216) : fiRange1 a ρ M = .ok ⟨(List.range' 0 n).map fun k : Nat => MV.int (k : Int), fun _ => true⟩ M1 := by
  unfold fiRange1
  rw [h, bind_ok]
  show (if small62 (n : Int) = true then _ else _) = _
  rw [if_pos (by unfold small62; simp; omega), Int.toNat_natCast]
  congr 1
  congr 1
  exact upto_map n
/-- for i in range(n), to its end or left with a value -/
theorem for_range {a : FA} {i n : Nat} {body : FS} {ρ : Rho} {M M1 : MH} (I : Nat → Rho → MH → Prop) (R : RSt → Prop) (ha : a ρ M = .ok [.int (n : Int)] M1) (hn : n ≤ 16777216) (h0 : I 0 ρ M1)
    (hs : ∀ k, k < n → ∀ ρ M, I k ρ M → (∃ ρ2 M2, (body (ρ.set i (some (.int (k : Int)))) M = .next ρ2 M2 ∨ body (ρ.set i (some (.int (k : Int)))) M = .cnt ρ2 M2) ∧ I (k + 1) ρ2 M2) ∨ ∃ v M2, body (ρ.set i (some (.int (k : Int)))) M = .ret v M2 ∧ R (.ret v M2))
    (he : ∀ ρ M, I n ρ M → R (.next ρ M)) : R (sFor (fiRange1 a) (gtName i) body ρ M) := by
  unfold sFor
  rw [range_src ha hn, stm_ok]
  show R (if true = true then loopF (fun _ => true) (gtName i) body ((List.range' 0 n).map fun k : Nat => MV.int (k : Int)) ρ M1 else _)
  rw [if_pos rfl]
  refine loop_ret (fun xs ρ M => ∃ j, j ≤ n ∧ xs = (List.range' j (n - j)).map (fun k : Nat => MV.int (k : Int)) ∧ I j ρ M) R (fun x xs ρ M h => ?_) (fun ρ M h => ?_) _ ρ M1 ⟨0, Nat.zero_le _, rfl, h0⟩
  · obtain ⟨j, hj, hx, hI⟩ := h
    have hj2 : j < n := by
      rcases Nat.lt_or_ge j n with q | q
      · exact q
      · rw [show n - j = 0 by omega] at hx
        cases hx
    rw [show n - j = (n - (j + 1)) + 1 by omega, List.range'_succ, List.map_cons] at hx
    injection hx with hx1 hx2
    subst hx1
    refine ⟨_, rfl, ?_⟩
    rcases hs j hj2 ρ M hI with ⟨ρ2, M2, e, h2⟩ | ⟨v, M2, e, h2⟩
    · exact .inl ⟨ρ2, M2, e, rfl, j + 1, by omega, hx2, h2⟩
    · exact .inr (.inl ⟨v, M2, e, h2⟩)
  · obtain ⟨j, hj, hx, hI⟩ := h
    have : j = n := by
      rcases Nat.lt_or_ge j n with q | q
      · rw [show n - j = (n - (j + 1)) + 1 by omega, List.range'_succ] at hx
        cases hx
      · omega
    subst this
    exact he ρ M hI
/-- for i in a list, to its end or left with a value; the list is not touched -/
theorem for_list {f : FE} {i m : Nat} {body : FS} {ρ : Rho} {M M1 : MH} {all : List MV} (I : List MV → List MV → Rho → MH → Prop) (R : RSt → Prop) (hf : f ρ M = .ok (.ref m) M1) (hl : lstOf M1 (.ref m) = some all) (h0 : I [] all ρ M1)
    (hs : ∀ pre x xs, all = pre ++ x :: xs → ∀ ρ M, I pre (x :: xs) ρ M → (∃ ρ2 M2, (body (ρ.set i (some x)) M = .next ρ2 M2 ∨ body (ρ.set i (some x)) M = .cnt ρ2 M2) ∧ lstOf M2 (.ref m) = some all ∧ I (pre ++ [x]) xs ρ2 M2) ∨ ∃ v M2, body (ρ.set i (some x)) M = .ret v M2 ∧ R (.ret v M2))
    (he : ∀ ρ M, I all [] ρ M → R (.next ρ M)) : R (sFor (fiAny f) (gtName i) body ρ M) := by
  unfold sFor
  rw [fiAny_lst hf hl, stm_ok]
  show R (if chkL m all M1 = true then loopF (chkL m all) (gtName i) body all ρ M1 else _)
  rw [if_pos (chkL_at hl)]
  refine loop_ret (fun xs ρ M => ∃ pre, all = pre ++ xs ∧ I pre xs ρ M) R (fun x xs ρ M h => ?_) (fun ρ M h => ?_) _ ρ M1 ⟨[], rfl, h0⟩
  · obtain ⟨pre, hx, hI⟩ := h
    refine ⟨_, rfl, ?_⟩
    rcases hs pre x xs hx ρ M hI with ⟨ρ2, M2, e, c, h2⟩ | ⟨v, M2, e, h2⟩
    · exact .inl ⟨ρ2, M2, e, chkL_at c, pre ++ [x], by rw [hx]; simp, h2⟩
    · exact .inr (.inl ⟨v, M2, e, h2⟩)
  · obtain ⟨pre, hx, hI⟩ := h
    rw [List.append_nil] at hx
    subst hx
    exact he ρ M hI
/-- a comprehension over data -/
theorem comp_map {β : Type} {chk : MH → Bool} {g : FG} {tt : FT} {te : FE} {ρ : Rho} {M0 : MH} {enc out : β → MV} {p : β → Bool} : ∀ (ys : List β),
    (∀ y ∈ ys, ∃ ρ1, g (enc y) ρ = some ρ1 ∧ ∀ acc G, ∃ G1, tt ρ1 (M0 ++ (.lst acc :: G)) = .ok (p y) (M0 ++ (.lst acc :: (G ++ G1))) ∧ (p y = true → ∃ G2, te ρ1 (M0 ++ (.lst acc :: (G ++ G1))) = .ok (out y) (M0 ++ (.lst acc :: (G ++ G2))))) →
    (∀ acc G, chk (M0 ++ (.lst acc :: G)) = true) → ∀ acc G, ys.length + acc.length ≤ 16777216 →
    ∃ G', compF chk g tt te M0.length ρ (ys.map enc) (M0 ++ (.lst acc :: G)) = .ok (.ref M0.length) (M0 ++ (.lst (acc ++ (ys.filter p).map out) :: (G ++ G')))
  | [], _, _, acc, G, _ => ⟨[], by simp [compF]⟩
  | y :: ys, h, hc, acc, G, hl => by
    obtain ⟨ρ1, e1, h1⟩ := h y List.mem_cons_self
    obtain ⟨G1, e2, h2⟩ := h1 acc G
    have hl' : ys.length + 1 + acc.length ≤ 16777216 := hl
    rw [List.map_cons]
    cases hp : p y with
    | false =>
      rw [hp] at e2
      obtain ⟨G', e3⟩ := comp_map ys (fun z hz => h z (List.mem_cons_of_mem _ hz)) hc acc (G ++ G1) (by omega)
      refine ⟨G1 ++ G', ?_⟩
      simp only [compF, e1, e2, hc, if_true]
      rw [e3, List.filter_cons, if_neg (by rw [hp]; exact Bool.false_ne_true), List.append_assoc]
    | true =>
      rw [hp] at e2
      obtain ⟨G2, e4⟩ := h2 hp
      obtain ⟨G', e3⟩ := comp_map ys (fun z hz => h z (List.mem_cons_of_mem _ hz)) hc (acc ++ [out y]) (G ++ G2) (by simp; omega)
      refine ⟨G2 ++ G', ?_⟩
      have g0 : (M0 ++ (MO.lst acc :: (G ++ G2)))[M0.length]? = some (.lst acc) := h_get0
      have s0 : (M0 ++ (MO.lst acc :: (G ++ G2))).set M0.length (.lst (acc ++ [out y])) = M0 ++ (.lst (acc ++ [out y]) :: (G ++ G2)) := h_set0
      have hs : small (acc.length + 1) = true := small_ok (by omega)
      simp only [compF, e1, e2, e4, g0, s0, hc, hs, Bool.and_self, if_true]
      rw [e3, List.filter_cons, if_pos hp, List.map_cons, List.append_assoc, List.append_assoc]
      rfl
theorem lc_map {β : Type} {vs : List Nat} {fi : FI} {g : FG} {tt : FT} {te : FE} {ρ : Rho} {M M0 : MH} {chk : MH → Bool} {ys : List β} {enc : β → MV} (out : β → MV) (p : β → Bool) (hi : fi ρ M = .ok ⟨ys.map enc, chk⟩ M0)
    (h : ∀ y ∈ ys, ∃ ρ1, g (enc y) (wipeR ρ vs) = some ρ1 ∧ ∀ acc G, ∃ G1, tt ρ1 (M0 ++ (.lst acc :: G)) = .ok (p y) (M0 ++ (.lst acc :: (G ++ G1))) ∧ (p y = true → ∃ G2, te ρ1 (M0 ++ (.lst acc :: (G ++ G1))) = .ok (out y) (M0 ++ (.lst acc :: (G ++ G2)))))
    (hc : ∀ acc G, chk (M0 ++ (.lst acc :: G)) = true) (hl : ys.length ≤ 16777216) :
    ∃ G', fLc vs fi g tt te ρ M = .ok (.ref M0.length) (M0 ++ (.lst ((ys.filter p).map out) :: G')) := by
  obtain ⟨G', e⟩ := comp_map (chk := chk) (g := g) (tt := tt) (te := te) (ρ := wipeR ρ vs) (M0 := M0) (p := p) (out := out) (enc := enc) ys h hc [] [] (by simpa using hl)
  refine ⟨G', ?_⟩
  unfold fLc
  rw [hi, bind_ok]
  show (if chk (M0 ++ [.lst []]) = true then compF chk g tt te M0.length (wipeR ρ vs) (ys.map enc) (M0 ++ [.lst []]) else .stuck) = _
  rw [if_pos (hc [] []), e]
  rfl
/-- without a test -/
theorem lc_all {β : Type} {vs : List Nat} {fi : FI} {g : FG} {te : FE} {ρ : Rho} {M M0 : MH} {chk : MH → Bool} {ys : List β} {enc : β → MV} (out : β → MV) (hi : fi ρ M = .ok ⟨ys.map enc, chk⟩ M0)
    (h : ∀ y ∈ ys, ∃ ρ1, g (enc y) (wipeR ρ vs) = some ρ1 ∧ ∀ acc G, ∃ G2, te ρ1 (M0 ++ (.lst acc :: G)) = .ok (out y) (M0 ++ (.lst acc :: (G ++ G2))))
    (hc : ∀ acc G, chk (M0 ++ (.lst acc :: G)) = true) (hl : ys.length ≤ 16777216) :
    ∃ G', fLc vs fi g ftYes te ρ M = .ok (.ref M0.length) (M0 ++ (.lst (ys.map out) :: G')) := by
  obtain ⟨G', e⟩ := lc_map (tt := ftYes) (te := te) out (fun _ => true) hi (fun y hy => by
    obtain ⟨ρ1, e1, e2⟩ := h y hy
    refine ⟨ρ1, e1, fun acc G => ⟨[], by rw [List.append_nil]; rfl, fun _ => ?_⟩⟩
    rw [List.append_nil]
    exact e2 acc G) hc hl
  rw [List.filter_eq_self.mpr fun _ _ => rfl] at e
  exact ⟨G', e⟩
end FL

namespace FL
open PySem PySem.Spec PyProof.Rows L2 SortT
/-! ### keys in order, sorted lists without doubles -/
def addK (ks : List MV) (k : MV) : List MV := if k ∈ ks then ks else ks ++ [k]
def onceF (xs : List MV) : List MV := xs.foldl addK []
theorem addK_mem {ks : List MV} {k z : MV} : z ∈ addK ks k ↔ z ∈ ks ∨ z = k := by
  unfold addK
  split
  · rename_i h
    constructor
    · exact .inl
    · rintro (h2 | rfl)
      · exact h2
      · exact h
  · rw [List.mem_append, List.mem_singleton]
theorem addK_nodup {ks : List MV} {k : MV} (h : ks.Nodup) : (addK ks k).Nodup := by
  unfold addK
  split
  · exact h
  · rename_i hk
    rw [List.nodup_append]
    refine ⟨h, by simp, fun a ha b hb => ?_⟩
    rw [List.mem_singleton] at hb
    subst hb
    intro e
    exact hk (e ▸ ha)
theorem onceF_snoc (xs : List MV) (x : MV) : onceF (xs ++ [x]) = addK (onceF xs) x := by
  unfold onceF
  rw [List.foldl_append]
  rfl
theorem fold_mem : ∀ (xs ks : List MV) (z : MV), z ∈ xs.foldl addK ks ↔ z ∈ ks ∨ z ∈ xs
  | [], ks, z => by simp
  | x :: xs, ks, z => by
    rw [List.foldl_cons, fold_mem xs, addK_mem, List.mem_cons]
    constructor
    · rintro ((h | h) | h)
      · exact .inl h
      · exact .inr (.inl h)
      · exact .inr (.inr h)
    · rintro (h | h | h)
      · exact .inl (.inl h)
      · exact .inl (.inr h)
      · exact .inr h
theorem onceF_mem {xs : List MV} {z : MV} : z ∈ onceF xs ↔ z ∈ xs := by
  unfold onceF
  rw [fold_mem]
  simp
theorem fold_nodup : ∀ (xs ks : List MV), ks.Nodup → (xs.foldl addK ks).Nodup
  | [], _, h => h
  | _ :: xs, _, h => fold_nodup xs _ (addK_nodup h)
theorem onceF_nodup (xs : List MV) : (onceF xs).Nodup := fold_nodup xs [] .nil
theorem addK_len (ks : List MV) (k : MV) : (addK ks k).length ≤ ks.length + 1 := by
  unfold addK
  split
  · omega
  · rw [List.length_append, List.length_singleton]
    omega
theorem fold_len : ∀ (xs ks : List MV), (xs.foldl addK ks).length ≤ ks.length + xs.length
  | [], _ => by simp
  | x :: xs, ks => by
    have h1 := fold_len xs (addK ks x)
    have h2 := addK_len ks x
    rw [List.foldl_cons, List.length_cons]
    omega
theorem onceF_len (xs : List MV) : (onceF xs).length ≤ xs.length := by
  have := fold_len xs []
  unfold onceF
  simpa using this
theorem dGet_keys (kvs : List (MV × MV)) (k : MV) : (dGet kvs k).isSome = decide (k ∈ kvs.map (·.1)) := by
  induction kvs with
  | nil => simp [dGet]
  | cons p kvs ih =>
    obtain ⟨j, x⟩ := p
    by_cases c : j = k
    · rw [dGet_pos c]
      simp [c]
    · rw [dGet_neg c, ih]
      have c2 : ¬ k = j := fun e => c e.symm
      simp [c2]
theorem dPut_map (kvs : List (MV × MV)) (k x : MV) : (dPut kvs k x).map (·.1) = addK (kvs.map (·.1)) k := by
  have h : (kvs.any fun kv => decide (kv.1 = k)) = decide (k ∈ kvs.map (·.1)) := by
    rw [← dGet_keys, dGet, Option.isSome_map, List.isSome_find?]
  unfold dPut addK
  by_cases c : k ∈ kvs.map (·.1)
  · rw [decide_eq_true c] at h
    rw [if_pos h, if_pos c, List.map_map]
    refine List.map_congr_left fun p _ => ?_
    simp only [Function.comp]
    split
    · rename_i e
      simpa using e.symm
    · rfl
  · rw [decide_eq_false c] at h
    rw [if_neg (by rw [h]; exact Bool.false_ne_true), if_neg c, List.map_append]
    rfl
/-- the last one differs, or there is none -/
def addL (told : List MV) (y : MV) : List MV := if told.getLast? = some y then told else told ++ [y]
theorem addL_strict {n : Nat} {all : List MV} (ho : ∀ x ∈ all, okV n x = true) (hc : ∀ x ∈ all, ∀ y ∈ all, cmpV x y = true) : ∀ (ys pre told : List MV), (∀ z ∈ pre ++ ys, z ∈ all) → (pre ++ ys).Pairwise (fun a b => leV a b = true) → Strict told → (∀ z, z ∈ told ↔ z ∈ pre) → Strict (ys.foldl addL told) ∧ ∀ z, z ∈ ys.foldl addL told ↔ z ∈ pre ++ ys
  | [], pre, told, _, _, h1, h2 => ⟨h1, by simpa using h2⟩
  | y :: ys, pre, told, ha, hp, h1, h2 => by
    have my : y ∈ all := ha y (by simp)
    have lt_of : ∀ z ∈ told, z ≠ y → ltV z y = true := fun z hz hne => by
      have mz := (h2 z).mp hz
      have le : leV z y = true := by
        rw [List.pairwise_append] at hp
        exact hp.2.2 z mz y List.mem_cons_self
      unfold leV at le
      exact ltV_total (ho z (ha z (by simp [mz]))) (ho y my) (hc z (ha z (by simp [mz])) y my) (by simpa using le) hne
    have key : Strict (addL told y) ∧ ∀ z, z ∈ addL told y ↔ z ∈ pre ++ [y] := by
      unfold addL
      split
      · rename_i e
        have mt : y ∈ told := List.mem_of_getLast? e
        refine ⟨h1, fun z => ?_⟩
        rw [h2 z, List.mem_append, List.mem_singleton]
        constructor
        · exact .inl
        · rintro (h | rfl)
          · exact h
          · exact (h2 z).mp mt
      · rename_i e
        refine ⟨?_, fun z => by rw [List.mem_append, List.mem_append, h2 z]⟩
        rw [Strict, List.pairwise_append]
        refine ⟨h1, by simp, fun z hz b hb => ?_⟩
        rw [List.mem_singleton] at hb
        subst hb
        cases hl : told.getLast? with
        | none =>
          rw [List.getLast?_eq_none_iff] at hl
          subst hl
          cases hz
        | some l =>
          have ml := List.mem_of_getLast? hl
          have hne : l ≠ b := fun c => e (by rw [hl, c])
          have l1 := lt_of l ml hne
          obtain ⟨init, hi⟩ : ∃ init, told = init ++ [l] := by
            obtain ⟨i, hi⟩ := List.getLast?_eq_some_iff.mp hl
            exact ⟨i, hi⟩
          rw [hi, List.mem_append, List.mem_singleton] at hz
          rcases hz with hz | rfl
          · rw [hi, Strict, List.pairwise_append] at h1
            exact ltV_trans (h1.2.2 z hz l List.mem_cons_self) l1
          · exact l1
    have := addL_strict ho hc ys (pre ++ [y]) (addL told y) (by simpa using ha) (by simpa using hp) key.1 key.2
    rw [List.foldl_cons]
    simpa using this
/-- two roads to the one list -/
theorem adj_once {n : Nat} {xs : List MV} (ho : ∀ x ∈ xs, okV n x = true) (hc : ∀ x ∈ xs, ∀ y ∈ xs, cmpV x y = true) : (xs.mergeSort leV).foldl addL [] = (onceF xs).mergeSort leV := by
  have m1 : ∀ z, z ∈ xs.mergeSort leV ↔ z ∈ xs := fun z => (List.mergeSort_perm xs leV).mem_iff
  obtain ⟨s1, s2⟩ := addL_strict ho hc (xs.mergeSort leV) [] [] (fun z hz => (m1 z).mp (by simpa using hz)) (by simpa using PySem.W.sort_pairwise leV_total xs) .nil (fun z => Iff.rfl)
  refine strict_eq s1 (sort_strict (n := n) (fun x hx => ho x (onceF_mem.mp hx)) (fun x hx y hy => hc x (onceF_mem.mp hx) y (onceF_mem.mp hy)) (onceF_nodup xs)) fun z => ?_
  rw [s2 z, List.nil_append, m1 z, (List.mergeSort_perm (onceF xs) leV).mem_iff, onceF_mem]
theorem sorted_lst {M : MH} {f : Nat} {xs : List MV} (h : lstOf M (.ref f) = some xs) (hs : srtOk xs = true) : gSorted [.ref f] M = .ok (.ref M.length) (M ++ [.lst (xs.mergeSort leV)]) := by
  have e : keysM M (.ref f) = some xs := by
    unfold keysM
    rcases lst_cases h with q | q <;> simp only [q, h]
  unfold gSorted
  simp only [e, hs, if_true]
theorem sorted_dct {M : MH} {f : Nat} {kvs : List (MV × MV)} (h : M[f]? = some (.dct kvs)) (hk : keysOk kvs = true) (hs : srtOk (kvs.map (·.1)) = true) : gSorted [.ref f] M = .ok (.ref M.length) (M ++ [.lst ((kvs.map (·.1)).mergeSort leV)]) := by
  have e : keysM M (.ref f) = some (kvs.map (·.1)) := by
    unfold keysM
    simp only [h, hk, if_true]
  unfold gSorted
  simp only [e, hs, if_true]
theorem srt_ok {xs : List MV} (ho : ∀ x ∈ xs, okV 20 x = true) (hc : ∀ x ∈ xs, ∀ y ∈ xs, cmpV x y = true) (hh : ∀ x ∈ xs, headIs "str" x = true) (hl : xs.length ≤ 16777216) : srtOk xs = true := by
  unfold srtOk srtShape
  rw [Bool.and_eq_true, Bool.and_eq_true, Bool.and_eq_true]
  exact ⟨⟨List.all_eq_true.mpr ho, List.all_eq_true.mpr fun x hx => List.all_eq_true.mpr fun y hy => hc x hx y hy⟩, by rw [List.all_eq_true.mpr hh]; simp, decide_eq_true hl⟩
end FL

set_option maxHeartbeats 0
namespace G
open PySem PySem.Spec PyProof.Rows L2 FL
def top (i : Nat) : Stmt := PySem.Challenge.pw_pointsure_k30_facts_cut.main.body.getD i (.Pass ⟨0, 0, 0, 0⟩)
structure Tx (K : PySem.W.Frag) (mg : Str → Option Value) : Prop where
  one : True
  z_tuple : mg "tuple" = none
  z_max : mg "max" = none
  z_len : mg "len" = none
  z_list : mg "list" = none
  z_sorted : mg "sorted" = none
  z_range : mg "range" = none
  z_all : mg "all" = none
  z_isinstance : mg "isinstance" = none
  z_min : mg "min" = none
abbrev s_cut : Stmt := top 1
theorem sc_cut : FnScope ["calls", "fineness"] ["calls", "fineness"] (defScope s_cut) := ⟨rfl, rfl, rfl, by decide +kernel, rfl, by decide +kernel, by decide +kernel⟩
def B_cut : FS := (sRet (fFn gTuple (faCons (fSl (fVar 0) (foSome (fFn gMax (faCons (fC (.int 0)) (faCons (fOp gSub (fFn gLen (faCons (fVar 0) faNil)) (fVar 1)) faNil)))) foNone) faNil)))
def F_cut : FN := FL.fnOf 2 B_cut
theorem ok_cut {P : Program} {w : World} {K : PySem.W.Frag} {mg : Str → Option Value} {base : Heap} (T : Tx K mg)  (D : ∃ fd, FunD K "cut" "cut" (defArgs s_cut) (defBody s_cut) (defScope s_cut) [] [] (He.ga K "cut") fd) (g : mg "cut" = some (.ref (He.ga K "cut"))) : CalF P w K mg base 1 "cut" 2 F_cut :=
  cal_mk D g sc_cut (fun _ _ _ _ _ _ us hl => match us, hl with | [_, _], _ => rfl) (body := B_cut) fun cdv A outer s H E hr =>
  (fb_one (fs_ret (fx_callT call_tuple_of o_tuple rfl T.z_tuple b_tuple (fa_cons (fx_sl (fx_var (pv 0)) (fo_some (fx_callB (call_max2 rfl) o_max rfl T.z_max b_max (fa_cons fx_int (fa_cons (fx_op op_sub o_sub (fx_callB call_len o_len rfl T.z_len b_len (fa_cons (fx_var (pv 0)) fa_nil)) (fx_var (pv 1))) fa_nil)))) fo_none) fa_nil))))
abbrev s_cut_part : Stmt := top 3
theorem sc_cut_part : FnScope ["part", "fineness"] ["part", "fineness"] (defScope s_cut_part) := ⟨rfl, rfl, rfl, by decide +kernel, rfl, by decide +kernel, by decide +kernel⟩
def B_cut_part : FS := (sRet (fOp gAdd (fOp gAdd (fSl (fVar 0) foNone (foSome (fC (.int 2)))) (fTup (faCons (fFn (arity 2 F_cut) (faCons (fOp gIxA (fVar 0) (fC (.int 2))) (faCons (fVar 1) faNil))) faNil))) (fSl (fVar 0) (foSome (fC (.int 3))) foNone)))
def F_cut_part : FN := FL.fnOf 2 B_cut_part
theorem ok_cut_part {P : Program} {w : World} {K : PySem.W.Frag} {mg : Str → Option Value} {base : Heap} (T : Tx K mg) (c_cut : CalF P w K mg base 1 "cut" 2 F_cut) (D : ∃ fd, FunD K "cut_part" "cut_part" (defArgs s_cut_part) (defBody s_cut_part) (defScope s_cut_part) [] [] (He.ga K "cut_part") fd) (g : mg "cut_part" = some (.ref (He.ga K "cut_part"))) : CalF P w K mg base 2 "cut_part" 2 F_cut_part :=
  cal_mk D g sc_cut_part (fun _ _ _ _ _ _ us hl => match us, hl with | [_, _], _ => rfl) (body := B_cut_part) fun cdv A outer s H E hr =>
  (fb_one (fs_ret (fx_op op_addA o_add (fx_op op_addA o_add (fx_sl (fx_var (pv 0)) fo_none (fo_some fx_int)) (fx_tup (fa_cons (fx_call c_cut hr (by decide) rfl (takes_of rfl rfl rfl rfl) (fa_cons (fx_ixA (hu100 hr) (fx_var (pv 0)) fx_int (fun _ _ => rfl)) (fa_cons (fx_var (pv 1)) fa_nil))) fa_nil))) (fx_sl (fx_var (pv 0)) (fo_some fx_int) fo_none))))
abbrev s_cut_fact : Stmt := top 4
theorem sc_cut_fact : FnScope ["fact", "fineness", "thing"] ["fact", "fineness"] (defScope s_cut_fact) := ⟨rfl, rfl, rfl, by decide +kernel, rfl, by decide +kernel, by decide +kernel⟩
def B_cut_fact : FS := (sSeq (sIf (asB (fOp gEq (fOp gIxA (fVar 0) (fC (.int 0))) (fC (.str "holds")))) (sSeq (sAsg (fOp gIxA (fVar 0) (fC (.int 2))) (gtName 2))
  (sRet (fTup (faCons (fC (.str "holds")) (faCons (fFn (arity 2 F_cut_part) (faCons (fOp gIxA (fVar 0) (fC (.int 1))) (faCons (fVar 1) faNil))) (faCons (fTup (faCons (fOp gIxA (fVar 2) (fC (.int 0))) (faCons (fFn (arity 2 F_cut) (faCons (fOp gIxA (fVar 2) (fC (.int 1))) (faCons (fVar 1) faNil))) faNil))) faNil)))))) sNext)
  (sSeq (sIf (asB (fOp gEq (fOp gIxA (fVar 0) (fC (.int 0))) (fC (.str "goes")))) (sRet (fOp gAdd (fSl (fFn (arity 2 F_cut_part) (faCons (fVar 0) (faCons (fVar 1) faNil))) foNone (foSome (fC (.int 4)))) (fTup (faCons (fFn (arity 2 F_cut) (faCons (fOp gIxA (fVar 0) (fC (.int 4))) (faCons (fVar 1) faNil))) faNil)))) sNext)
  (sRet (fFn (arity 2 F_cut_part) (faCons (fVar 0) (faCons (fVar 1) faNil))))))
def F_cut_fact : FN := FL.fnOf 3 B_cut_fact
theorem ok_cut_fact {P : Program} {w : World} {K : PySem.W.Frag} {mg : Str → Option Value} {base : Heap} (T : Tx K mg) (c_cut_part : CalF P w K mg base 2 "cut_part" 2 F_cut_part) (c_cut : CalF P w K mg base 1 "cut" 2 F_cut) (D : ∃ fd, FunD K "cut_fact" "cut_fact" (defArgs s_cut_fact) (defBody s_cut_fact) (defScope s_cut_fact) [] [] (He.ga K "cut_fact") fd) (g : mg "cut_fact" = some (.ref (He.ga K "cut_fact"))) : CalF P w K mg base 3 "cut_fact" 2 F_cut_fact :=
  cal_mk D g sc_cut_fact (fun _ _ _ _ _ _ us hl => match us, hl with | [_, _], _ => rfl) (body := B_cut_fact) fun cdv A outer s H E hr =>
  (fb_cons (fs_if (ft_cmp (op_eqA hr.units) o_eq (fx_ixA (hu100 hr) (fx_var (pv 0)) fx_int (fun _ _ => rfl)) fx_str (nomark _)) (fb_cons (fs_set (i := 2) sc_cut_fact.nd rfl (by first | exact .inl rfl | exact .inr rfl) (fx_ixA (hu100 hr) (fx_var (pv 0)) fx_int (fun _ _ => rfl)))
  (fb_one (fs_ret (fx_tup (fa_cons fx_str (fa_cons (fx_call c_cut_part hr (by decide) rfl (takes_of rfl rfl rfl rfl) (fa_cons (fx_ixA (hu100 hr) (fx_var (pv 0)) fx_int (fun _ _ => rfl)) (fa_cons (fx_var (pv 1)) fa_nil))) (fa_cons (fx_tup (fa_cons (fx_ixA (hu100 hr) (fx_var (pv 2)) fx_int (fun _ _ => rfl)) (fa_cons (fx_call c_cut hr (by decide) rfl (takes_of rfl rfl rfl rfl) (fa_cons (fx_ixA (hu100 hr) (fx_var (pv 2)) fx_int (fun _ _ => rfl)) (fa_cons (fx_var (pv 1)) fa_nil))) fa_nil))) fa_nil))))))) fb_nil)
  (fb_cons (fs_if (ft_cmp (op_eqA hr.units) o_eq (fx_ixA (hu100 hr) (fx_var (pv 0)) fx_int (fun _ _ => rfl)) fx_str (nomark _)) (fb_one (fs_ret (fx_op op_addA o_add (fx_sl (fx_call c_cut_part hr (by decide) rfl (takes_of rfl rfl rfl rfl) (fa_cons (fx_var (pv 0)) (fa_cons (fx_var (pv 1)) fa_nil))) fo_none (fo_some fx_int)) (fx_tup (fa_cons (fx_call c_cut hr (by decide) rfl (takes_of rfl rfl rfl rfl) (fa_cons (fx_ixA (hu100 hr) (fx_var (pv 0)) fx_int (fun _ _ => rfl)) (fa_cons (fx_var (pv 1)) fa_nil))) fa_nil))))) fb_nil)
  (fb_one (fs_ret (fx_call c_cut_part hr (by decide) rfl (takes_of rfl rfl rfl rfl) (fa_cons (fx_var (pv 0)) (fa_cons (fx_var (pv 1)) fa_nil)))))))
abbrev s_leads : Stmt := top 6
theorem sc_leads : FnScope ["facts", "others", "fineness", "there", "fact"] ["facts", "others", "fineness"] (defScope s_leads) := ⟨rfl, rfl, rfl, by decide +kernel, rfl, by decide +kernel, by decide +kernel⟩
def B_leads : FS := (sSeq (sAsg fDct (gtName 3))
  (sSeq (sFor (fiAny (fVar 1)) (gtName 4) (sPut (fVar 3) (fVar 4) (fC (.bl true))))
  (sSeq (sFor (fiAny (fVar 0)) (gtName 4) (sIf (asB (fOp gNotIn (fFn (arity 2 F_cut_fact) (faCons (fVar 4) (faCons (fVar 2) faNil))) (fVar 3))) (sRet (fC (.bl false))) sNext))
  (sRet (fC (.bl true))))))
def F_leads : FN := FL.fnOf 5 B_leads
theorem ok_leads {P : Program} {w : World} {K : PySem.W.Frag} {mg : Str → Option Value} {base : Heap} (T : Tx K mg) (c_cut_fact : CalF P w K mg base 3 "cut_fact" 2 F_cut_fact) (D : ∃ fd, FunD K "leads" "leads" (defArgs s_leads) (defBody s_leads) (defScope s_leads) [] [] (He.ga K "leads") fd) (g : mg "leads" = some (.ref (He.ga K "leads"))) : CalF P w K mg base 4 "leads" 3 F_leads :=
  cal_mk D g sc_leads (fun _ _ _ _ _ _ us hl => match us, hl with | [_, _, _], _ => rfl) (body := B_leads) fun cdv A outer s H E hr =>
  (fb_cons (fs_set (i := 3) sc_leads.nd rfl (by first | exact .inl rfl | exact .inr rfl) fx_dct)
  (fb_cons (fs_for (passes_of rfl) rfl (fi_any (fx_var (pv 1))) (fg_name (i := 4) sc_leads.nd rfl (by first | exact .inl rfl | exact .inr rfl)) (fb_one (fs_put (hu100 hr) (fx_var (pv 3)) (fx_var (pv 4)) fx_bl rfl)))
  (fb_cons (fs_for (passes_of rfl) rfl (fi_any (fx_var (pv 0))) (fg_name (i := 4) sc_leads.nd rfl (by first | exact .inl rfl | exact .inr rfl)) (fb_one (fs_if (ft_cmp (op_notInA (hu100 hr)) o_g (fx_call c_cut_fact hr (by decide) rfl (takes_of rfl rfl rfl rfl) (fa_cons (fx_var (pv 4)) (fa_cons (fx_var (pv 2)) fa_nil))) (fx_var (pv 3)) rfl) (fb_one (fs_ret fx_bl)) fb_nil)))
  (fb_one (fs_ret fx_bl)))))
abbrev s_law_last : Stmt := top 12
theorem sc_law_last : FnScope ["_law_calls_here", "_law_many"] ["_law_calls_here", "_law_many"] (defScope s_law_last) := ⟨rfl, rfl, rfl, by decide +kernel, rfl, by decide +kernel, by decide +kernel⟩
def B_law_last : FS := (sSeq (sIf (asB (fOp gGe (fVar 1) (fFn gLen (faCons (fVar 0) faNil)))) (sRet (fVar 0)) sNext)
  (sRet (fSl (fVar 0) (foSome (fOp gSub (fFn gLen (faCons (fVar 0) faNil)) (fVar 1))) foNone)))
def F_law_last : FN := FL.fnOf 2 B_law_last
theorem ok_law_last {P : Program} {w : World} {K : PySem.W.Frag} {mg : Str → Option Value} {base : Heap} (T : Tx K mg)  (D : ∃ fd, FunD K "_law_last" "_law_last" (defArgs s_law_last) (defBody s_law_last) (defScope s_law_last) [] [] (He.ga K "_law_last") fd) (g : mg "_law_last" = some (.ref (He.ga K "_law_last"))) : CalF P w K mg base 1 "_law_last" 2 F_law_last :=
  cal_mk D g sc_law_last (fun _ _ _ _ _ _ us hl => match us, hl with | [_, _], _ => rfl) (body := B_law_last) fun cdv A outer s H E hr =>
  (fb_cons (fs_if (ft_cmp op_ge o_ge (fx_var (pv 1)) (fx_callB call_len o_len rfl T.z_len b_len (fa_cons (fx_var (pv 0)) fa_nil)) (nomark _)) (fb_one (fs_ret (fx_var (pv 0)))) fb_nil)
  (fb_one (fs_ret (fx_sl (fx_var (pv 0)) (fo_some (fx_op op_sub o_sub (fx_callB call_len o_len rfl T.z_len b_len (fa_cons (fx_var (pv 0)) fa_nil)) (fx_var (pv 1)))) fo_none))))
abbrev s_law_due : Stmt := top 13
theorem sc_law_due : FnScope ["_law_fact_here", "_law_many", "_law_name_here", "_law_short"] ["_law_fact_here", "_law_many"] (defScope s_law_due) := ⟨rfl, rfl, rfl, by decide +kernel, rfl, by decide +kernel, by decide +kernel⟩
def B_law_due : FS := (sSeq (sIf (asB (fOp gEq (fOp gIxA (fVar 0) (fC (.int 0))) (fC (.str "reach")))) (sRet (fTup (faCons (fC (.str "reach")) (faCons (fOp gIxA (fVar 0) (fC (.int 1))) (faCons (fFn (arity 2 F_law_last) (faCons (fOp gIxA (fVar 0) (fC (.int 2))) (faCons (fVar 1) faNil))) faNil))))) sNext)
  (sSeq (sIf (asB (fOp gEq (fOp gIxA (fVar 0) (fC (.int 0))) (fC (.str "goes")))) (sRet (fTup (faCons (fC (.str "goes")) (faCons (fOp gIxA (fVar 0) (fC (.int 1))) (faCons (fFn (arity 2 F_law_last) (faCons (fOp gIxA (fVar 0) (fC (.int 2))) (faCons (fVar 1) faNil))) (faCons (fOp gIxA (fVar 0) (fC (.int 3))) (faCons (fFn (arity 2 F_law_last) (faCons (fOp gIxA (fVar 0) (fC (.int 4))) (faCons (fVar 1) faNil))) faNil))))))) sNext)
  (sSeq (sAsg (fOp gIxA (fVar 0) (fC (.int 1))) (gtName 2))
  (sSeq (sAsg (fFn gTuple (faCons (fOp gAdd (fLst (faCons (fOp gIxA (fVar 2) (fC (.int 0))) (faCons (fOp gIxA (fVar 2) (fC (.int 1))) (faCons (fFn (arity 2 F_law_last) (faCons (fOp gIxA (fVar 2) (fC (.int 2))) (faCons (fVar 1) faNil))) faNil)))) (fFn gList (faCons (fSl (fVar 2) (foSome (fC (.int 3))) foNone) faNil))) faNil)) (gtName 3))
  (sRet (fTup (faCons (fC (.str "holds")) (faCons (fVar 3) (faCons (fTup (faCons (fOp gIxA (fOp gIxA (fVar 0) (fC (.int 2))) (fC (.int 0))) (faCons (fFn (arity 2 F_law_last) (faCons (fOp gIxA (fOp gIxA (fVar 0) (fC (.int 2))) (fC (.int 1))) (faCons (fVar 1) faNil))) faNil))) faNil)))))))))
def F_law_due : FN := FL.fnOf 4 B_law_due
theorem ok_law_due {P : Program} {w : World} {K : PySem.W.Frag} {mg : Str → Option Value} {base : Heap} (T : Tx K mg) (c_law_last : CalF P w K mg base 1 "_law_last" 2 F_law_last) (D : ∃ fd, FunD K "_law_due" "_law_due" (defArgs s_law_due) (defBody s_law_due) (defScope s_law_due) [] [] (He.ga K "_law_due") fd) (g : mg "_law_due" = some (.ref (He.ga K "_law_due"))) : CalF P w K mg base 2 "_law_due" 2 F_law_due :=
  cal_mk D g sc_law_due (fun _ _ _ _ _ _ us hl => match us, hl with | [_, _], _ => rfl) (body := B_law_due) fun cdv A outer s H E hr =>
  (fb_cons (fs_if (ft_cmp (op_eqA hr.units) o_eq (fx_ixA (hu100 hr) (fx_var (pv 0)) fx_int (fun _ _ => rfl)) fx_str (nomark _)) (fb_one (fs_ret (fx_tup (fa_cons fx_str (fa_cons (fx_ixA (hu100 hr) (fx_var (pv 0)) fx_int (fun _ _ => rfl)) (fa_cons (fx_call c_law_last hr (by decide) rfl (takes_of rfl rfl rfl rfl) (fa_cons (fx_ixA (hu100 hr) (fx_var (pv 0)) fx_int (fun _ _ => rfl)) (fa_cons (fx_var (pv 1)) fa_nil))) fa_nil)))))) fb_nil)
  (fb_cons (fs_if (ft_cmp (op_eqA hr.units) o_eq (fx_ixA (hu100 hr) (fx_var (pv 0)) fx_int (fun _ _ => rfl)) fx_str (nomark _)) (fb_one (fs_ret (fx_tup (fa_cons fx_str (fa_cons (fx_ixA (hu100 hr) (fx_var (pv 0)) fx_int (fun _ _ => rfl)) (fa_cons (fx_call c_law_last hr (by decide) rfl (takes_of rfl rfl rfl rfl) (fa_cons (fx_ixA (hu100 hr) (fx_var (pv 0)) fx_int (fun _ _ => rfl)) (fa_cons (fx_var (pv 1)) fa_nil))) (fa_cons (fx_ixA (hu100 hr) (fx_var (pv 0)) fx_int (fun _ _ => rfl)) (fa_cons (fx_call c_law_last hr (by decide) rfl (takes_of rfl rfl rfl rfl) (fa_cons (fx_ixA (hu100 hr) (fx_var (pv 0)) fx_int (fun _ _ => rfl)) (fa_cons (fx_var (pv 1)) fa_nil))) fa_nil)))))))) fb_nil)
  (fb_cons (fs_set (i := 2) sc_law_due.nd rfl (by first | exact .inl rfl | exact .inr rfl) (fx_ixA (hu100 hr) (fx_var (pv 0)) fx_int (fun _ _ => rfl)))
  (fb_cons (fs_set (i := 3) sc_law_due.nd rfl (by first | exact .inl rfl | exact .inr rfl) (fx_callT call_tuple_of o_tuple rfl T.z_tuple b_tuple (fa_cons (fx_op op_addA o_add (fx_lst (fa_cons (fx_ixA (hu100 hr) (fx_var (pv 2)) fx_int (fun _ _ => rfl)) (fa_cons (fx_ixA (hu100 hr) (fx_var (pv 2)) fx_int (fun _ _ => rfl)) (fa_cons (fx_call c_law_last hr (by decide) rfl (takes_of rfl rfl rfl rfl) (fa_cons (fx_ixA (hu100 hr) (fx_var (pv 2)) fx_int (fun _ _ => rfl)) (fa_cons (fx_var (pv 1)) fa_nil))) fa_nil)))) (fx_callT call_list_of o_list rfl T.z_list b_list (fa_cons (fx_sl (fx_var (pv 2)) (fo_some fx_int) fo_none) fa_nil))) fa_nil)))
  (fb_one (fs_ret (fx_tup (fa_cons fx_str (fa_cons (fx_var (pv 3)) (fa_cons (fx_tup (fa_cons (fx_ixA (hu100 hr) (fx_ixA (hu100 hr) (fx_var (pv 0)) fx_int (fun _ _ => rfl)) fx_int (fun _ _ => rfl)) (fa_cons (fx_call c_law_last hr (by decide) rfl (takes_of rfl rfl rfl rfl) (fa_cons (fx_ixA (hu100 hr) (fx_ixA (hu100 hr) (fx_var (pv 0)) fx_int (fun _ _ => rfl)) fx_int (fun _ _ => rfl)) (fa_cons (fx_var (pv 1)) fa_nil))) fa_nil))) fa_nil))))))))))
abbrev s_law_cell_at : Stmt := top 8
theorem sc_law_cell_at : FnScope ["_law_script", "_law_k"] ["_law_script", "_law_k"] (defScope s_law_cell_at) := ⟨rfl, rfl, rfl, by decide +kernel, rfl, by decide +kernel, by decide +kernel⟩
def B_law_cell_at : FS := (sSeq (sIf (asB (fOp gLt (fVar 1) (fFn gLen (faCons (fVar 0) faNil)))) (sRet (fOp gIxA (fVar 0) (fVar 1))) sNext)
  (sRet (fC (.int 0))))
def F_law_cell_at : FN := FL.fnOf 2 B_law_cell_at
theorem ok_law_cell_at {P : Program} {w : World} {K : PySem.W.Frag} {mg : Str → Option Value} {base : Heap} (T : Tx K mg)  (D : ∃ fd, FunD K "_law_cell_at" "_law_cell_at" (defArgs s_law_cell_at) (defBody s_law_cell_at) (defScope s_law_cell_at) [] [] (He.ga K "_law_cell_at") fd) (g : mg "_law_cell_at" = some (.ref (He.ga K "_law_cell_at"))) : CalF P w K mg base 1 "_law_cell_at" 2 F_law_cell_at :=
  cal_mk D g sc_law_cell_at (fun _ _ _ _ _ _ us hl => match us, hl with | [_, _], _ => rfl) (body := B_law_cell_at) fun cdv A outer s H E hr =>
  (fb_cons (fs_if (ft_cmp op_lt o_lt (fx_var (pv 1)) (fx_callB call_len o_len rfl T.z_len b_len (fa_cons (fx_var (pv 0)) fa_nil)) (nomark _)) (fb_one (fs_ret (fx_ixA (hu100 hr) (fx_var (pv 0)) (fx_var (pv 1)) (fun _ _ => rfl)))) fb_nil)
  (fb_one (fs_ret fx_int)))
abbrev s_cut_facts : Stmt := top 5
theorem sc_cut_facts : FnScope ["facts", "fineness", "known", "fact"] ["facts", "fineness"] (defScope s_cut_facts) := ⟨rfl, rfl, rfl, by decide +kernel, rfl, by decide +kernel, by decide +kernel⟩
def B_cut_facts : FS := (sSeq (sAsg fDct (gtName 2))
  (sSeq (sFor (fiAny (fVar 0)) (gtName 3) (sPut (fVar 2) (fFn (arity 2 F_cut_fact) (faCons (fVar 3) (faCons (fVar 1) faNil))) (fC (.bl true))))
  (sRet (fFn gSorted (faCons (fVar 2) faNil)))))
def F_cut_facts : FN := FL.fnOf 4 B_cut_facts
theorem ok_cut_facts {P : Program} {w : World} {K : PySem.W.Frag} {mg : Str → Option Value} {base : Heap} (T : Tx K mg) (c_cut_fact : CalF P w K mg base 3 "cut_fact" 2 F_cut_fact) (D : ∃ fd, FunD K "cut_facts" "cut_facts" (defArgs s_cut_facts) (defBody s_cut_facts) (defScope s_cut_facts) [] [] (He.ga K "cut_facts") fd) (g : mg "cut_facts" = some (.ref (He.ga K "cut_facts"))) : CalF P w K mg base 4 "cut_facts" 2 F_cut_facts :=
  cal_mk D g sc_cut_facts (fun _ _ _ _ _ _ us hl => match us, hl with | [_, _], _ => rfl) (body := B_cut_facts) fun cdv A outer s H E hr =>
  (fb_cons (fs_set (i := 2) sc_cut_facts.nd rfl (by first | exact .inl rfl | exact .inr rfl) fx_dct)
  (fb_cons (fs_for (passes_of rfl) rfl (fi_any (fx_var (pv 0))) (fg_name (i := 3) sc_cut_facts.nd rfl (by first | exact .inl rfl | exact .inr rfl)) (fb_one (fs_put (hu100 hr) (fx_var (pv 2)) (fx_call c_cut_fact hr (by decide) rfl (takes_of rfl rfl rfl rfl) (fa_cons (fx_var (pv 3)) (fa_cons (fx_var (pv 1)) fa_nil))) fx_bl rfl)))
  (fb_one (fs_ret (fx_callB (call_sortA rfl (hu100 hr)) o_gn rfl T.z_sorted b_sorted (fa_cons (fx_var (pv 2)) fa_nil))))))
abbrev s_law_once : Stmt := top 14
theorem sc_law_once : FnScope ["_law_facts", "_law_told", "_law_fact_here"] ["_law_facts"] (defScope s_law_once) := ⟨rfl, rfl, rfl, by decide +kernel, rfl, by decide +kernel, by decide +kernel⟩
def B_law_once : FS := (sSeq (sAsg (fLst faNil) (gtName 1))
  (sSeq (sFor (fiAny (fFn gSorted (faCons (fVar 0) faNil))) (gtName 2) (sIf (ftOr (asB (fOp gEq (fVar 1) (fLst faNil))) (asB (fOp gNe (fOp gIxA (fVar 1) (fOp gSub (fFn gLen (faCons (fVar 1) faNil)) (fC (.int 1)))) (fVar 2)))) (sDrop (fBm [("list", gAppend)] (fVar 1) (faCons (fVar 2) faNil))) sNext))
  (sRet (fVar 1))))
def F_law_once : FN := FL.fnOf 3 B_law_once
theorem ok_law_once {P : Program} {w : World} {K : PySem.W.Frag} {mg : Str → Option Value} {base : Heap} (T : Tx K mg)  (D : ∃ fd, FunD K "_law_once" "_law_once" (defArgs s_law_once) (defBody s_law_once) (defScope s_law_once) [] [] (He.ga K "_law_once") fd) (g : mg "_law_once" = some (.ref (He.ga K "_law_once"))) : CalF P w K mg base 1 "_law_once" 1 F_law_once :=
  cal_mk D g sc_law_once (fun _ _ _ _ _ _ us hl => match us, hl with | [_], _ => rfl) (body := B_law_once) fun cdv A outer s H E hr =>
  (fb_cons (fs_set (i := 1) sc_law_once.nd rfl (by first | exact .inl rfl | exact .inr rfl) (fx_lst fa_nil))
  (fb_cons (fs_for (passes_of rfl) rfl (fi_any (fx_callB (call_sortA rfl (hu100 hr)) o_gn rfl T.z_sorted b_sorted (fa_cons (fx_var (pv 0)) fa_nil))) (fg_name (i := 2) sc_law_once.nd rfl (by first | exact .inl rfl | exact .inr rfl)) (fb_one (fs_if (FXW.t (fw_or (ft_cmp (op_eqA hr.units) o_eq (fx_var (pv 1)) (fx_lst fa_nil) (nomark _)) (fw_or1 (ft_cmp (op_neA hr.units) o_ne (fx_ixA (hu100 hr) (fx_var (pv 1)) (fx_op op_sub o_sub (fx_callB call_len o_len rfl T.z_len b_len (fa_cons (fx_var (pv 1)) fa_nil)) fx_int) (fun _ _ => rfl)) (fx_var (pv 2)) (nomark _))))) (fb_one (fs_expr (fx_bm b_append (fx_var (pv 1)) (fa_cons (fx_var (pv 2)) fa_nil)))) fb_nil)))
  (fb_one (fs_ret (fx_var (pv 1))))))
abbrev s_law_calls : Stmt := top 9
theorem sc_law_calls : FnScope ["_law_cell", "_law_calls_here", "_law_k"] ["_law_cell"] (defScope s_law_calls) := ⟨rfl, rfl, rfl, by decide +kernel, rfl, by decide +kernel, by decide +kernel⟩
def B_law_calls : FS := (sSeq (sAsg (fLst faNil) (gtName 1))
  (sSeq (sFor (fiRange1 (faCons (fOp gMod (fVar 0) (fC (.int 5))) faNil)) (gtName 2) (sSeq (sAsg (fOp gFdiv (fVar 0) (fC (.int 5))) (gtName 0))
  (sDrop (fBm [("list", gAppend)] (fVar 1) (faCons (fOp gMod (fOp gAdd (fOp gMul (fVar 0) (fC (.int 48271))) (fOp gMul (fC (.int 7)) (fVar 2))) (fOp gPow (fC (.int 10)) (fC (.int 9)))) faNil)))))
  (sRet (fFn gTuple (faCons (fVar 1) faNil)))))
def F_law_calls : FN := FL.fnOf 3 B_law_calls
theorem ok_law_calls {P : Program} {w : World} {K : PySem.W.Frag} {mg : Str → Option Value} {base : Heap} (T : Tx K mg)  (D : ∃ fd, FunD K "_law_calls" "_law_calls" (defArgs s_law_calls) (defBody s_law_calls) (defScope s_law_calls) [] [] (He.ga K "_law_calls") fd) (g : mg "_law_calls" = some (.ref (He.ga K "_law_calls"))) : CalF P w K mg base 1 "_law_calls" 1 F_law_calls :=
  cal_mk D g sc_law_calls (fun _ _ _ _ _ _ us hl => match us, hl with | [_], _ => rfl) (body := B_law_calls) fun cdv A outer s H E hr =>
  (fb_cons (fs_set (i := 1) sc_law_calls.nd rfl (by first | exact .inl rfl | exact .inr rfl) (fx_lst fa_nil))
  (fb_cons (fs_for (passes_of rfl) rfl (fi_range1 rfl T.z_range (fa_cons (fx_op op_mod o_mod (fx_var (pv 0)) fx_int) fa_nil)) (fg_name (i := 2) sc_law_calls.nd rfl (by first | exact .inl rfl | exact .inr rfl)) (fb_cons (fs_set (i := 0) sc_law_calls.nd rfl (by first | exact .inl rfl | exact .inr rfl) (fx_op op_fdivW o_fdiv (fx_var (pv 0)) fx_int))
  (fb_one (fs_expr (fx_bm b_append (fx_var (pv 1)) (fa_cons (fx_op op_mod o_mod (fx_op op_addA o_add (fx_op op_mulB o_mul (fx_var (pv 0)) fx_int) (fx_op op_mulB o_mul fx_int (fx_var (pv 2)))) (fx_op op_pow o_pow fx_int fx_int)) fa_nil))))))
  (fb_one (fs_ret (fx_callT call_tuple_of o_tuple rfl T.z_tuple b_tuple (fa_cons (fx_var (pv 1)) fa_nil))))))
abbrev s_law_name : Stmt := top 10
theorem sc_law_name : FnScope ["_law_cell", "_law_calls_here", "_law_row"] ["_law_cell"] (defScope s_law_name) := ⟨rfl, rfl, rfl, by decide +kernel, rfl, by decide +kernel, by decide +kernel⟩
def B_law_name : FS := (sSeq (sAsg (fFn (arity 1 F_law_calls) (faCons (fOp gFdiv (fVar 0) (fC (.int 6))) faNil)) (gtName 1))
  (sSeq (sAsg (fOp gMod (fOp gFdiv (fVar 0) (fC (.int 30))) (fOp gPow (fC (.int 10)) (fC (.int 9)))) (gtName 2))
  (sSeq (sIf (asB (fOp gEq (fOp gMod (fVar 0) (fC (.int 6))) (fC (.int 0)))) (sRet (fTup (faCons (fC (.str "local")) (faCons (fOp gIxA (fLst (faCons (fC (.str "main")) (faCons (fC (.str "fa")) (faCons (fC (.str "ka.m")) faNil)))) (fOp gMod (fOp gFdiv (fVar 0) (fC (.int 6))) (fC (.int 3)))) (faCons (fVar 1) (faCons (fOp gIxA (fLst (faCons (fC (.str "x")) (faCons (fC (.str "self")) (faCons (fC (.str "w.f")) faNil)))) (fOp gMod (fOp gFdiv (fVar 0) (fC (.int 18))) (fC (.int 3)))) faNil)))))) sNext)
  (sSeq (sIf (asB (fOp gEq (fOp gMod (fVar 0) (fC (.int 6))) (fC (.int 1)))) (sRet (fTup (faCons (fC (.str "given")) (faCons (fOp gIxA (fLst (faCons (fC (.str "main")) (faCons (fC (.str "fa")) (faCons (fC (.str "ka.m")) faNil)))) (fOp gMod (fOp gFdiv (fVar 0) (fC (.int 6))) (fC (.int 3)))) (faCons (fVar 1) faNil))))) sNext)
  (sSeq (sIf (asB (fOp gEq (fOp gMod (fVar 0) (fC (.int 6))) (fC (.int 2)))) (sRet (fTup (faCons (fC (.str "each")) (faCons (fVar 2) (faCons (fVar 1) faNil))))) sNext)
  (sRet (fOp gIxA (fLst (faCons (fTup (faCons (fC (.str "field")) (faCons (fVar 2) (faCons (fVar 1) (faCons (fC (.str "f")) faNil))))) (faCons (fTup (faCons (fC (.str "kept")) (faCons (fVar 2) (faCons (fVar 1) (faCons (fC (.str "k")) faNil))))) (faCons (fTup (faCons (fC (.str "local")) (faCons (fC (.str "fb")) (faCons (fVar 1) (faCons (fC (.str "y")) faNil))))) faNil)))) (fOp gMod (fVar 0) (fC (.int 3))))))))))
def F_law_name : FN := FL.fnOf 3 B_law_name
theorem ok_law_name {P : Program} {w : World} {K : PySem.W.Frag} {mg : Str → Option Value} {base : Heap} (T : Tx K mg) (c_law_calls : CalF P w K mg base 1 "_law_calls" 1 F_law_calls) (D : ∃ fd, FunD K "_law_name" "_law_name" (defArgs s_law_name) (defBody s_law_name) (defScope s_law_name) [] [] (He.ga K "_law_name") fd) (g : mg "_law_name" = some (.ref (He.ga K "_law_name"))) : CalF P w K mg base 2 "_law_name" 1 F_law_name :=
  cal_mk D g sc_law_name (fun _ _ _ _ _ _ us hl => match us, hl with | [_], _ => rfl) (body := B_law_name) fun cdv A outer s H E hr =>
  (fb_cons (fs_set (i := 1) sc_law_name.nd rfl (by first | exact .inl rfl | exact .inr rfl) (fx_call c_law_calls hr (by decide) rfl (takes_of rfl rfl rfl rfl) (fa_cons (fx_op op_fdivW o_fdiv (fx_var (pv 0)) fx_int) fa_nil)))
  (fb_cons (fs_set (i := 2) sc_law_name.nd rfl (by first | exact .inl rfl | exact .inr rfl) (fx_op op_mod o_mod (fx_op op_fdivW o_fdiv (fx_var (pv 0)) fx_int) (fx_op op_pow o_pow fx_int fx_int)))
  (fb_cons (fs_if (ft_cmp (op_eqA hr.units) o_eq (fx_op op_mod o_mod (fx_var (pv 0)) fx_int) fx_int (nomark _)) (fb_one (fs_ret (fx_tup (fa_cons fx_str (fa_cons (fx_ixA (hu100 hr) (fx_lst (fa_cons fx_str (fa_cons fx_str (fa_cons fx_str fa_nil)))) (fx_op op_mod o_mod (fx_op op_fdivW o_fdiv (fx_var (pv 0)) fx_int) fx_int) (fun _ _ => rfl)) (fa_cons (fx_var (pv 1)) (fa_cons (fx_ixA (hu100 hr) (fx_lst (fa_cons fx_str (fa_cons fx_str (fa_cons fx_str fa_nil)))) (fx_op op_mod o_mod (fx_op op_fdivW o_fdiv (fx_var (pv 0)) fx_int) fx_int) (fun _ _ => rfl)) fa_nil))))))) fb_nil)
  (fb_cons (fs_if (ft_cmp (op_eqA hr.units) o_eq (fx_op op_mod o_mod (fx_var (pv 0)) fx_int) fx_int (nomark _)) (fb_one (fs_ret (fx_tup (fa_cons fx_str (fa_cons (fx_ixA (hu100 hr) (fx_lst (fa_cons fx_str (fa_cons fx_str (fa_cons fx_str fa_nil)))) (fx_op op_mod o_mod (fx_op op_fdivW o_fdiv (fx_var (pv 0)) fx_int) fx_int) (fun _ _ => rfl)) (fa_cons (fx_var (pv 1)) fa_nil)))))) fb_nil)
  (fb_cons (fs_if (ft_cmp (op_eqA hr.units) o_eq (fx_op op_mod o_mod (fx_var (pv 0)) fx_int) fx_int (nomark _)) (fb_one (fs_ret (fx_tup (fa_cons fx_str (fa_cons (fx_var (pv 2)) (fa_cons (fx_var (pv 1)) fa_nil)))))) fb_nil)
  (fb_one (fs_ret (fx_ixA (hu100 hr) (fx_lst (fa_cons (fx_tup (fa_cons fx_str (fa_cons (fx_var (pv 2)) (fa_cons (fx_var (pv 1)) (fa_cons fx_str fa_nil))))) (fa_cons (fx_tup (fa_cons fx_str (fa_cons (fx_var (pv 2)) (fa_cons (fx_var (pv 1)) (fa_cons fx_str fa_nil))))) (fa_cons (fx_tup (fa_cons fx_str (fa_cons fx_str (fa_cons (fx_var (pv 1)) (fa_cons fx_str fa_nil))))) fa_nil)))) (fx_op op_mod o_mod (fx_var (pv 0)) fx_int) (fun _ _ => rfl)))))))))
abbrev s_law_fact : Stmt := top 11
theorem sc_law_fact : FnScope ["_law_cell"] ["_law_cell"] (defScope s_law_fact) := ⟨rfl, rfl, rfl, by decide +kernel, rfl, by decide +kernel, by decide +kernel⟩
def B_law_fact : FS := (sSeq (sIf (asB (fOp gEq (fOp gMod (fVar 0) (fC (.int 4))) (fC (.int 0)))) (sRet (fTup (faCons (fC (.str "reach")) (faCons (fOp gIxA (fLst (faCons (fC (.str "main")) (faCons (fC (.str "fa")) (faCons (fC (.str "ka.m")) faNil)))) (fOp gMod (fOp gFdiv (fVar 0) (fC (.int 4))) (fC (.int 3)))) (faCons (fFn (arity 1 F_law_calls) (faCons (fOp gFdiv (fVar 0) (fC (.int 12))) faNil)) faNil))))) sNext)
  (sSeq (sIf (asB (fOp gEq (fOp gMod (fVar 0) (fC (.int 4))) (fC (.int 1)))) (sRet (fTup (faCons (fC (.str "goes")) (faCons (fOp gMod (fOp gFdiv (fVar 0) (fC (.int 4))) (fOp gPow (fC (.int 10)) (fC (.int 9)))) (faCons (fFn (arity 1 F_law_calls) (faCons (fOp gFdiv (fVar 0) (fC (.int 5))) faNil)) (faCons (fC (.str "fb")) (faCons (fFn (arity 1 F_law_calls) (faCons (fOp gAdd (fOp gFdiv (fVar 0) (fC (.int 7))) (fC (.int 1))) faNil)) faNil))))))) sNext)
  (sRet (fTup (faCons (fC (.str "holds")) (faCons (fFn (arity 1 F_law_name) (faCons (fOp gFdiv (fVar 0) (fC (.int 4))) faNil)) (faCons (fTup (faCons (fOp gMod (fOp gFdiv (fVar 0) (fC (.int 9))) (fOp gPow (fC (.int 10)) (fC (.int 9)))) (faCons (fFn (arity 1 F_law_calls) (faCons (fOp gAdd (fOp gFdiv (fVar 0) (fC (.int 11))) (fC (.int 3))) faNil)) faNil))) faNil)))))))
def F_law_fact : FN := FL.fnOf 1 B_law_fact
theorem ok_law_fact {P : Program} {w : World} {K : PySem.W.Frag} {mg : Str → Option Value} {base : Heap} (T : Tx K mg) (c_law_calls : CalF P w K mg base 1 "_law_calls" 1 F_law_calls) (c_law_name : CalF P w K mg base 2 "_law_name" 1 F_law_name) (D : ∃ fd, FunD K "_law_fact" "_law_fact" (defArgs s_law_fact) (defBody s_law_fact) (defScope s_law_fact) [] [] (He.ga K "_law_fact") fd) (g : mg "_law_fact" = some (.ref (He.ga K "_law_fact"))) : CalF P w K mg base 3 "_law_fact" 1 F_law_fact :=
  cal_mk D g sc_law_fact (fun _ _ _ _ _ _ us hl => match us, hl with | [_], _ => rfl) (body := B_law_fact) fun cdv A outer s H E hr =>
  (fb_cons (fs_if (ft_cmp (op_eqA hr.units) o_eq (fx_op op_mod o_mod (fx_var (pv 0)) fx_int) fx_int (nomark _)) (fb_one (fs_ret (fx_tup (fa_cons fx_str (fa_cons (fx_ixA (hu100 hr) (fx_lst (fa_cons fx_str (fa_cons fx_str (fa_cons fx_str fa_nil)))) (fx_op op_mod o_mod (fx_op op_fdivW o_fdiv (fx_var (pv 0)) fx_int) fx_int) (fun _ _ => rfl)) (fa_cons (fx_call c_law_calls hr (by decide) rfl (takes_of rfl rfl rfl rfl) (fa_cons (fx_op op_fdivW o_fdiv (fx_var (pv 0)) fx_int) fa_nil)) fa_nil)))))) fb_nil)
  (fb_cons (fs_if (ft_cmp (op_eqA hr.units) o_eq (fx_op op_mod o_mod (fx_var (pv 0)) fx_int) fx_int (nomark _)) (fb_one (fs_ret (fx_tup (fa_cons fx_str (fa_cons (fx_op op_mod o_mod (fx_op op_fdivW o_fdiv (fx_var (pv 0)) fx_int) (fx_op op_pow o_pow fx_int fx_int)) (fa_cons (fx_call c_law_calls hr (by decide) rfl (takes_of rfl rfl rfl rfl) (fa_cons (fx_op op_fdivW o_fdiv (fx_var (pv 0)) fx_int) fa_nil)) (fa_cons fx_str (fa_cons (fx_call c_law_calls hr (by decide) rfl (takes_of rfl rfl rfl rfl) (fa_cons (fx_op op_addA o_add (fx_op op_fdivW o_fdiv (fx_var (pv 0)) fx_int) fx_int) fa_nil)) fa_nil)))))))) fb_nil)
  (fb_one (fs_ret (fx_tup (fa_cons fx_str (fa_cons (fx_call c_law_name hr (by decide) rfl (takes_of rfl rfl rfl rfl) (fa_cons (fx_op op_fdivW o_fdiv (fx_var (pv 0)) fx_int) fa_nil)) (fa_cons (fx_tup (fa_cons (fx_op op_mod o_mod (fx_op op_fdivW o_fdiv (fx_var (pv 0)) fx_int) (fx_op op_pow o_pow fx_int fx_int)) (fa_cons (fx_call c_law_calls hr (by decide) rfl (takes_of rfl rfl rfl rfl) (fa_cons (fx_op op_addA o_add (fx_op op_fdivW o_fdiv (fx_var (pv 0)) fx_int) fx_int) fa_nil)) fa_nil))) fa_nil))))))))
abbrev s_law : Stmt := top 15
theorem sc_law : FnScope ["_law_script", "_law_many", "_law_fewer", "_law_facts", "_law_handed", "_law_fact_here", "_law_due_here", "_law_told", "_law_at", "_law_found", "_law_cell"] ["_law_script"] (defScope s_law) := ⟨rfl, rfl, rfl, by decide +kernel, rfl, by decide +kernel, by decide +kernel⟩
def B_law : FS := (sSeq (sAsg (fOp gMod (fFn (arity 2 F_law_cell_at) (faCons (fVar 0) (faCons (fC (.int 0)) faNil))) (fC (.int 4))) (gtName 1))
  (sSeq (sAsg (fOp gMod (fOp gFdiv (fFn (arity 2 F_law_cell_at) (faCons (fVar 0) (faCons (fC (.int 0)) faNil))) (fC (.int 4))) (fC (.int 4))) (gtName 2))
  (sSeq (sAsg (fLc [10] (fiAny (fOp gAdd (fSl (fVar 0) (foSome (fC (.int 1))) foNone) (fSl (fVar 0) foNone (foSome (fC (.int 1)))))) (gtName 10) ftYes (fFn (arity 1 F_law_fact) (faCons (fVar 10) faNil))) (gtName 3))
  (sSeq (sAsg (fFn gList (faCons (fVar 3) faNil)) (gtName 4))
  (sSeq (sFor (fiAny (fVar 3)) (gtName 5) (sSeq (sAsg (fFn (arity 2 F_cut_fact) (faCons (fVar 5) (faCons (fVar 1) faNil))) (gtName 9))
  (sSeq (sIf (ftOr (ftNot (asB (fIsi "tuple" (fVar 9)))) (asB (fOp gNe (fVar 9) (fFn (arity 2 F_law_due) (faCons (fVar 5) (faCons (fVar 1) faNil)))))) (sRet (fC (.bl false))) sNext)
  (sIf (asB (fOp gNe (fFn (arity 2 F_cut_fact) (faCons (fVar 9) (faCons (fFn gMin (faCons (fVar 1) (faCons (fVar 2) faNil))) faNil))) (fFn (arity 2 F_law_due) (faCons (fVar 5) (faCons (fFn gMin (faCons (fVar 1) (faCons (fVar 2) faNil))) faNil))))) (sRet (fC (.bl false))) sNext))))
  (sSeq (sAsg (fFn (arity 1 F_law_once) (faCons (fLc [5] (fiAny (fVar 3)) (gtName 5) ftYes (fFn (arity 2 F_law_due) (faCons (fVar 5) (faCons (fVar 1) faNil)))) faNil)) (gtName 6))
  (sSeq (sAsg (fFn (arity 2 F_cut_facts) (faCons (fVar 4) (faCons (fVar 1) faNil))) (gtName 7))
  (sSeq (sIf (ftOr (ftNot (asB (fIsi "list" (fVar 7)))) (ftOr (asB (fOp gNe (fVar 7) (fVar 6))) (asB (fOp gNe (fVar 4) (fVar 3))))) (sRet (fC (.bl false))) sNext)
  (sSeq (sAsg (fOp gMod (fOp gFdiv (fFn (arity 2 F_law_cell_at) (faCons (fVar 0) (faCons (fC (.int 0)) faNil))) (fC (.int 16))) (fFn gMax (faCons (fC (.int 1)) (faCons (fFn gLen (faCons (fVar 6) faNil)) faNil)))) (gtName 8))
  (sSeq (sIf (ftOr (asB (fOp gNotN (fFn (arity 3 F_leads) (faCons (fVar 3) (faCons (fVar 6) (faCons (fVar 1) faNil)))) (fC (.bl true)))) (asB (fOp gNotN (fFn (arity 3 F_leads) (faCons (fLst faNil) (faCons (fLst faNil) (faCons (fVar 1) faNil)))) (fC (.bl true))))) (sRet (fC (.bl false))) sNext)
  (sSeq (sIf (asB (fOp gNotN (fFn (arity 3 F_leads) (faCons (fVar 3) (faCons (fOp gAdd (fOp gAdd (fRev (fVar 6)) (fSl (fVar 6) foNone (foSome (fC (.int 1))))) (fVar 4)) (faCons (fVar 1) faNil)))) (fC (.bl true)))) (sRet (fC (.bl false))) sNext)
  (sSeq (sIf (asB (fOp gNe (fFn (arity 3 F_leads) (faCons (fVar 3) (faCons (fVar 3) (faCons (fVar 1) faNil)))) (fFn gAll (faCons (fLc [5] (fiAny (fVar 3)) (gtName 5) ftYes (fOp gIn (fFn (arity 2 F_law_due) (faCons (fVar 5) (faCons (fVar 1) faNil))) (fVar 3))) faNil)))) (sRet (fC (.bl false))) sNext)
  (sRet (fOp gEq (fFn (arity 3 F_leads) (faCons (fVar 3) (faCons (fOp gAdd (fSl (fVar 6) foNone (foSome (fVar 8))) (fSl (fVar 6) (foSome (fOp gAdd (fVar 8) (fC (.int 1)))) foNone)) (faCons (fVar 1) faNil)))) (fOp gEq (fVar 6) (fLst faNil))))))))))))))))
def F_law : FN := FL.fnOf 11 B_law
theorem ok_law {P : Program} {w : World} {K : PySem.W.Frag} {mg : Str → Option Value} (T : Tx K mg) (X : ∀ base : Heap, CalF P w K mg base 4 "leads" 3 F_leads ∧ CalF P w K mg base 2 "_law_due" 2 F_law_due ∧ CalF P w K mg base 1 "_law_cell_at" 2 F_law_cell_at ∧ CalF P w K mg base 4 "cut_facts" 2 F_cut_facts ∧ CalF P w K mg base 1 "_law_once" 1 F_law_once ∧ CalF P w K mg base 3 "cut_fact" 2 F_cut_fact ∧ CalF P w K mg base 3 "_law_fact" 1 F_law_fact ∧ True) (D : ∃ fd, FunD K "law" "law" (defArgs s_law) (defBody s_law) (defScope s_law) [] [] (He.ga K "law") fd) :
    ∃ fd : FuncData, (∀ (s : Shared) (v : Value), BindsTo s fd ⟨[v], []⟩ [("_law_script", v)]) ∧ ∀ base : Heap, FnOk P w K mg base (L2.CX P w) 5 (He.ga K "law") fd ["_law_script"] (spF P w K mg 1 F_law) :=
  law_mk D sc_law (fun _ _ _ _ _ _ us hl => match us, hl with | [_], _ => rfl) (body := B_law) fun base cdv A outer s H E hr => by
  obtain ⟨c_leads, c_law_due, c_law_cell_at, c_cut_facts, c_law_once, c_cut_fact, c_law_fact, _⟩ := X base
  exact (fb_cons (fs_set (i := 1) sc_law.nd rfl (by first | exact .inl rfl | exact .inr rfl) (fx_op op_mod o_mod (fx_call c_law_cell_at hr (by decide) rfl (takes_of rfl rfl rfl rfl) (fa_cons (fx_var (pv 0)) (fa_cons fx_int fa_nil))) fx_int))
  (fb_cons (fs_set (i := 2) sc_law.nd rfl (by first | exact .inl rfl | exact .inr rfl) (fx_op op_mod o_mod (fx_op op_fdivW o_fdiv (fx_call c_law_cell_at hr (by decide) rfl (takes_of rfl rfl rfl rfl) (fa_cons (fx_var (pv 0)) (fa_cons fx_int fa_nil))) fx_int) fx_int))
  (fb_cons (fs_set (i := 3) sc_law.nd rfl (by first | exact .inl rfl | exact .inr rfl) (fx_lc (own := [("_law_cell", 10)]) rfl sc_law.nd (fi_any (fx_op op_addA o_add (fx_sl (fx_var (pv 0)) (fo_some fx_int) fo_none) (fx_sl (fx_var (pv 0)) fo_none (fo_some fx_int)))) (blkOk_by (own := [("_law_cell", 10)]) (N := ["_law_script", "_law_many", "_law_fewer", "_law_facts", "_law_handed", "_law_fact_here", "_law_due_here", "_law_told", "_law_at", "_law_found", "_law_cell"]) (sc := defScope s_law) (by decide +kernel)) (fun _ _ _ _ _ => (gw_name (i := 10) sc_law.nd rfl (by first | exact .inl rfl | exact .inr rfl))) (by decide) (fun _ _ _ _ _ => fts_nil) (fun _ _ _ _ _ => (fx_call c_law_fact hr (by decide) rfl takes0 (fa_cons (fx_var (pv 10)) fa_nil)))))
  (fb_cons (fs_set (i := 4) sc_law.nd rfl (by first | exact .inl rfl | exact .inr rfl) (fx_callT call_list_of o_list rfl T.z_list b_list (fa_cons (fx_var (pv 3)) fa_nil)))
  (fb_cons (fs_for (passes_of rfl) rfl (fi_any (fx_var (pv 3))) (fg_name (i := 5) sc_law.nd rfl (by first | exact .inl rfl | exact .inr rfl)) (fb_cons (fs_set (i := 9) sc_law.nd rfl (by first | exact .inl rfl | exact .inr rfl) (fx_call c_cut_fact hr (by decide) rfl (takes_of rfl rfl rfl rfl) (fa_cons (fx_var (pv 5)) (fa_cons (fx_var (pv 1)) fa_nil))))
  (fb_cons (fs_if (FXW.t (fw_or (ft_not (ft_val (fx_isi rfl T.z_isinstance b_isinstance rfl T.z_tuple b_tuple (fx_var (pv 9))))) (fw_or1 (ft_cmp (op_neA hr.units) o_ne (fx_var (pv 9)) (fx_call c_law_due hr (by decide) rfl (takes_of rfl rfl rfl rfl) (fa_cons (fx_var (pv 5)) (fa_cons (fx_var (pv 1)) fa_nil))) (nomark _))))) (fb_one (fs_ret fx_bl)) fb_nil)
  (fb_one (fs_if (ft_cmp (op_neA hr.units) o_ne (fx_call c_cut_fact hr (by decide) rfl (takes_of rfl rfl rfl rfl) (fa_cons (fx_var (pv 9)) (fa_cons (fx_callB (call_min2 rfl) o_min rfl T.z_min b_min (fa_cons (fx_var (pv 1)) (fa_cons (fx_var (pv 2)) fa_nil))) fa_nil))) (fx_call c_law_due hr (by decide) rfl (takes_of rfl rfl rfl rfl) (fa_cons (fx_var (pv 5)) (fa_cons (fx_callB (call_min2 rfl) o_min rfl T.z_min b_min (fa_cons (fx_var (pv 1)) (fa_cons (fx_var (pv 2)) fa_nil))) fa_nil))) (nomark _)) (fb_one (fs_ret fx_bl)) fb_nil)))))
  (fb_cons (fs_set (i := 6) sc_law.nd rfl (by first | exact .inl rfl | exact .inr rfl) (fx_call c_law_once hr (by decide) rfl (takes_of rfl rfl rfl rfl) (fa_cons (fx_lc (own := [("_law_fact_here", 5)]) rfl sc_law.nd (fi_any (fx_var (pv 3))) (blkOk_by (own := [("_law_fact_here", 5)]) (N := ["_law_script", "_law_many", "_law_fewer", "_law_facts", "_law_handed", "_law_fact_here", "_law_due_here", "_law_told", "_law_at", "_law_found", "_law_cell"]) (sc := defScope s_law) (by decide +kernel)) (fun _ _ _ _ _ => (gw_name (i := 5) sc_law.nd rfl (by first | exact .inl rfl | exact .inr rfl))) (by decide) (fun _ _ _ _ _ => fts_nil) (fun _ _ _ _ _ => (fx_call c_law_due hr (by decide) rfl takes0 (fa_cons (fx_var (pv 5)) (fa_cons (fx_var (pv 1)) fa_nil))))) fa_nil)))
  (fb_cons (fs_set (i := 7) sc_law.nd rfl (by first | exact .inl rfl | exact .inr rfl) (fx_call c_cut_facts hr (by decide) rfl (takes_of rfl rfl rfl rfl) (fa_cons (fx_var (pv 4)) (fa_cons (fx_var (pv 1)) fa_nil))))
  (fb_cons (fs_if (FXW.t (fw_or (ft_not (ft_val (fx_isi rfl T.z_isinstance b_isinstance rfl T.z_list b_list (fx_var (pv 7))))) (fw_or (ft_cmp (op_neA hr.units) o_ne (fx_var (pv 7)) (fx_var (pv 6)) (nomark _)) (fw_or1 (ft_cmp (op_neA hr.units) o_ne (fx_var (pv 4)) (fx_var (pv 3)) (nomark _)))))) (fb_one (fs_ret fx_bl)) fb_nil)
  (fb_cons (fs_set (i := 8) sc_law.nd rfl (by first | exact .inl rfl | exact .inr rfl) (fx_op op_mod o_mod (fx_op op_fdivW o_fdiv (fx_call c_law_cell_at hr (by decide) rfl (takes_of rfl rfl rfl rfl) (fa_cons (fx_var (pv 0)) (fa_cons fx_int fa_nil))) fx_int) (fx_callB (call_max2 rfl) o_max rfl T.z_max b_max (fa_cons fx_int (fa_cons (fx_callB call_len o_len rfl T.z_len b_len (fa_cons (fx_var (pv 6)) fa_nil)) fa_nil)))))
  (fb_cons (fs_if (FXW.t (fw_or (ft_cmp op_notA o_not (fx_call c_leads hr (by decide) rfl (takes_of rfl rfl rfl rfl) (fa_cons (fx_var (pv 3)) (fa_cons (fx_var (pv 6)) (fa_cons (fx_var (pv 1)) fa_nil)))) fx_bl (nomark _)) (fw_or1 (ft_cmp op_notA o_not (fx_call c_leads hr (by decide) rfl (takes_of rfl rfl rfl rfl) (fa_cons (fx_lst fa_nil) (fa_cons (fx_lst fa_nil) (fa_cons (fx_var (pv 1)) fa_nil)))) fx_bl (nomark _))))) (fb_one (fs_ret fx_bl)) fb_nil)
  (fb_cons (fs_if (ft_cmp op_notA o_not (fx_call c_leads hr (by decide) rfl (takes_of rfl rfl rfl rfl) (fa_cons (fx_var (pv 3)) (fa_cons (fx_op op_addA o_add (fx_op op_addA o_add (fx_rev (fx_var (pv 6))) (fx_sl (fx_var (pv 6)) fo_none (fo_some fx_int))) (fx_var (pv 4))) (fa_cons (fx_var (pv 1)) fa_nil)))) fx_bl (nomark _)) (fb_one (fs_ret fx_bl)) fb_nil)
  (fb_cons (fs_if (ft_cmp (op_neA hr.units) o_ne (fx_call c_leads hr (by decide) rfl (takes_of rfl rfl rfl rfl) (fa_cons (fx_var (pv 3)) (fa_cons (fx_var (pv 3)) (fa_cons (fx_var (pv 1)) fa_nil)))) (fx_callB (cr_all rfl) o_all rfl T.z_all b_all (fa_cons (fx_lc (own := [("_law_fact_here", 5)]) rfl sc_law.nd (fi_any (fx_var (pv 3))) (blkOk_by (own := [("_law_fact_here", 5)]) (N := ["_law_script", "_law_many", "_law_fewer", "_law_facts", "_law_handed", "_law_fact_here", "_law_due_here", "_law_told", "_law_at", "_law_found", "_law_cell"]) (sc := defScope s_law) (by decide +kernel)) (fun _ _ _ _ _ => (gw_name (i := 5) sc_law.nd rfl (by first | exact .inl rfl | exact .inr rfl))) (by decide) (fun _ _ _ _ _ => fts_nil) (fun _ _ _ _ _ => (fx_cmp (op_inA (hu100 hr)) o_g (fx_call c_law_due hr (by decide) rfl takes0 (fa_cons (fx_var (pv 5)) (fa_cons (fx_var (pv 1)) fa_nil))) (fx_var (pv 3)) rfl))) fa_nil)) (nomark _)) (fb_one (fs_ret fx_bl)) fb_nil)
  (fb_one (fs_ret (fx_cmp (op_eqA hr.units) o_eq (fx_call c_leads hr (by decide) rfl (takes_of rfl rfl rfl rfl) (fa_cons (fx_var (pv 3)) (fa_cons (fx_op op_addA o_add (fx_sl (fx_var (pv 6)) fo_none (fo_some (fx_var (pv 8)))) (fx_sl (fx_var (pv 6)) (fo_some (fx_op op_addA o_add (fx_var (pv 8)) fx_int)) fo_none)) (fa_cons (fx_var (pv 1)) fa_nil)))) (fx_cmp (op_eqA hr.units) o_eq (fx_var (pv 6)) (fx_lst fa_nil) (nomark _)) (nomark _))))))))))))))))
/-! ### the head -/
def d_cut : He.DefD := ⟨("cut", none), "cut", "cut", defArgs s_cut, defBody s_cut, defScope s_cut, [], []⟩
def d_cut_part : He.DefD := ⟨("cut_part", none), "cut_part", "cut_part", defArgs s_cut_part, defBody s_cut_part, defScope s_cut_part, [], []⟩
def d_cut_fact : He.DefD := ⟨("cut_fact", none), "cut_fact", "cut_fact", defArgs s_cut_fact, defBody s_cut_fact, defScope s_cut_fact, [], []⟩
def d_leads : He.DefD := ⟨("leads", none), "leads", "leads", defArgs s_leads, defBody s_leads, defScope s_leads, [], []⟩
def d_law_last : He.DefD := ⟨("_law_last", none), "_law_last", "_law_last", defArgs s_law_last, defBody s_law_last, defScope s_law_last, [], []⟩
def d_law_due : He.DefD := ⟨("_law_due", none), "_law_due", "_law_due", defArgs s_law_due, defBody s_law_due, defScope s_law_due, [], []⟩
def d_law_cell_at : He.DefD := ⟨("_law_cell_at", none), "_law_cell_at", "_law_cell_at", defArgs s_law_cell_at, defBody s_law_cell_at, defScope s_law_cell_at, [], []⟩
def d_cut_facts : He.DefD := ⟨("cut_facts", none), "cut_facts", "cut_facts", defArgs s_cut_facts, defBody s_cut_facts, defScope s_cut_facts, [], []⟩
def d_law_once : He.DefD := ⟨("_law_once", none), "_law_once", "_law_once", defArgs s_law_once, defBody s_law_once, defScope s_law_once, [], []⟩
def d_law_calls : He.DefD := ⟨("_law_calls", none), "_law_calls", "_law_calls", defArgs s_law_calls, defBody s_law_calls, defScope s_law_calls, [], []⟩
def d_law_name : He.DefD := ⟨("_law_name", none), "_law_name", "_law_name", defArgs s_law_name, defBody s_law_name, defScope s_law_name, [], []⟩
def d_law_fact : He.DefD := ⟨("_law_fact", none), "_law_fact", "_law_fact", defArgs s_law_fact, defBody s_law_fact, defScope s_law_fact, [], []⟩
def d_law : He.DefD := ⟨("law", none), "law", "law", defArgs s_law, defBody s_law, defScope s_law, [], []⟩
def fn : List He.DefD := [d_cut, d_cut_part, d_cut_fact, d_leads, d_law_last, d_law_due, d_law_cell_at, d_cut_facts, d_law_once, d_law_calls, d_law_name, d_law_fact, d_law]
def fa : List He.Fa := [.glo "cut", .glo "cut_part", .glo "cut_fact", .glo "leads", .glo "_law_last", .glo "_law_due", .glo "_law_cell_at", .glo "cut_facts", .glo "_law_once", .glo "_law_calls", .glo "_law_name", .glo "_law_fact", .glo "law", .free "tuple", .free "max", .free "len", .free "list", .free "sorted", .free "range", .free "all", .free "isinstance", .free "min"]
abbrev R : PySem.W.OpenRow := PySem.W.OpenLaw.row PySem.Challenge.rw_pointsure_k30_facts_cut
abbrev hk : PySem.W.Hook := He.hookD 6 fa fn
def ob (s : PySem.W.SharedT) : He.AlD := He.obsDG 6 fa fn (HandSHeadRun.getT s)
theorem ob_eq (s : PySem.W.SharedT) : ob s = hk.obs s.abs := He.obsDG_eq (HandSHeadRun.getT_eq s)
def loose0 : List Str := ["cut", "cut_part", "cut_fact", "cut_facts", "leads", "_law_cell_at", "_law_calls", "_law_name", "_law_fact", "_law_last", "_law_due", "_law_once"]
def loose : List Str := loose0
theorem run (w : World) : HandSHeadRun.RunEq R (PySem.W.view R.prog [15]) hk ob 4000 loose w := by
  intro os
  kernel_rfl
theorem facts {P : Program} {w : World} {K : PySem.W.Frag} {h : Heap} {mg : Str → Option Value} (X : K.In h) (G : h.Ns mainGlobals mg) (c : He.SaysD fa fn K) :
    ∃ fd : FuncData, (∀ (s : Shared) (v : Value), BindsTo s fd ⟨[v], []⟩ [("_law_script", v)]) ∧ ∀ base : Heap, FnOk P w K mg base (L2.CX P w) 5 (He.ga K "law") fd ["_law_script"] (spF P w K mg 1 F_law) := by
  have T : Tx K mg := ⟨trivial, He.free_ok X G (c.fact 13 (f := .free "tuple") rfl), He.free_ok X G (c.fact 14 (f := .free "max") rfl), He.free_ok X G (c.fact 15 (f := .free "len") rfl), He.free_ok X G (c.fact 16 (f := .free "list") rfl), He.free_ok X G (c.fact 17 (f := .free "sorted") rfl), He.free_ok X G (c.fact 18 (f := .free "range") rfl), He.free_ok X G (c.fact 19 (f := .free "all") rfl), He.free_ok X G (c.fact 20 (f := .free "isinstance") rfl), He.free_ok X G (c.fact 21 (f := .free "min") rfl)⟩
  have c_cut : ∀ base : Heap, CalF P w K mg base 1 "cut" 2 F_cut := fun base => ok_cut T  (c.def_ 0 (d := d_cut) rfl) (He.glo_ok X G (c.fact 0 (f := .glo "cut") rfl))
  have c_cut_part : ∀ base : Heap, CalF P w K mg base 2 "cut_part" 2 F_cut_part := fun base => ok_cut_part T (c_cut base) (c.def_ 1 (d := d_cut_part) rfl) (He.glo_ok X G (c.fact 1 (f := .glo "cut_part") rfl))
  have c_cut_fact : ∀ base : Heap, CalF P w K mg base 3 "cut_fact" 2 F_cut_fact := fun base => ok_cut_fact T (c_cut_part base) (c_cut base) (c.def_ 2 (d := d_cut_fact) rfl) (He.glo_ok X G (c.fact 2 (f := .glo "cut_fact") rfl))
  have c_leads : ∀ base : Heap, CalF P w K mg base 4 "leads" 3 F_leads := fun base => ok_leads T (c_cut_fact base) (c.def_ 3 (d := d_leads) rfl) (He.glo_ok X G (c.fact 3 (f := .glo "leads") rfl))
  have c_law_last : ∀ base : Heap, CalF P w K mg base 1 "_law_last" 2 F_law_last := fun base => ok_law_last T  (c.def_ 4 (d := d_law_last) rfl) (He.glo_ok X G (c.fact 4 (f := .glo "_law_last") rfl))
  have c_law_due : ∀ base : Heap, CalF P w K mg base 2 "_law_due" 2 F_law_due := fun base => ok_law_due T (c_law_last base) (c.def_ 5 (d := d_law_due) rfl) (He.glo_ok X G (c.fact 5 (f := .glo "_law_due") rfl))
  have c_law_cell_at : ∀ base : Heap, CalF P w K mg base 1 "_law_cell_at" 2 F_law_cell_at := fun base => ok_law_cell_at T  (c.def_ 6 (d := d_law_cell_at) rfl) (He.glo_ok X G (c.fact 6 (f := .glo "_law_cell_at") rfl))
  have c_cut_facts : ∀ base : Heap, CalF P w K mg base 4 "cut_facts" 2 F_cut_facts := fun base => ok_cut_facts T (c_cut_fact base) (c.def_ 7 (d := d_cut_facts) rfl) (He.glo_ok X G (c.fact 7 (f := .glo "cut_facts") rfl))
  have c_law_once : ∀ base : Heap, CalF P w K mg base 1 "_law_once" 1 F_law_once := fun base => ok_law_once T  (c.def_ 8 (d := d_law_once) rfl) (He.glo_ok X G (c.fact 8 (f := .glo "_law_once") rfl))
  have c_law_calls : ∀ base : Heap, CalF P w K mg base 1 "_law_calls" 1 F_law_calls := fun base => ok_law_calls T  (c.def_ 9 (d := d_law_calls) rfl) (He.glo_ok X G (c.fact 9 (f := .glo "_law_calls") rfl))
  have c_law_name : ∀ base : Heap, CalF P w K mg base 2 "_law_name" 1 F_law_name := fun base => ok_law_name T (c_law_calls base) (c.def_ 10 (d := d_law_name) rfl) (He.glo_ok X G (c.fact 10 (f := .glo "_law_name") rfl))
  have c_law_fact : ∀ base : Heap, CalF P w K mg base 3 "_law_fact" 1 F_law_fact := fun base => ok_law_fact T (c_law_calls base) (c_law_name base) (c.def_ 11 (d := d_law_fact) rfl) (He.glo_ok X G (c.fact 11 (f := .glo "_law_fact") rfl))
  exact ok_law T (fun base => ⟨c_leads base, c_law_due base, c_law_cell_at base, c_cut_facts base, c_law_once base, c_cut_fact base, c_law_fact base, trivial⟩) (c.def_ 12 (d := d_law) rfl)
end G

set_option maxHeartbeats 4000000
namespace My
open PySem FL G L2 SortT
local macro_rules | `(tactic| walk_at "fl") => `(tactic| simp (disch := decide +kernel) only [FL.mod_ok, FL.fdiv_ok, FL.small_ok, FL.pow_ok, Int.reducePow, Int.reduceToNat, FL.fnOf, startR, fVar, fC, faNil, faCons, fTup, fLst, fOp, fFn, fSl, foNone, foSome, gSl, gIx, gIxA, asB, ftNot, ftAnd, ftOr, sNext, sSeq, sDrop, sRet, sIf, sAsg, gtName, gtNil, gtCons, gtTup, arity,
  bind_ok, stm_ok, seq_next, seq_ret, seq_ex, sub_ok, add_ok, gTuple, gList, lstOf, h_get0, h_getk, h_app, h_len, h_set0, h_setk, atI_2, atI_3, atI_4, pick2_str, pick3_str, pick4_str, pick2_tup, pick4_tup, veq_int, vne_int, veq_str1, veq_str0, vne_str1, vne_str0,
  List.map_cons, List.map_nil, List.length_cons, List.length_nil, List.replicate, List.cons_append, List.nil_append, List.getElem?_cons_zero, List.getElem?_cons_succ, List.set_cons_zero, List.set_cons_succ, Nat.reduceSub, Nat.reduceAdd, if_true, decide_eq_true_eq, Bool.not_eq_true', Bool.not_true, Bool.not_false, Bool.false_eq_true, if_false, decide_eq_false_iff_not, not_true_eq_false, not_false_eq_true, decide_true, decide_false])
def Lg (n : Nat) (z : Int) : Prop := z.natAbs < 2 ^ n
theorem Lg_div {n : Nat} {z : Int} (h : Lg n z) (j : Int) : Lg n (z / j) := Nat.lt_of_le_of_lt (Int.natAbs_ediv_le_natAbs z j) h
theorem Lg_add {n : Nat} {z c : Int} (h : Lg n z) (hc : c.natAbs ≤ 3) : Lg (n + 2) (z + c) := by
  unfold Lg at *
  have := Int.natAbs_add_le z c
  have e : 2 ^ (n + 2) = 4 * 2 ^ n := by rw [Nat.pow_add]; omega
  have p : 0 < 2 ^ n := Nat.pow_pos (by decide)
  rw [e]
  omega
theorem Lg_up {n m : Nat} {z : Int} (h : Lg n z) (hm : n ≤ m) : Lg m z := Nat.lt_of_lt_of_le h (Nat.pow_le_pow_right (by decide) hm)
theorem Lg_bits {z : Int} (h : Builtin.Int.intBits z ≤ 1048576) : Lg 1048577 z := by
  have := bits_log h
  unfold Lg
  by_cases c : z.natAbs = 0
  · rw [c]
    exact Nat.pow_pos (by decide)
  · exact (Nat.log2_lt c).mp (by omega)
theorem mul_lg {n : Nat} {z c : Int} {M : MH} (h : Lg n z) (h0 : 0 < n) (hc : c.natAbs.log2 ≤ 100) (hn : n ≤ 2000000) : gMul (.int z) (.int c) M = .ok (.int (z * c)) M := mul_ok (by
  have := log2_lt h h0
  omega)
def callsD : Nat → Nat → Int → List Int
  | _, 0, _ => []
  | k, j + 1, z => ((z / 5) * 48271 + 7 * (k : Int)) % 1000000000 :: callsD (k + 1) j (z / 5)
def callsV (z : Int) : List Int := callsD 0 (z % 5).toNat z
theorem callsD_len : ∀ (j k : Nat) (z : Int), (callsD k j z).length = j
  | 0, _, _ => rfl
  | j + 1, k, z => by rw [callsD, List.length_cons, callsD_len j]
theorem callsV_len (z : Int) : (callsV z).length ≤ 4 := by
  unfold callsV
  rw [callsD_len]
  omega
def callsB : FS := (sSeq (sAsg (fOp gFdiv (fVar 0) (fC (.int 5))) (gtName 0)) (sDrop (fBm [("list", gAppend)] (fVar 1) (faCons (fOp gMod (fOp gAdd (fOp gMul (fVar 0) (fC (.int 48271))) (fOp gMul (fC (.int 7)) (fVar 2))) (fOp gPow (fC (.int 10)) (fC (.int 9)))) faNil))))
theorem calls_ok (n : Nat) (z : Int) (M : MH) (hz : Lg n z) (h0 : 0 < n) (hn : n ≤ 2000000) : ∃ G, F_law_calls [.int z] M = .ok (.tup ((callsV z).map MV.int)) (M ++ G) := by
  have h5 : 0 ≤ z % 5 ∧ z % 5 < 5 := by omega
  have e5 : z % 5 = ((z % 5).toNat : Int) := by omega
  have l4 := callsV_len z
  have key : ∃ zz x2 G, sFor (fiRange1 (faCons (fOp gMod (fVar 0) (fC (.int 5))) faNil)) (gtName 2) callsB [some (.int z), some (.ref M.length), none] (M ++ [.lst []]) = .next [some (.int zz), some (.ref M.length), x2] (M ++ (.lst ((callsV z).map MV.int) :: G)) := by
    refine for_range (n := (z % 5).toNat) (M1 := M ++ [.lst []]) (fun k ρ M2 => ∃ acc zz x2, ρ = [some (.int zz), some (.ref M.length), x2] ∧ M2 = M ++ [.lst (acc.map MV.int)] ∧ Lg n zz ∧ acc ++ callsD k ((z % 5).toNat - k) zz = callsV z) (fun r => ∃ zz x2 G, r = .next [some (.int zz), some (.ref M.length), x2] (M ++ (.lst ((callsV z).map MV.int) :: G))) ?_ (by omega) ⟨[], z, none, rfl, rfl, hz, rfl⟩ ?_ ?_
    · rw [← e5]
      simp (disch := decide +kernel) only [FL.mod_ok, FL.fdiv_ok, FL.small_ok, FL.pow_ok, Int.reducePow, Int.reduceToNat, FL.fnOf, startR, fVar, fC, faNil, faCons, fTup, fLst, fOp, fFn, fSl, foNone, foSome, asB, ftNot, ftAnd, ftOr, sNext, sSeq, sDrop, sRet, sIf, sAsg, gtName, gtNil, gtCons, gtTup, arity, bind_ok, stm_ok, seq_next, seq_ret, seq_ex, sub_ok, add_ok, h_get0, h_getk, h_app, h_len, h_set0, h_setk, veq_int, vne_int, veq_str1, veq_str0, vne_str1, vne_str0, List.map_cons, List.map_nil, List.length_cons, List.length_nil, List.replicate, List.cons_append, List.nil_append, List.getElem?_cons_zero, List.getElem?_cons_succ, List.set_cons_zero, List.set_cons_succ, Nat.reduceSub, Nat.reduceAdd, if_true, decide_eq_true_eq, Bool.not_eq_true', Bool.not_true, Bool.not_false, Bool.false_eq_true, if_false, decide_eq_false_iff_not, not_true_eq_false, not_false_eq_true, decide_true, decide_false, FL.ix0, FL.ix1, FL.ix2, FL.ix3, FL.ix4, FL.sl_tup, FL.len_tup, FL.list_tup, FL.tuple_tup, FL.max_ok, FL.min_ok, FL.ge_ok, FL.lt_ok]
    · rintro k hk ρ M2 ⟨acc, zz, x2, rfl, rfl, hzz, he⟩
      left
      rw [show (z % 5).toNat - k = ((z % 5).toNat - (k + 1)) + 1 by omega, callsD] at he
      have hl : acc.length ≤ 4 := by
        have := congrArg List.length he
        rw [List.length_append, List.length_cons] at this
        omega
      have ma := @append_ok M.length (acc.map MV.int) (.int ((zz / 5 * 48271 + 7 * (k : Int)) % 1000000000)) (M ++ [.lst (acc.map MV.int)]) (by rw [h_get0]; rfl) (by rw [List.length_map]; omega)
      have m1 : ∀ M, gMul (.int (zz / 5)) (.int 48271) M = .ok (.int (zz / 5 * 48271)) M := fun M => mul_lg (Lg_div hzz 5) h0 (by decide +kernel) hn
      have m2 : ∀ M, gMul (.int 7) (.int k) M = .ok (.int (7 * (k : Int))) M := fun M => mul_ok (by
        have : (k : Int).natAbs < 2 ^ 5 := by rw [Int.natAbs_natCast]; omega
        have := log2_lt this (by decide)
        have : (7 : Int).natAbs.log2 ≤ 3 := by decide +kernel
        omega)
      have ty : (tyM (M ++ [.lst (acc.map MV.int)]) (.ref M.length)).bind (fun T => List.lookup T [("list", gAppend)]) = some gAppend := by
        unfold tyM
        simp only [h_get0, List.getElem?_cons_zero]
        rfl
      refine ⟨[some (.int (zz / 5)), some (.ref M.length), some (.int k)], M ++ [.lst ((acc ++ [(zz / 5 * 48271 + 7 * (k : Int)) % 1000000000]).map MV.int)], .inl ?_, acc ++ [(zz / 5 * 48271 + 7 * (k : Int)) % 1000000000], zz / 5, some (.int k), rfl, rfl, Lg_div hzz 5, by rw [List.append_assoc]; exact he⟩
      simp only [List.set_cons_zero, List.set_cons_succ]
      unfold callsB
      simp (disch := decide +kernel) only [FL.mod_ok, FL.fdiv_ok, FL.small_ok, FL.pow_ok, Int.reducePow, Int.reduceToNat, FL.fnOf, startR, fVar, fC, faNil, faCons, fTup, fLst, fOp, fFn, fSl, foNone, foSome, asB, ftNot, ftAnd, ftOr, sNext, sSeq, sDrop, sRet, sIf, sAsg, gtName, gtNil, gtCons, gtTup, arity, bind_ok, stm_ok, seq_next, seq_ret, seq_ex, sub_ok, add_ok, h_get0, h_getk, h_app, h_len, h_set0, h_setk, veq_int, vne_int, veq_str1, veq_str0, vne_str1, vne_str0, List.map_cons, List.map_nil, List.length_cons, List.length_nil, List.replicate, List.cons_append, List.nil_append, List.getElem?_cons_zero, List.getElem?_cons_succ, List.set_cons_zero, List.set_cons_succ, Nat.reduceSub, Nat.reduceAdd, if_true, decide_eq_true_eq, Bool.not_eq_true', Bool.not_true, Bool.not_false, Bool.false_eq_true, if_false, decide_eq_false_iff_not, not_true_eq_false, not_false_eq_true, decide_true, decide_false, FL.ix0, FL.ix1, FL.ix2, FL.ix3, FL.ix4, FL.sl_tup, FL.len_tup, FL.list_tup, FL.tuple_tup, FL.max_ok, FL.min_ok, FL.ge_ok, FL.lt_ok, fBm, ty, m1, m2, ma, List.map_append]
    · rintro ρ M2 ⟨acc, zz, x2, rfl, rfl, hzz, he⟩
      rw [Nat.sub_self, callsD, List.append_nil] at he
      subst he
      exact ⟨zz, x2, [], rfl⟩
  obtain ⟨zz, x2, G, e⟩ := key
  have e3 : gTuple [.ref M.length] (M ++ (.lst ((callsV z).map MV.int) :: G)) = .ok (.tup ((callsV z).map MV.int)) (M ++ (.lst ((callsV z).map MV.int) :: G)) := gTuple_lst (lst_of (by rw [h_get0]; rfl))
  refine ⟨.lst ((callsV z).map MV.int) :: G, ?_⟩
  rw [show F_law_calls = FL.fnOf 3 (sSeq (sAsg (fLst faNil) (gtName 1)) (sSeq (sFor (fiRange1 (faCons (fOp gMod (fVar 0) (fC (.int 5))) faNil)) (gtName 2) callsB) (sRet (fFn gTuple (faCons (fVar 1) faNil))))) from rfl]
  simp (disch := decide +kernel) only [FL.mod_ok, FL.fdiv_ok, FL.small_ok, FL.pow_ok, Int.reducePow, Int.reduceToNat, FL.fnOf, startR, fVar, fC, faNil, faCons, fTup, fLst, fOp, fFn, fSl, foNone, foSome, asB, ftNot, ftAnd, ftOr, sNext, sSeq, sDrop, sRet, sIf, sAsg, gtName, gtNil, gtCons, gtTup, arity, bind_ok, stm_ok, seq_next, seq_ret, seq_ex, sub_ok, add_ok, h_get0, h_getk, h_app, h_len, h_set0, h_setk, veq_int, vne_int, veq_str1, veq_str0, vne_str1, vne_str0, List.map_cons, List.map_nil, List.length_cons, List.length_nil, List.replicate, List.cons_append, List.nil_append, List.getElem?_cons_zero, List.getElem?_cons_succ, List.set_cons_zero, List.set_cons_succ, Nat.reduceSub, Nat.reduceAdd, if_true, decide_eq_true_eq, Bool.not_eq_true', Bool.not_true, Bool.not_false, Bool.false_eq_true, if_false, decide_eq_false_iff_not, not_true_eq_false, not_false_eq_true, decide_true, decide_false, FL.ix0, FL.ix1, FL.ix2, FL.ix3, FL.ix4, FL.sl_tup, FL.len_tup, FL.list_tup, FL.tuple_tup, FL.max_ok, FL.min_ok, FL.ge_ok, FL.lt_ok, e, e3]
abbrev iV (cs : List Int) : MV := .tup (cs.map MV.int)
/-- the name of a holder -/
inductive ND where
  | loc (b : Str) (c : List Int) (x : Str)
  | giv (b : Str) (c : List Int)
  | each (r : Int) (c : List Int)
  | fld (r : Int) (c : List Int)
  | kep (r : Int) (c : List Int)
inductive FD where
  | reach (b : Str) (c : List Int)
  | goes (r : Int) (c d : List Int)
  | holds (n : ND) (r : Int) (d : List Int)
def nV : ND → MV
  | .loc b c x => .tup [.str "local", .str b, iV c, .str x]
  | .giv b c => .tup [.str "given", .str b, iV c]
  | .each r c => .tup [.str "each", .int r, iV c]
  | .fld r c => .tup [.str "field", .int r, iV c, .str "f"]
  | .kep r c => .tup [.str "kept", .int r, iV c, .str "k"]
def fV : FD → MV
  | .reach b c => .tup [.str "reach", .str b, iV c]
  | .goes r c d => .tup [.str "goes", .int r, iV c, .str "fb", iV d]
  | .holds n r d => .tup [.str "holds", nV n, .tup [.int r, iV d]]
abbrev lastL (n : Nat) (c : List Int) : List Int := c.drop (c.length - n)
def cutN (n : Nat) : ND → ND
  | .loc b c x => .loc b (lastL n c) x
  | .giv b c => .giv b (lastL n c)
  | .each r c => .each r (lastL n c)
  | .fld r c => .fld r (lastL n c)
  | .kep r c => .kep r (lastL n c)
def cutD (n : Nat) : FD → FD
  | .reach b c => .reach b (lastL n c)
  | .goes r c d => .goes r (lastL n c) (lastL n d)
  | .holds m r d => .holds (cutN n m) r (lastL n d)
def shortN : ND → Prop
  | .loc b c x => PyData.strOk b = true ∧ PyData.strOk x = true ∧ c.length ≤ 4
  | .giv b c => PyData.strOk b = true ∧ c.length ≤ 4
  | .each _ c => c.length ≤ 4
  | .fld _ c => c.length ≤ 4
  | .kep _ c => c.length ≤ 4
def shortD : FD → Prop
  | .reach b c => PyData.strOk b = true ∧ c.length ≤ 4
  | .goes _ c d => c.length ≤ 4 ∧ d.length ≤ 4
  | .holds n _ d => shortN n ∧ d.length ≤ 4
theorem last_len {n : Nat} {c : List Int} (h : c.length ≤ 4) : (lastL n c).length ≤ 4 := by
  rw [List.length_drop]
  omega
theorem last_last {n m : Nat} {c : List Int} (h : m ≤ n) : lastL m (lastL n c) = lastL m c := by
  show List.drop _ (List.drop _ c) = _
  rw [List.drop_drop, List.length_drop]
  congr 1
  omega
theorem cutN_short {n : Nat} {x : ND} (h : shortN x) : shortN (cutN n x) := by
  cases x with
  | loc b c x => exact ⟨h.1, h.2.1, last_len h.2.2⟩
  | giv b c => exact ⟨h.1, last_len h.2⟩
  | each r c => exact last_len (c := c) h
  | fld r c => exact last_len (c := c) h
  | kep r c => exact last_len (c := c) h
theorem cutD_short {n : Nat} {x : FD} (h : shortD x) : shortD (cutD n x) := by
  cases x with
  | reach b c => exact ⟨h.1, last_len h.2⟩
  | goes r c d => exact ⟨last_len h.1, last_len h.2⟩
  | holds m r d => exact ⟨cutN_short h.1, last_len h.2⟩
theorem cutD_cut {n m : Nat} {x : FD} (h : m ≤ n) : cutD m (cutD n x) = cutD m x := by
  cases x with
  | reach b c => simp only [cutD, last_last h]
  | goes r c d => simp only [cutD, last_last h]
  | holds k r d =>
    have : cutN m (cutN n k) = cutN m k := by cases k <;> simp only [cutN, last_last h]
    simp only [cutD, this, last_last h]
theorem okI {k : Nat} {cs : List Int} : okV (k + 1) (iV cs) = true := by
  rw [okV_tup]
  refine List.all_eq_true.mpr fun x hx => ?_
  obtain ⟨i, _, rfl⟩ := List.mem_map.mp hx
  exact okV_int
theorem nV_ok {x : ND} (h : shortN x) : okV 5 (nV x) = true := by
  cases x <;> simp only [nV, okV_tup (n := 4), List.all_cons, List.all_nil, okV_int, okV_str, okI (k := 3), Bool.and_true, Bool.true_and, Bool.and_eq_true]
  · exact ⟨by decide +kernel, h.1, h.2.1⟩
  · exact ⟨by decide +kernel, h.1⟩
  · decide +kernel
  · exact ⟨by decide +kernel, by decide +kernel⟩
  · exact ⟨by decide +kernel, by decide +kernel⟩
theorem fV_ok {x : FD} (h : shortD x) : okV 6 (fV x) = true := by
  cases x with
  | reach b c =>
    simp only [fV, okV_tup (n := 5), List.all_cons, List.all_nil, okV_int, okV_str, okI (k := 4), Bool.and_true, Bool.true_and, Bool.and_eq_true]
    exact ⟨by decide +kernel, h.1⟩
  | goes r c d =>
    simp only [fV, okV_tup (n := 5), List.all_cons, List.all_nil, okV_int, okV_str, okI (k := 4), Bool.and_true, Bool.true_and, Bool.and_eq_true]
    exact ⟨by decide +kernel, by decide +kernel⟩
  | holds n r d =>
    simp only [fV, okV_tup (n := 5), List.all_cons, List.all_nil, okV_int, okV_str, nV_ok h.1, Bool.and_true, Bool.true_and, Bool.and_eq_true]
    simp only [okV_tup (n := 4), List.all_cons, List.all_nil, okV_int, okI (k := 3), Bool.and_true, Bool.true_and]
    decide +kernel
theorem cmpS {a b : Str} : cmpV (.str a) (.str b) = true := rfl
theorem cmpI {a b : Int} : cmpV (.int a) (.int b) = true := rfl
theorem cmpT {xs ys : List MV} (h : cmpVs xs ys = true) : cmpV (.tup xs) (.tup ys) = true := by
  unfold cmpV
  exact h
theorem cmpC {a b : List Int} : cmpV (iV a) (iV b) = true := cmpT (cmp_ints a b)
theorem cmpN (x y : ND) : cmpV (nV x) (nV y) = true := by
  cases x <;> cases y <;> refine cmpT (cmpVs_cons cmpS fun e => ?_) <;> first
    | exact absurd (MV.str.inj e) (by decide +kernel)
    | exact cmpVs_cons cmpS fun _ => cmpVs_cons cmpC fun _ => cmpVs_cons cmpS fun _ => cmpVs_nil
    | exact cmpVs_cons cmpI fun _ => cmpVs_cons cmpC fun _ => cmpVs_cons cmpS fun _ => cmpVs_nil
    | exact cmpVs_cons cmpS fun _ => cmpVs_cons cmpC fun _ => cmpVs_nil
    | exact cmpVs_cons cmpI fun _ => cmpVs_cons cmpC fun _ => cmpVs_nil
theorem cmpF (x y : FD) : cmpV (fV x) (fV y) = true := by
  cases x <;> cases y <;> refine cmpT (cmpVs_cons cmpS fun e => ?_) <;> first
    | exact absurd (MV.str.inj e) (by decide +kernel)
    | exact cmpVs_cons cmpS fun _ => cmpVs_cons cmpC fun _ => cmpVs_nil
    | exact cmpVs_cons cmpI fun _ => cmpVs_cons cmpC fun _ => cmpVs_cons cmpS fun _ => cmpVs_cons cmpC fun _ => cmpVs_nil
    | exact cmpVs_cons (cmpN _ _) fun _ => cmpVs_cons (cmpT (cmpVs_cons cmpI fun _ => cmpVs_cons cmpC fun _ => cmpVs_nil)) fun _ => cmpVs_nil
theorem fV_tup (x : FD) : isTup (fV x) = true := by cases x <;> rfl
theorem fV_head (x : FD) : headIs "str" (fV x) = true := by cases x <;> rfl
/-! the cuts -/
theorem max_nat {a n : Nat} {M : MH} : gMax [.int 0, .int ((a : Int) - (n : Int))] M = .ok (.int ((a - n : Nat) : Int)) M := by
  show Res.ok (MV.int (if (a : Int) - (n : Int) > 0 then (a : Int) - (n : Int) else 0)) M = _
  congr 2
  split <;> omega
theorem cut_ok {n : Nat} {c : List Int} {M : MH} : F_cut [iV c, .int n] M = .ok (iV (lastL n c)) M := by
  unfold F_cut B_cut
  have e1 : ∀ M, gMax [.int 0, .int ((c.length : Int) - (n : Int))] M = .ok (.int ((c.length - n : Nat) : Int)) M := fun M => max_nat
  have e2 : ∀ M, gSl (iV c) (some ((c.length - n : Nat) : Int)) none M = .ok (iV (lastL n c)) M := fun M => by
    show Res.ok (MV.tup (cutM (c.map MV.int) (some ((c.length - n : Nat) : Int)) none)) M = _
    rw [cut_from, ← List.map_drop]
  simp (disch := decide +kernel) only [FL.mod_ok, FL.fdiv_ok, FL.small_ok, FL.pow_ok, Int.reducePow, Int.reduceToNat, FL.fnOf, startR, fVar, fC, faNil, faCons, fTup, fLst, fOp, fFn, fSl, foNone, foSome, asB, ftNot, ftAnd, ftOr, sNext, sSeq, sDrop, sRet, sIf, sAsg, gtName, gtNil, gtCons, gtTup, arity, bind_ok, stm_ok, seq_next, seq_ret, seq_ex, sub_ok, add_ok, h_get0, h_getk, h_app, h_len, h_set0, h_setk, veq_int, vne_int, veq_str1, veq_str0, vne_str1, vne_str0, List.map_cons, List.map_nil, List.length_cons, List.length_nil, List.replicate, List.cons_append, List.nil_append, List.getElem?_cons_zero, List.getElem?_cons_succ, List.set_cons_zero, List.set_cons_succ, Nat.reduceSub, Nat.reduceAdd, if_true, decide_eq_true_eq, Bool.not_eq_true', Bool.not_true, Bool.not_false, Bool.false_eq_true, if_false, decide_eq_false_iff_not, not_true_eq_false, not_false_eq_true, decide_true, decide_false, FL.ix0, FL.ix1, FL.ix2, FL.ix3, FL.ix4, FL.sl_tup, FL.len_tup, FL.list_tup, FL.tuple_tup, FL.max_ok, FL.min_ok, FL.ge_ok, FL.lt_ok, e1, e2, List.length_map]
theorem cutP_ok {n : Nat} {a b : MV} {c : List Int} {rest : List MV} {M : MH} (hr : rest.length ≤ 10) : F_cut_part [.tup (a :: b :: iV c :: rest), .int n] M = .ok (.tup (a :: b :: iV (lastL n c) :: rest)) M := by
  unfold F_cut_part B_cut_part
  have e1 : ∀ M, gSl (.tup (a :: b :: iV c :: rest)) none (some 2) M = .ok (.tup [a, b]) M := fun M => by
    show Res.ok (MV.tup (cutM _ none (some ((2 : Nat) : Int)))) M = _
    rw [cut_to]
    rfl
  have e2 : ∀ M, gSl (.tup (a :: b :: iV c :: rest)) (some 3) none M = .ok (.tup rest) M := fun M => by
    show Res.ok (MV.tup (cutM _ (some ((3 : Nat) : Int)) none)) M = _
    rw [cut_from]
    rfl
  have e3 : ∀ M, gAdd (.tup [a, b]) (.tup [iV (lastL n c)]) M = .ok (.tup [a, b, iV (lastL n c)]) M := fun M => add_tup (small_ok (by simp))
  have e4 : ∀ M, gAdd (.tup [a, b, iV (lastL n c)]) (.tup rest) M = .ok (.tup (a :: b :: iV (lastL n c) :: rest)) M := fun M => add_tup (small_ok (by simp; omega))
  have e5 : ∀ M, F_cut [iV c, .int n] M = .ok (iV (lastL n c)) M := fun M => cut_ok
  simp (disch := decide +kernel) only [FL.mod_ok, FL.fdiv_ok, FL.small_ok, FL.pow_ok, Int.reducePow, Int.reduceToNat, FL.fnOf, startR, fVar, fC, faNil, faCons, fTup, fLst, fOp, fFn, fSl, foNone, foSome, asB, ftNot, ftAnd, ftOr, sNext, sSeq, sDrop, sRet, sIf, sAsg, gtName, gtNil, gtCons, gtTup, arity, bind_ok, stm_ok, seq_next, seq_ret, seq_ex, sub_ok, add_ok, h_get0, h_getk, h_app, h_len, h_set0, h_setk, veq_int, vne_int, veq_str1, veq_str0, vne_str1, vne_str0, List.map_cons, List.map_nil, List.length_cons, List.length_nil, List.replicate, List.cons_append, List.nil_append, List.getElem?_cons_zero, List.getElem?_cons_succ, List.set_cons_zero, List.set_cons_succ, Nat.reduceSub, Nat.reduceAdd, if_true, decide_eq_true_eq, Bool.not_eq_true', Bool.not_true, Bool.not_false, Bool.false_eq_true, if_false, decide_eq_false_iff_not, not_true_eq_false, not_false_eq_true, decide_true, decide_false, FL.ix0, FL.ix1, FL.ix2, FL.ix3, FL.ix4, FL.sl_tup, FL.len_tup, FL.list_tup, FL.tuple_tup, FL.max_ok, FL.min_ok, FL.ge_ok, FL.lt_ok, e1, e2, e3, e4, e5]
theorem cutN_eq {n : Nat} {x : ND} {M : MH} : F_cut_part [nV x, .int n] M = .ok (nV (cutN n x)) M := by
  cases x <;> exact cutP_ok (by simp)
theorem cutF_ok {n : Nat} {x : FD} {M : MH} : F_cut_fact [fV x, .int n] M = .ok (fV (cutD n x)) M := by
  unfold F_cut_fact B_cut_fact
  cases x with
  | reach b c =>
    have e1 : ∀ M, F_cut_part [.tup [.str "reach", .str b, iV c], .int n] M = .ok (.tup [.str "reach", .str b, iV (lastL n c)]) M := fun M => cutP_ok (by simp)
    simp only [fV, cutD]
    simp (disch := decide +kernel) only [FL.mod_ok, FL.fdiv_ok, FL.small_ok, FL.pow_ok, Int.reducePow, Int.reduceToNat, FL.fnOf, startR, fVar, fC, faNil, faCons, fTup, fLst, fOp, fFn, fSl, foNone, foSome, asB, ftNot, ftAnd, ftOr, sNext, sSeq, sDrop, sRet, sIf, sAsg, gtName, gtNil, gtCons, gtTup, arity, bind_ok, stm_ok, seq_next, seq_ret, seq_ex, sub_ok, add_ok, h_get0, h_getk, h_app, h_len, h_set0, h_setk, veq_int, vne_int, veq_str1, veq_str0, vne_str1, vne_str0, List.map_cons, List.map_nil, List.length_cons, List.length_nil, List.replicate, List.cons_append, List.nil_append, List.getElem?_cons_zero, List.getElem?_cons_succ, List.set_cons_zero, List.set_cons_succ, Nat.reduceSub, Nat.reduceAdd, if_true, decide_eq_true_eq, Bool.not_eq_true', Bool.not_true, Bool.not_false, Bool.false_eq_true, if_false, decide_eq_false_iff_not, not_true_eq_false, not_false_eq_true, decide_true, decide_false, FL.ix0, FL.ix1, FL.ix2, FL.ix3, FL.ix4, FL.sl_tup, FL.len_tup, FL.list_tup, FL.tuple_tup, FL.max_ok, FL.min_ok, FL.ge_ok, FL.lt_ok, e1]
  | goes r c d =>
    have e1 : ∀ M, F_cut_part [.tup [.str "goes", .int r, iV c, .str "fb", iV d], .int n] M = .ok (.tup [.str "goes", .int r, iV (lastL n c), .str "fb", iV d]) M := fun M => cutP_ok (by simp)
    have e2 : ∀ M, gSl (.tup [.str "goes", .int r, iV (lastL n c), .str "fb", iV d]) none (some 4) M = .ok (.tup [.str "goes", .int r, iV (lastL n c), .str "fb"]) M := fun M => by
      show Res.ok (MV.tup (cutM _ none (some ((4 : Nat) : Int)))) M = _
      rw [cut_to]
      rfl
    have e3 : ∀ M, F_cut [iV d, .int n] M = .ok (iV (lastL n d)) M := fun M => cut_ok
    have e4 : ∀ M, gAdd (.tup [.str "goes", .int r, iV (lastL n c), .str "fb"]) (.tup [iV (lastL n d)]) M = .ok (.tup [.str "goes", .int r, iV (lastL n c), .str "fb", iV (lastL n d)]) M := fun M => add_tup (small_ok (by simp))
    simp only [fV, cutD]
    simp (disch := decide +kernel) only [FL.mod_ok, FL.fdiv_ok, FL.small_ok, FL.pow_ok, Int.reducePow, Int.reduceToNat, FL.fnOf, startR, fVar, fC, faNil, faCons, fTup, fLst, fOp, fFn, fSl, foNone, foSome, asB, ftNot, ftAnd, ftOr, sNext, sSeq, sDrop, sRet, sIf, sAsg, gtName, gtNil, gtCons, gtTup, arity, bind_ok, stm_ok, seq_next, seq_ret, seq_ex, sub_ok, add_ok, h_get0, h_getk, h_app, h_len, h_set0, h_setk, veq_int, vne_int, veq_str1, veq_str0, vne_str1, vne_str0, List.map_cons, List.map_nil, List.length_cons, List.length_nil, List.replicate, List.cons_append, List.nil_append, List.getElem?_cons_zero, List.getElem?_cons_succ, List.set_cons_zero, List.set_cons_succ, Nat.reduceSub, Nat.reduceAdd, if_true, decide_eq_true_eq, Bool.not_eq_true', Bool.not_true, Bool.not_false, Bool.false_eq_true, if_false, decide_eq_false_iff_not, not_true_eq_false, not_false_eq_true, decide_true, decide_false, FL.ix0, FL.ix1, FL.ix2, FL.ix3, FL.ix4, FL.sl_tup, FL.len_tup, FL.list_tup, FL.tuple_tup, FL.max_ok, FL.min_ok, FL.ge_ok, FL.lt_ok, e1, e2, e3, e4]
  | holds m r d =>
    have e1 : ∀ M, F_cut_part [nV m, .int n] M = .ok (nV (cutN n m)) M := fun M => cutN_eq
    have e3 : ∀ M, F_cut [iV d, .int n] M = .ok (iV (lastL n d)) M := fun M => cut_ok
    simp only [fV, cutD]
    simp (disch := decide +kernel) only [FL.mod_ok, FL.fdiv_ok, FL.small_ok, FL.pow_ok, Int.reducePow, Int.reduceToNat, FL.fnOf, startR, fVar, fC, faNil, faCons, fTup, fLst, fOp, fFn, fSl, foNone, foSome, asB, ftNot, ftAnd, ftOr, sNext, sSeq, sDrop, sRet, sIf, sAsg, gtName, gtNil, gtCons, gtTup, arity, bind_ok, stm_ok, seq_next, seq_ret, seq_ex, sub_ok, add_ok, h_get0, h_getk, h_app, h_len, h_set0, h_setk, veq_int, vne_int, veq_str1, veq_str0, vne_str1, vne_str0, List.map_cons, List.map_nil, List.length_cons, List.length_nil, List.replicate, List.cons_append, List.nil_append, List.getElem?_cons_zero, List.getElem?_cons_succ, List.set_cons_zero, List.set_cons_succ, Nat.reduceSub, Nat.reduceAdd, if_true, decide_eq_true_eq, Bool.not_eq_true', Bool.not_true, Bool.not_false, Bool.false_eq_true, if_false, decide_eq_false_iff_not, not_true_eq_false, not_false_eq_true, decide_true, decide_false, FL.ix0, FL.ix1, FL.ix2, FL.ix3, FL.ix4, FL.sl_tup, FL.len_tup, FL.list_tup, FL.tuple_tup, FL.max_ok, FL.min_ok, FL.ge_ok, FL.lt_ok, e1, e3]
theorem last_ok {n : Nat} {c : List Int} {M : MH} : F_law_last [iV c, .int n] M = .ok (iV (lastL n c)) M := by
  unfold F_law_last B_law_last
  simp (disch := decide +kernel) only [FL.mod_ok, FL.fdiv_ok, FL.small_ok, FL.pow_ok, Int.reducePow, Int.reduceToNat, FL.fnOf, startR, fVar, fC, faNil, faCons, fTup, fLst, fOp, fFn, fSl, foNone, foSome, asB, ftNot, ftAnd, ftOr, sNext, sSeq, sDrop, sRet, sIf, sAsg, gtName, gtNil, gtCons, gtTup, arity, bind_ok, stm_ok, seq_next, seq_ret, seq_ex, sub_ok, add_ok, h_get0, h_getk, h_app, h_len, h_set0, h_setk, veq_int, vne_int, veq_str1, veq_str0, vne_str1, vne_str0, List.map_cons, List.map_nil, List.length_cons, List.length_nil, List.replicate, List.cons_append, List.nil_append, List.getElem?_cons_zero, List.getElem?_cons_succ, List.set_cons_zero, List.set_cons_succ, Nat.reduceSub, Nat.reduceAdd, if_true, decide_eq_true_eq, Bool.not_eq_true', Bool.not_true, Bool.not_false, Bool.false_eq_true, if_false, decide_eq_false_iff_not, not_true_eq_false, not_false_eq_true, decide_true, decide_false, FL.ix0, FL.ix1, FL.ix2, FL.ix3, FL.ix4, FL.sl_tup, FL.len_tup, FL.list_tup, FL.tuple_tup, FL.max_ok, FL.min_ok, FL.ge_ok, FL.lt_ok, List.length_map, Int.ofNat_le]
  by_cases h : c.length ≤ n
  · simp only [h, decide_true]
    simp (disch := decide +kernel) only [FL.mod_ok, FL.fdiv_ok, FL.small_ok, FL.pow_ok, Int.reducePow, Int.reduceToNat, FL.fnOf, startR, fVar, fC, faNil, faCons, fTup, fLst, fOp, fFn, fSl, foNone, foSome, asB, ftNot, ftAnd, ftOr, sNext, sSeq, sDrop, sRet, sIf, sAsg, gtName, gtNil, gtCons, gtTup, arity, bind_ok, stm_ok, seq_next, seq_ret, seq_ex, sub_ok, add_ok, h_get0, h_getk, h_app, h_len, h_set0, h_setk, veq_int, vne_int, veq_str1, veq_str0, vne_str1, vne_str0, List.map_cons, List.map_nil, List.length_cons, List.length_nil, List.replicate, List.cons_append, List.nil_append, List.getElem?_cons_zero, List.getElem?_cons_succ, List.set_cons_zero, List.set_cons_succ, Nat.reduceSub, Nat.reduceAdd, if_true, decide_eq_true_eq, Bool.not_eq_true', Bool.not_true, Bool.not_false, Bool.false_eq_true, if_false, decide_eq_false_iff_not, not_true_eq_false, not_false_eq_true, decide_true, decide_false, FL.ix0, FL.ix1, FL.ix2, FL.ix3, FL.ix4, FL.sl_tup, FL.len_tup, FL.list_tup, FL.tuple_tup, FL.max_ok, FL.min_ok, FL.ge_ok, FL.lt_ok]
    rw [show lastL n c = c by show c.drop (c.length - n) = c; rw [show c.length - n = 0 by omega]; rfl]
  · simp only [h, decide_false]
    simp (disch := decide +kernel) only [FL.mod_ok, FL.fdiv_ok, FL.small_ok, FL.pow_ok, Int.reducePow, Int.reduceToNat, FL.fnOf, startR, fVar, fC, faNil, faCons, fTup, fLst, fOp, fFn, fSl, foNone, foSome, asB, ftNot, ftAnd, ftOr, sNext, sSeq, sDrop, sRet, sIf, sAsg, gtName, gtNil, gtCons, gtTup, arity, bind_ok, stm_ok, seq_next, seq_ret, seq_ex, sub_ok, add_ok, h_get0, h_getk, h_app, h_len, h_set0, h_setk, veq_int, vne_int, veq_str1, veq_str0, vne_str1, vne_str0, List.map_cons, List.map_nil, List.length_cons, List.length_nil, List.replicate, List.cons_append, List.nil_append, List.getElem?_cons_zero, List.getElem?_cons_succ, List.set_cons_zero, List.set_cons_succ, Nat.reduceSub, Nat.reduceAdd, if_true, decide_eq_true_eq, Bool.not_eq_true', Bool.not_true, Bool.not_false, Bool.false_eq_true, if_false, decide_eq_false_iff_not, not_true_eq_false, not_false_eq_true, decide_true, decide_false, FL.ix0, FL.ix1, FL.ix2, FL.ix3, FL.ix4, FL.sl_tup, FL.len_tup, FL.list_tup, FL.tuple_tup, FL.max_ok, FL.min_ok, FL.ge_ok, FL.lt_ok]
    have e2 : ((c.length : Int) - (n : Int)) = ((c.length - n : Nat) : Int) := by omega
    rw [List.length_map, e2, cut_from, ← List.map_drop]
theorem due_ok {n : Nat} {x : FD} {M : MH} : ∃ G, F_law_due [fV x, .int n] M = .ok (fV (cutD n x)) (M ++ G) := by
  have e3 : ∀ (d : List Int) M, F_law_last [iV d, .int n] M = .ok (iV (lastL n d)) M := fun d M => last_ok
  unfold F_law_due B_law_due
  cases x with
  | reach b c =>
    simp only [fV, cutD]
    simp (disch := decide +kernel) only [FL.mod_ok, FL.fdiv_ok, FL.small_ok, FL.pow_ok, Int.reducePow, Int.reduceToNat, FL.fnOf, startR, fVar, fC, faNil, faCons, fTup, fLst, fOp, fFn, fSl, foNone, foSome, asB, ftNot, ftAnd, ftOr, sNext, sSeq, sDrop, sRet, sIf, sAsg, gtName, gtNil, gtCons, gtTup, arity, bind_ok, stm_ok, seq_next, seq_ret, seq_ex, sub_ok, add_ok, h_get0, h_getk, h_app, h_len, h_set0, h_setk, veq_int, vne_int, veq_str1, veq_str0, vne_str1, vne_str0, List.map_cons, List.map_nil, List.length_cons, List.length_nil, List.replicate, List.cons_append, List.nil_append, List.getElem?_cons_zero, List.getElem?_cons_succ, List.set_cons_zero, List.set_cons_succ, Nat.reduceSub, Nat.reduceAdd, if_true, decide_eq_true_eq, Bool.not_eq_true', Bool.not_true, Bool.not_false, Bool.false_eq_true, if_false, decide_eq_false_iff_not, not_true_eq_false, not_false_eq_true, decide_true, decide_false, FL.ix0, FL.ix1, FL.ix2, FL.ix3, FL.ix4, FL.sl_tup, FL.len_tup, FL.list_tup, FL.tuple_tup, FL.max_ok, FL.min_ok, FL.ge_ok, FL.lt_ok, e3]
    exact ⟨[], by rw [List.append_nil]⟩
  | goes r c d =>
    simp only [fV, cutD]
    simp (disch := decide +kernel) only [FL.mod_ok, FL.fdiv_ok, FL.small_ok, FL.pow_ok, Int.reducePow, Int.reduceToNat, FL.fnOf, startR, fVar, fC, faNil, faCons, fTup, fLst, fOp, fFn, fSl, foNone, foSome, asB, ftNot, ftAnd, ftOr, sNext, sSeq, sDrop, sRet, sIf, sAsg, gtName, gtNil, gtCons, gtTup, arity, bind_ok, stm_ok, seq_next, seq_ret, seq_ex, sub_ok, add_ok, h_get0, h_getk, h_app, h_len, h_set0, h_setk, veq_int, vne_int, veq_str1, veq_str0, vne_str1, vne_str0, List.map_cons, List.map_nil, List.length_cons, List.length_nil, List.replicate, List.cons_append, List.nil_append, List.getElem?_cons_zero, List.getElem?_cons_succ, List.set_cons_zero, List.set_cons_succ, Nat.reduceSub, Nat.reduceAdd, if_true, decide_eq_true_eq, Bool.not_eq_true', Bool.not_true, Bool.not_false, Bool.false_eq_true, if_false, decide_eq_false_iff_not, not_true_eq_false, not_false_eq_true, decide_true, decide_false, FL.ix0, FL.ix1, FL.ix2, FL.ix3, FL.ix4, FL.sl_tup, FL.len_tup, FL.list_tup, FL.tuple_tup, FL.max_ok, FL.min_ok, FL.ge_ok, FL.lt_ok, e3]
    exact ⟨[], by rw [List.append_nil]⟩
  | holds m r d =>
    have key : ∀ (a b : MV) (c : List Int) (rest : List MV), rest.length ≤ 10 → ∃ G, FL.fnOf 4 B_law_due [.tup [.str "holds", .tup (a :: b :: iV c :: rest), .tup [.int r, iV d]], .int n] M = .ok (.tup [.str "holds", .tup (a :: b :: iV (lastL n c) :: rest), .tup [.int r, iV (lastL n d)]]) (M ++ G) := by
      intro a b c rest hr
      unfold B_law_due
      have e1 : ∀ M, gSl (.tup (a :: b :: iV c :: rest)) (some 3) none M = .ok (.tup rest) M := fun M => by
        show Res.ok (MV.tup (cutM _ (some ((3 : Nat) : Int)) none)) M = _
        rw [cut_from]
        rfl
      have e2 := @add_lst M.length (M.length + 1) [a, b, iV (lastL n c)] rest (M ++ [MO.lst [a, b, iV (lastL n c)], MO.lst rest]) (by rw [h_get0]; rfl) (by rw [h_getk]; rfl) (by simp; omega)
      have e4 : gTuple [.ref (M ++ [MO.lst [a, b, iV (lastL n c)], MO.lst rest]).length] ((M ++ [MO.lst [a, b, iV (lastL n c)], MO.lst rest]) ++ [MO.lst ([a, b, iV (lastL n c)] ++ rest)]) = .ok (.tup ([a, b, iV (lastL n c)] ++ rest)) _ := gTuple_lst (lst_of (by rw [h_get0]; rfl))
      simp only [h_app, h_len, List.length_cons, List.length_nil, List.cons_append, List.nil_append, Nat.reduceAdd] at e2 e4
      simp (disch := decide +kernel) only [FL.mod_ok, FL.fdiv_ok, FL.small_ok, FL.pow_ok, Int.reducePow, Int.reduceToNat, FL.fnOf, startR, fVar, fC, faNil, faCons, fTup, fLst, fOp, fFn, fSl, foNone, foSome, asB, ftNot, ftAnd, ftOr, sNext, sSeq, sDrop, sRet, sIf, sAsg, gtName, gtNil, gtCons, gtTup, arity, bind_ok, stm_ok, seq_next, seq_ret, seq_ex, sub_ok, add_ok, h_get0, h_getk, h_app, h_len, h_set0, h_setk, veq_int, vne_int, veq_str1, veq_str0, vne_str1, vne_str0, List.map_cons, List.map_nil, List.length_cons, List.length_nil, List.replicate, List.cons_append, List.nil_append, List.getElem?_cons_zero, List.getElem?_cons_succ, List.set_cons_zero, List.set_cons_succ, Nat.reduceSub, Nat.reduceAdd, if_true, decide_eq_true_eq, Bool.not_eq_true', Bool.not_true, Bool.not_false, Bool.false_eq_true, if_false, decide_eq_false_iff_not, not_true_eq_false, not_false_eq_true, decide_true, decide_false, FL.ix0, FL.ix1, FL.ix2, FL.ix3, FL.ix4, FL.sl_tup, FL.len_tup, FL.list_tup, FL.tuple_tup, FL.max_ok, FL.min_ok, FL.ge_ok, FL.lt_ok, e1, e2, e3, e4]
      exact ⟨_, rfl⟩
    simp only [fV, cutD]
    cases m <;> exact key _ _ _ _ (by simp)
def nameD (z : Int) : ND :=
  if z % 6 = 0 then .loc (pick3 "main" "fa" "ka.m" (z / 6)) (callsV (z / 6)) (pick3 "x" "self" "w.f" (z / 18))
  else if z % 6 = 1 then .giv (pick3 "main" "fa" "ka.m" (z / 6)) (callsV (z / 6))
  else if z % 6 = 2 then .each (z / 30 % 1000000000) (callsV (z / 6))
  else pick3 (.fld (z / 30 % 1000000000) (callsV (z / 6))) (.kep (z / 30 % 1000000000) (callsV (z / 6))) (.loc "fb" (callsV (z / 6)) "y") z
def factD (z : Int) : FD :=
  if z % 4 = 0 then .reach (pick3 "main" "fa" "ka.m" (z / 4)) (callsV (z / 12))
  else if z % 4 = 1 then .goes (z / 4 % 1000000000) (callsV (z / 5)) (callsV (z / 7 + 1))
  else .holds (nameD (z / 4)) (z / 9 % 1000000000) (callsV (z / 11 + 3))
theorem ok3 {i : Int} : PyData.strOk (pick3 "main" "fa" "ka.m" i) = true := pick3_of (p := fun s : Str => PyData.strOk s = true) (by decide +kernel) (by decide +kernel) (by decide +kernel) i
theorem ok3x {i : Int} : PyData.strOk (pick3 "x" "self" "w.f" i) = true := pick3_of (p := fun s : Str => PyData.strOk s = true) (by decide +kernel) (by decide +kernel) (by decide +kernel) i
theorem nameD_short (z : Int) : shortN (nameD z) := by
  unfold nameD
  split
  · exact ⟨ok3, ok3x, callsV_len _⟩
  split
  · exact ⟨ok3, callsV_len _⟩
  split
  · exact callsV_len _
  · exact pick3_of (p := shortN) (show shortN (.fld _ _) from callsV_len _) (show shortN (.kep _ _) from callsV_len _) (show shortN (.loc _ _ _) from ⟨by decide +kernel, by decide +kernel, callsV_len _⟩) z
theorem factD_short (z : Int) : shortD (factD z) := by
  unfold factD
  split
  · exact ⟨ok3, callsV_len _⟩
  split
  · exact ⟨callsV_len _, callsV_len _⟩
  · exact ⟨nameD_short _, callsV_len _⟩
theorem name_ok (n : Nat) (z : Int) (M : MH) (hz : Lg n z) (h0 : 0 < n) (hn : n ≤ 2000000) : ∃ G, F_law_name [.int z] M = .ok (nV (nameD z)) (M ++ G) := by
  obtain ⟨G1, e1⟩ := calls_ok n (z / 6) M (Lg_div hz 6) h0 hn
  unfold F_law_name B_law_name
  by_cases h : z % 6 = 0
  · simp (disch := decide +kernel) only [FL.mod_ok, FL.fdiv_ok, FL.small_ok, FL.pow_ok, Int.reducePow, Int.reduceToNat, FL.fnOf, startR, fVar, fC, faNil, faCons, fTup, fLst, fOp, fFn, fSl, foNone, foSome, asB, ftNot, ftAnd, ftOr, sNext, sSeq, sDrop, sRet, sIf, sAsg, gtName, gtNil, gtCons, gtTup, arity, bind_ok, stm_ok, seq_next, seq_ret, seq_ex, sub_ok, add_ok, h_get0, h_getk, h_app, h_len, h_set0, h_setk, veq_int, vne_int, veq_str1, veq_str0, vne_str1, vne_str0, List.map_cons, List.map_nil, List.length_cons, List.length_nil, List.replicate, List.cons_append, List.nil_append, List.getElem?_cons_zero, List.getElem?_cons_succ, List.set_cons_zero, List.set_cons_succ, Nat.reduceSub, Nat.reduceAdd, if_true, decide_eq_true_eq, Bool.not_eq_true', Bool.not_true, Bool.not_false, Bool.false_eq_true, if_false, decide_eq_false_iff_not, not_true_eq_false, not_false_eq_true, decide_true, decide_false, FL.ix0, FL.ix1, FL.ix2, FL.ix3, FL.ix4, FL.sl_tup, FL.len_tup, FL.list_tup, FL.tuple_tup, FL.max_ok, FL.min_ok, FL.ge_ok, FL.lt_ok, gSl, gIx, gIxA, gTuple, gList, lstOf, atI_2, atI_3, atI_4, pick2_str, pick3_str, pick4_str, pick2_tup, pick4_tup, e1, eq_true h]
    simp only [eq_true h, nameD, if_true, nV]
    exact ⟨_, rfl⟩
  by_cases h1 : z % 6 = 1
  · simp (disch := decide +kernel) only [FL.mod_ok, FL.fdiv_ok, FL.small_ok, FL.pow_ok, Int.reducePow, Int.reduceToNat, FL.fnOf, startR, fVar, fC, faNil, faCons, fTup, fLst, fOp, fFn, fSl, foNone, foSome, asB, ftNot, ftAnd, ftOr, sNext, sSeq, sDrop, sRet, sIf, sAsg, gtName, gtNil, gtCons, gtTup, arity, bind_ok, stm_ok, seq_next, seq_ret, seq_ex, sub_ok, add_ok, h_get0, h_getk, h_app, h_len, h_set0, h_setk, veq_int, vne_int, veq_str1, veq_str0, vne_str1, vne_str0, List.map_cons, List.map_nil, List.length_cons, List.length_nil, List.replicate, List.cons_append, List.nil_append, List.getElem?_cons_zero, List.getElem?_cons_succ, List.set_cons_zero, List.set_cons_succ, Nat.reduceSub, Nat.reduceAdd, if_true, decide_eq_true_eq, Bool.not_eq_true', Bool.not_true, Bool.not_false, Bool.false_eq_true, if_false, decide_eq_false_iff_not, not_true_eq_false, not_false_eq_true, decide_true, decide_false, FL.ix0, FL.ix1, FL.ix2, FL.ix3, FL.ix4, FL.sl_tup, FL.len_tup, FL.list_tup, FL.tuple_tup, FL.max_ok, FL.min_ok, FL.ge_ok, FL.lt_ok, gSl, gIx, gIxA, gTuple, gList, lstOf, atI_2, atI_3, atI_4, pick2_str, pick3_str, pick4_str, pick2_tup, pick4_tup, e1, eq_false h, eq_true h1]
    simp only [eq_true h1, nameD, if_true, nV, eq_false h, if_false]
    exact ⟨_, rfl⟩
  by_cases h2 : z % 6 = 2
  · simp (disch := decide +kernel) only [FL.mod_ok, FL.fdiv_ok, FL.small_ok, FL.pow_ok, Int.reducePow, Int.reduceToNat, FL.fnOf, startR, fVar, fC, faNil, faCons, fTup, fLst, fOp, fFn, fSl, foNone, foSome, asB, ftNot, ftAnd, ftOr, sNext, sSeq, sDrop, sRet, sIf, sAsg, gtName, gtNil, gtCons, gtTup, arity, bind_ok, stm_ok, seq_next, seq_ret, seq_ex, sub_ok, add_ok, h_get0, h_getk, h_app, h_len, h_set0, h_setk, veq_int, vne_int, veq_str1, veq_str0, vne_str1, vne_str0, List.map_cons, List.map_nil, List.length_cons, List.length_nil, List.replicate, List.cons_append, List.nil_append, List.getElem?_cons_zero, List.getElem?_cons_succ, List.set_cons_zero, List.set_cons_succ, Nat.reduceSub, Nat.reduceAdd, if_true, decide_eq_true_eq, Bool.not_eq_true', Bool.not_true, Bool.not_false, Bool.false_eq_true, if_false, decide_eq_false_iff_not, not_true_eq_false, not_false_eq_true, decide_true, decide_false, FL.ix0, FL.ix1, FL.ix2, FL.ix3, FL.ix4, FL.sl_tup, FL.len_tup, FL.list_tup, FL.tuple_tup, FL.max_ok, FL.min_ok, FL.ge_ok, FL.lt_ok, gSl, gIx, gIxA, gTuple, gList, lstOf, atI_2, atI_3, atI_4, pick2_str, pick3_str, pick4_str, pick2_tup, pick4_tup, e1, eq_false h, eq_false h1, eq_true h2]
    simp only [eq_true h2, nameD, if_true, nV, eq_false h, eq_false h1, if_false]
    exact ⟨_, rfl⟩
  simp (disch := decide +kernel) only [FL.mod_ok, FL.fdiv_ok, FL.small_ok, FL.pow_ok, Int.reducePow, Int.reduceToNat, FL.fnOf, startR, fVar, fC, faNil, faCons, fTup, fLst, fOp, fFn, fSl, foNone, foSome, asB, ftNot, ftAnd, ftOr, sNext, sSeq, sDrop, sRet, sIf, sAsg, gtName, gtNil, gtCons, gtTup, arity, bind_ok, stm_ok, seq_next, seq_ret, seq_ex, sub_ok, add_ok, h_get0, h_getk, h_app, h_len, h_set0, h_setk, veq_int, vne_int, veq_str1, veq_str0, vne_str1, vne_str0, List.map_cons, List.map_nil, List.length_cons, List.length_nil, List.replicate, List.cons_append, List.nil_append, List.getElem?_cons_zero, List.getElem?_cons_succ, List.set_cons_zero, List.set_cons_succ, Nat.reduceSub, Nat.reduceAdd, if_true, decide_eq_true_eq, Bool.not_eq_true', Bool.not_true, Bool.not_false, Bool.false_eq_true, if_false, decide_eq_false_iff_not, not_true_eq_false, not_false_eq_true, decide_true, decide_false, FL.ix0, FL.ix1, FL.ix2, FL.ix3, FL.ix4, FL.sl_tup, FL.len_tup, FL.list_tup, FL.tuple_tup, FL.max_ok, FL.min_ok, FL.ge_ok, FL.lt_ok, gSl, gIx, gIxA, gTuple, gList, lstOf, atI_2, atI_3, atI_4, pick2_str, pick3_str, pick4_str, pick2_tup, pick4_tup, e1, eq_false h, eq_false h1, eq_false h2]
  simp only [nameD, eq_false h, eq_false h1, eq_false h2, if_false]
  rw [← pick3_f nV]
  exact ⟨_, rfl⟩
theorem fact_ok (n : Nat) (z : Int) (M : MH) (hz : Lg n z) (h0 : 0 < n) (hn : n + 2 ≤ 2000000) : ∃ G, F_law_fact [.int z] M = .ok (fV (factD z)) (M ++ G) := by
  unfold F_law_fact B_law_fact
  by_cases h : z % 4 = 0
  · simp (disch := decide +kernel) only [FL.mod_ok, FL.fdiv_ok, FL.small_ok, FL.pow_ok, Int.reducePow, Int.reduceToNat, FL.fnOf, startR, fVar, fC, faNil, faCons, fTup, fLst, fOp, fFn, fSl, foNone, foSome, asB, ftNot, ftAnd, ftOr, sNext, sSeq, sDrop, sRet, sIf, sAsg, gtName, gtNil, gtCons, gtTup, arity, bind_ok, stm_ok, seq_next, seq_ret, seq_ex, sub_ok, add_ok, h_get0, h_getk, h_app, h_len, h_set0, h_setk, veq_int, vne_int, veq_str1, veq_str0, vne_str1, vne_str0, List.map_cons, List.map_nil, List.length_cons, List.length_nil, List.replicate, List.cons_append, List.nil_append, List.getElem?_cons_zero, List.getElem?_cons_succ, List.set_cons_zero, List.set_cons_succ, Nat.reduceSub, Nat.reduceAdd, if_true, decide_eq_true_eq, Bool.not_eq_true', Bool.not_true, Bool.not_false, Bool.false_eq_true, if_false, decide_eq_false_iff_not, not_true_eq_false, not_false_eq_true, decide_true, decide_false, FL.ix0, FL.ix1, FL.ix2, FL.ix3, FL.ix4, FL.sl_tup, FL.len_tup, FL.list_tup, FL.tuple_tup, FL.max_ok, FL.min_ok, FL.ge_ok, FL.lt_ok, gSl, gIx, gIxA, gTuple, gList, lstOf, atI_2, atI_3, atI_4, pick2_str, pick3_str, pick4_str, pick2_tup, pick4_tup, eq_true h]
    obtain ⟨G1, e1⟩ := calls_ok n (z / 12) (M ++ [.lst [.str "main", .str "fa", .str "ka.m"]]) (Lg_div hz 12) h0 (by omega)
    simp (disch := decide +kernel) only [FL.mod_ok, FL.fdiv_ok, FL.small_ok, FL.pow_ok, Int.reducePow, Int.reduceToNat, FL.fnOf, startR, fVar, fC, faNil, faCons, fTup, fLst, fOp, fFn, fSl, foNone, foSome, asB, ftNot, ftAnd, ftOr, sNext, sSeq, sDrop, sRet, sIf, sAsg, gtName, gtNil, gtCons, gtTup, arity, bind_ok, stm_ok, seq_next, seq_ret, seq_ex, sub_ok, add_ok, h_get0, h_getk, h_app, h_len, h_set0, h_setk, veq_int, vne_int, veq_str1, veq_str0, vne_str1, vne_str0, List.map_cons, List.map_nil, List.length_cons, List.length_nil, List.replicate, List.cons_append, List.nil_append, List.getElem?_cons_zero, List.getElem?_cons_succ, List.set_cons_zero, List.set_cons_succ, Nat.reduceSub, Nat.reduceAdd, if_true, decide_eq_true_eq, Bool.not_eq_true', Bool.not_true, Bool.not_false, Bool.false_eq_true, if_false, decide_eq_false_iff_not, not_true_eq_false, not_false_eq_true, decide_true, decide_false, FL.ix0, FL.ix1, FL.ix2, FL.ix3, FL.ix4, FL.sl_tup, FL.len_tup, FL.list_tup, FL.tuple_tup, FL.max_ok, FL.min_ok, FL.ge_ok, FL.lt_ok, gSl, gIx, gIxA, gTuple, gList, lstOf, atI_2, atI_3, atI_4, pick2_str, pick3_str, pick4_str, pick2_tup, pick4_tup, e1]
    simp only [eq_true h, factD, if_true, fV]
    exact ⟨_, rfl⟩
  by_cases h1 : z % 4 = 1
  · simp (disch := decide +kernel) only [FL.mod_ok, FL.fdiv_ok, FL.small_ok, FL.pow_ok, Int.reducePow, Int.reduceToNat, FL.fnOf, startR, fVar, fC, faNil, faCons, fTup, fLst, fOp, fFn, fSl, foNone, foSome, asB, ftNot, ftAnd, ftOr, sNext, sSeq, sDrop, sRet, sIf, sAsg, gtName, gtNil, gtCons, gtTup, arity, bind_ok, stm_ok, seq_next, seq_ret, seq_ex, sub_ok, add_ok, h_get0, h_getk, h_app, h_len, h_set0, h_setk, veq_int, vne_int, veq_str1, veq_str0, vne_str1, vne_str0, List.map_cons, List.map_nil, List.length_cons, List.length_nil, List.replicate, List.cons_append, List.nil_append, List.getElem?_cons_zero, List.getElem?_cons_succ, List.set_cons_zero, List.set_cons_succ, Nat.reduceSub, Nat.reduceAdd, if_true, decide_eq_true_eq, Bool.not_eq_true', Bool.not_true, Bool.not_false, Bool.false_eq_true, if_false, decide_eq_false_iff_not, not_true_eq_false, not_false_eq_true, decide_true, decide_false, FL.ix0, FL.ix1, FL.ix2, FL.ix3, FL.ix4, FL.sl_tup, FL.len_tup, FL.list_tup, FL.tuple_tup, FL.max_ok, FL.min_ok, FL.ge_ok, FL.lt_ok, gSl, gIx, gIxA, gTuple, gList, lstOf, atI_2, atI_3, atI_4, pick2_str, pick3_str, pick4_str, pick2_tup, pick4_tup, eq_false h, eq_true h1]
    obtain ⟨G1, e1⟩ := calls_ok n (z / 5) M (Lg_div hz 5) h0 (by omega)
    simp (disch := decide +kernel) only [FL.mod_ok, FL.fdiv_ok, FL.small_ok, FL.pow_ok, Int.reducePow, Int.reduceToNat, FL.fnOf, startR, fVar, fC, faNil, faCons, fTup, fLst, fOp, fFn, fSl, foNone, foSome, asB, ftNot, ftAnd, ftOr, sNext, sSeq, sDrop, sRet, sIf, sAsg, gtName, gtNil, gtCons, gtTup, arity, bind_ok, stm_ok, seq_next, seq_ret, seq_ex, sub_ok, add_ok, h_get0, h_getk, h_app, h_len, h_set0, h_setk, veq_int, vne_int, veq_str1, veq_str0, vne_str1, vne_str0, List.map_cons, List.map_nil, List.length_cons, List.length_nil, List.replicate, List.cons_append, List.nil_append, List.getElem?_cons_zero, List.getElem?_cons_succ, List.set_cons_zero, List.set_cons_succ, Nat.reduceSub, Nat.reduceAdd, if_true, decide_eq_true_eq, Bool.not_eq_true', Bool.not_true, Bool.not_false, Bool.false_eq_true, if_false, decide_eq_false_iff_not, not_true_eq_false, not_false_eq_true, decide_true, decide_false, FL.ix0, FL.ix1, FL.ix2, FL.ix3, FL.ix4, FL.sl_tup, FL.len_tup, FL.list_tup, FL.tuple_tup, FL.max_ok, FL.min_ok, FL.ge_ok, FL.lt_ok, gSl, gIx, gIxA, gTuple, gList, lstOf, atI_2, atI_3, atI_4, pick2_str, pick3_str, pick4_str, pick2_tup, pick4_tup, e1]
    obtain ⟨G2, e2⟩ := calls_ok (n + 2) (z / 7 + 1) (M ++ G1) (Lg_add (Lg_div hz 7) (by decide)) (by omega) hn
    simp (disch := decide +kernel) only [FL.mod_ok, FL.fdiv_ok, FL.small_ok, FL.pow_ok, Int.reducePow, Int.reduceToNat, FL.fnOf, startR, fVar, fC, faNil, faCons, fTup, fLst, fOp, fFn, fSl, foNone, foSome, asB, ftNot, ftAnd, ftOr, sNext, sSeq, sDrop, sRet, sIf, sAsg, gtName, gtNil, gtCons, gtTup, arity, bind_ok, stm_ok, seq_next, seq_ret, seq_ex, sub_ok, add_ok, h_get0, h_getk, h_app, h_len, h_set0, h_setk, veq_int, vne_int, veq_str1, veq_str0, vne_str1, vne_str0, List.map_cons, List.map_nil, List.length_cons, List.length_nil, List.replicate, List.cons_append, List.nil_append, List.getElem?_cons_zero, List.getElem?_cons_succ, List.set_cons_zero, List.set_cons_succ, Nat.reduceSub, Nat.reduceAdd, if_true, decide_eq_true_eq, Bool.not_eq_true', Bool.not_true, Bool.not_false, Bool.false_eq_true, if_false, decide_eq_false_iff_not, not_true_eq_false, not_false_eq_true, decide_true, decide_false, FL.ix0, FL.ix1, FL.ix2, FL.ix3, FL.ix4, FL.sl_tup, FL.len_tup, FL.list_tup, FL.tuple_tup, FL.max_ok, FL.min_ok, FL.ge_ok, FL.lt_ok, gSl, gIx, gIxA, gTuple, gList, lstOf, atI_2, atI_3, atI_4, pick2_str, pick3_str, pick4_str, pick2_tup, pick4_tup, e2]
    simp only [eq_true h1, factD, if_true, fV, eq_false h, if_false]
    exact ⟨_, rfl⟩
  · simp (disch := decide +kernel) only [FL.mod_ok, FL.fdiv_ok, FL.small_ok, FL.pow_ok, Int.reducePow, Int.reduceToNat, FL.fnOf, startR, fVar, fC, faNil, faCons, fTup, fLst, fOp, fFn, fSl, foNone, foSome, asB, ftNot, ftAnd, ftOr, sNext, sSeq, sDrop, sRet, sIf, sAsg, gtName, gtNil, gtCons, gtTup, arity, bind_ok, stm_ok, seq_next, seq_ret, seq_ex, sub_ok, add_ok, h_get0, h_getk, h_app, h_len, h_set0, h_setk, veq_int, vne_int, veq_str1, veq_str0, vne_str1, vne_str0, List.map_cons, List.map_nil, List.length_cons, List.length_nil, List.replicate, List.cons_append, List.nil_append, List.getElem?_cons_zero, List.getElem?_cons_succ, List.set_cons_zero, List.set_cons_succ, Nat.reduceSub, Nat.reduceAdd, if_true, decide_eq_true_eq, Bool.not_eq_true', Bool.not_true, Bool.not_false, Bool.false_eq_true, if_false, decide_eq_false_iff_not, not_true_eq_false, not_false_eq_true, decide_true, decide_false, FL.ix0, FL.ix1, FL.ix2, FL.ix3, FL.ix4, FL.sl_tup, FL.len_tup, FL.list_tup, FL.tuple_tup, FL.max_ok, FL.min_ok, FL.ge_ok, FL.lt_ok, gSl, gIx, gIxA, gTuple, gList, lstOf, atI_2, atI_3, atI_4, pick2_str, pick3_str, pick4_str, pick2_tup, pick4_tup, eq_false h, eq_false h1]
    obtain ⟨G1, e1⟩ := name_ok n (z / 4) M (Lg_div hz 4) h0 (by omega)
    simp (disch := decide +kernel) only [FL.mod_ok, FL.fdiv_ok, FL.small_ok, FL.pow_ok, Int.reducePow, Int.reduceToNat, FL.fnOf, startR, fVar, fC, faNil, faCons, fTup, fLst, fOp, fFn, fSl, foNone, foSome, asB, ftNot, ftAnd, ftOr, sNext, sSeq, sDrop, sRet, sIf, sAsg, gtName, gtNil, gtCons, gtTup, arity, bind_ok, stm_ok, seq_next, seq_ret, seq_ex, sub_ok, add_ok, h_get0, h_getk, h_app, h_len, h_set0, h_setk, veq_int, vne_int, veq_str1, veq_str0, vne_str1, vne_str0, List.map_cons, List.map_nil, List.length_cons, List.length_nil, List.replicate, List.cons_append, List.nil_append, List.getElem?_cons_zero, List.getElem?_cons_succ, List.set_cons_zero, List.set_cons_succ, Nat.reduceSub, Nat.reduceAdd, if_true, decide_eq_true_eq, Bool.not_eq_true', Bool.not_true, Bool.not_false, Bool.false_eq_true, if_false, decide_eq_false_iff_not, not_true_eq_false, not_false_eq_true, decide_true, decide_false, FL.ix0, FL.ix1, FL.ix2, FL.ix3, FL.ix4, FL.sl_tup, FL.len_tup, FL.list_tup, FL.tuple_tup, FL.max_ok, FL.min_ok, FL.ge_ok, FL.lt_ok, gSl, gIx, gIxA, gTuple, gList, lstOf, atI_2, atI_3, atI_4, pick2_str, pick3_str, pick4_str, pick2_tup, pick4_tup, e1]
    obtain ⟨G2, e2⟩ := calls_ok (n + 2) (z / 11 + 3) (M ++ G1) (Lg_add (Lg_div hz 11) (by decide)) (by omega) hn
    simp (disch := decide +kernel) only [FL.mod_ok, FL.fdiv_ok, FL.small_ok, FL.pow_ok, Int.reducePow, Int.reduceToNat, FL.fnOf, startR, fVar, fC, faNil, faCons, fTup, fLst, fOp, fFn, fSl, foNone, foSome, asB, ftNot, ftAnd, ftOr, sNext, sSeq, sDrop, sRet, sIf, sAsg, gtName, gtNil, gtCons, gtTup, arity, bind_ok, stm_ok, seq_next, seq_ret, seq_ex, sub_ok, add_ok, h_get0, h_getk, h_app, h_len, h_set0, h_setk, veq_int, vne_int, veq_str1, veq_str0, vne_str1, vne_str0, List.map_cons, List.map_nil, List.length_cons, List.length_nil, List.replicate, List.cons_append, List.nil_append, List.getElem?_cons_zero, List.getElem?_cons_succ, List.set_cons_zero, List.set_cons_succ, Nat.reduceSub, Nat.reduceAdd, if_true, decide_eq_true_eq, Bool.not_eq_true', Bool.not_true, Bool.not_false, Bool.false_eq_true, if_false, decide_eq_false_iff_not, not_true_eq_false, not_false_eq_true, decide_true, decide_false, FL.ix0, FL.ix1, FL.ix2, FL.ix3, FL.ix4, FL.sl_tup, FL.len_tup, FL.list_tup, FL.tuple_tup, FL.max_ok, FL.min_ok, FL.ge_ok, FL.lt_ok, gSl, gIx, gIxA, gTuple, gList, lstOf, atI_2, atI_3, atI_4, pick2_str, pick3_str, pick4_str, pick2_tup, pick4_tup, e2]
    simp only [eq_false h1, factD, fV, eq_false h, if_false]
    exact ⟨_, rfl⟩
theorem fV_N (x : FD) (h : shortD x) : okN (fV x) = true := okN_of (fV_ok h) (fV_tup x)
/-- a dict grows by one key -/
theorem put_one {M0 : MH} {kvs : List (MV × MV)} {k : MV} (hk : kvs.all (fun p => isTup p.1) = true) (hN : okN k = true) (hl : kvs.length ≤ 1000) :
    putM (M0 ++ [.dct kvs]) (.ref M0.length) k (.bl true) = some (M0 ++ [.dct (dPut kvs k (.bl true))]) ∧ (dPut kvs k (.bl true)).all (fun p => isTup p.1) = true := by
  have g0 : (M0 ++ [MO.dct kvs])[M0.length]? = some (.dct kvs) := by rw [h_get0]; rfl
  have hm : modeOk kvs k = true := by
    unfold modeOk mN
    rw [hN, hk]
    simp
  have ht : isTup k = true := by
    unfold okN at hN
    exact (Bool.and_eq_true _ _ ▸ hN).1
  refine ⟨?_, dPut_keys hk ht⟩
  rw [put_dct_ok g0 hm (by omega), h_set0]
  rfl
def leadB : FS := (sIf (asB (fOp gNotIn (fFn (arity 2 F_cut_fact) (faCons (fVar 4) (faCons (fVar 2) faNil))) (fVar 3))) (sRet (fC (.bl false))) sNext)
def leadR (b : Bool) (f o n : Nat) (M : MH) (kvs : List (MV × MV)) (r : RSt) : Prop := if b = true then ∃ x4, r = .next [some (.ref f), some (.ref o), some (.int n), some (.ref M.length), x4] (M ++ [.dct kvs]) else r = .ret (.bl false) (M ++ [.dct kvs])
theorem leads_ok {f o n : Nat} {facts : List FD} {others : List MV} {M : MH} (hf : lstOf M (.ref f) = some (facts.map fV)) (ho : lstOf M (.ref o) = some others) (gf : ∀ x ∈ facts, shortD x) (go : ∀ x ∈ others, okN x = true) (hl : others.length ≤ 1000) :
    ∃ G, F_leads [.ref f, .ref o, .int n] M = .ok (.bl (facts.all fun x => decide (fV (cutD n x) ∈ others))) (M ++ G) := by
  have s1 : ∃ kvs x4, sFor (fiAny (fVar 1)) (gtName 4) (sPut (fVar 3) (fVar 4) (fC (.bl true))) [some (.ref f), some (.ref o), some (.int n), some (.ref M.length), none] (M ++ [.dct []]) = .next [some (.ref f), some (.ref o), some (.int n), some (.ref M.length), x4] (M ++ [.dct kvs]) ∧ kvs.all (fun p => isTup p.1) = true ∧ kvs.map (·.1) = onceF others := by
    refine for_list (all := others) (m := o) (M1 := M ++ [.dct []]) (fun pre xs ρ M2 => ∃ kvs x4, ρ = [some (.ref f), some (.ref o), some (.int n), some (.ref M.length), x4] ∧ M2 = M ++ [.dct kvs] ∧ kvs.all (fun p => isTup p.1) = true ∧ kvs.map (·.1) = onceF pre) (fun r => ∃ kvs x4, r = .next [some (.ref f), some (.ref o), some (.int n), some (.ref M.length), x4] (M ++ [.dct kvs]) ∧ kvs.all (fun p => isTup p.1) = true ∧ kvs.map (·.1) = onceF others) rfl (lstOf_old ho) ⟨[], none, rfl, rfl, rfl, rfl⟩ ?_ ?_
    · rintro pre x xs hx ρ M2 ⟨kvs, x4, rfl, rfl, h1, h2⟩
      left
      have hlen : kvs.length ≤ 1000 := by
        have e1 := congrArg List.length h2
        have e2 := onceF_len pre
        have e3 := congrArg List.length hx
        rw [List.length_map] at e1
        rw [List.length_append] at e3
        omega
      obtain ⟨p1, p2⟩ := put_one (M0 := M) h1 (go x (by rw [hx]; simp)) hlen
      refine ⟨[some (.ref f), some (.ref o), some (.int n), some (.ref M.length), some x], M ++ [.dct (dPut kvs x (.bl true))], .inl ?_, lstOf_old ho, _, some x, rfl, rfl, p2, by rw [dPut_map, h2, onceF_snoc]⟩
      unfold sPut
      simp (disch := decide +kernel) only [FL.mod_ok, FL.fdiv_ok, FL.small_ok, FL.pow_ok, Int.reducePow, Int.reduceToNat, FL.fnOf, startR, fVar, fC, faNil, faCons, fTup, fLst, fOp, fFn, fSl, foNone, foSome, asB, ftNot, ftAnd, ftOr, sNext, sSeq, sDrop, sRet, sIf, sAsg, gtName, gtNil, gtCons, gtTup, arity, bind_ok, stm_ok, seq_next, seq_ret, seq_ex, sub_ok, add_ok, h_get0, h_getk, h_app, h_len, h_set0, h_setk, veq_int, vne_int, veq_str1, veq_str0, vne_str1, vne_str0, List.map_cons, List.map_nil, List.length_cons, List.length_nil, List.replicate, List.cons_append, List.nil_append, List.getElem?_cons_zero, List.getElem?_cons_succ, List.set_cons_zero, List.set_cons_succ, Nat.reduceSub, Nat.reduceAdd, if_true, decide_eq_true_eq, Bool.not_eq_true', Bool.not_true, Bool.not_false, Bool.false_eq_true, if_false, decide_eq_false_iff_not, not_true_eq_false, not_false_eq_true, decide_true, decide_false, FL.ix0, FL.ix1, FL.ix2, FL.ix3, FL.ix4, FL.sl_tup, FL.len_tup, FL.list_tup, FL.tuple_tup, FL.max_ok, FL.min_ok, FL.ge_ok, FL.lt_ok, p1]
    · rintro ρ M2 ⟨kvs, x4, rfl, rfl, h1, h2⟩
      exact ⟨kvs, x4, rfl, h1, h2⟩
  obtain ⟨kvs, x4, e1, h1, h2⟩ := s1
  have gd : (M ++ [MO.dct kvs])[M.length]? = some (.dct kvs) := by rw [h_get0]; rfl
  have s2 : leadR (facts.all fun x => decide (fV (cutD n x) ∈ others)) f o n M kvs (sFor (fiAny (fVar 0)) (gtName 4) leadB [some (.ref f), some (.ref o), some (.int n), some (.ref M.length), x4] (M ++ [.dct kvs])) := by
    refine for_list (all := facts.map fV) (m := f) (M1 := M ++ [.dct kvs]) (fun pre xs ρ M2 => ∃ fs gs x4, facts = fs ++ gs ∧ pre = fs.map fV ∧ xs = gs.map fV ∧ ρ = [some (.ref f), some (.ref o), some (.int n), some (.ref M.length), x4] ∧ M2 = M ++ [.dct kvs] ∧ ∀ x ∈ fs, fV (cutD n x) ∈ others) (leadR (facts.all fun x => decide (fV (cutD n x) ∈ others)) f o n M kvs) rfl (lstOf_old hf) ⟨[], facts, x4, rfl, rfl, rfl, rfl, rfl, fun x hx => nomatch hx⟩ ?_ ?_
    · rintro pre x xs hx ρ M2 ⟨fs, gs, x4, hfs, hp, hgs, rfl, rfl, hall⟩
      cases gs with
      | nil => cases hgs
      | cons y gs =>
        rw [List.map_cons] at hgs
        injection hgs with hy hgs
        subst hy
        have my : y ∈ facts := by rw [hfs]; simp
        have hN := fV_N (cutD n y) (cutD_short (gf y my))
        have e2 : ∀ M, F_cut_fact [fV y, .int n] M = .ok (fV (cutD n y)) M := fun M => cutF_ok
        have e3 : gNotIn (fV (cutD n y)) (.ref M.length) (M ++ [.dct kvs]) = .ok (.bl (!decide (fV (cutD n y) ∈ others))) (M ++ [.dct kvs]) := by
          rw [gNotIn_dct gd (by unfold modeOk mN; rw [hN, h1]; simp), dGet_keys, h2]
          congr 3
          exact decide_eq_decide.mpr onceF_mem
        by_cases c : fV (cutD n y) ∈ others
        · left
          refine ⟨[some (.ref f), some (.ref o), some (.int n), some (.ref M.length), some (fV y)], M ++ [.dct kvs], .inl ?_, lstOf_old hf, fs ++ [y], gs, some (fV y), by rw [hfs]; simp, by rw [hp, List.map_append]; rfl, hgs, rfl, rfl, fun x hx => ?_⟩
          · unfold leadB
            simp (disch := decide +kernel) only [FL.mod_ok, FL.fdiv_ok, FL.small_ok, FL.pow_ok, Int.reducePow, Int.reduceToNat, FL.fnOf, startR, fVar, fC, faNil, faCons, fTup, fLst, fOp, fFn, fSl, foNone, foSome, asB, ftNot, ftAnd, ftOr, sNext, sSeq, sDrop, sRet, sIf, sAsg, gtName, gtNil, gtCons, gtTup, arity, bind_ok, stm_ok, seq_next, seq_ret, seq_ex, sub_ok, add_ok, h_get0, h_getk, h_app, h_len, h_set0, h_setk, veq_int, vne_int, veq_str1, veq_str0, vne_str1, vne_str0, List.map_cons, List.map_nil, List.length_cons, List.length_nil, List.replicate, List.cons_append, List.nil_append, List.getElem?_cons_zero, List.getElem?_cons_succ, List.set_cons_zero, List.set_cons_succ, Nat.reduceSub, Nat.reduceAdd, if_true, decide_eq_true_eq, Bool.not_eq_true', Bool.not_true, Bool.not_false, Bool.false_eq_true, if_false, decide_eq_false_iff_not, not_true_eq_false, not_false_eq_true, decide_true, decide_false, FL.ix0, FL.ix1, FL.ix2, FL.ix3, FL.ix4, FL.sl_tup, FL.len_tup, FL.list_tup, FL.tuple_tup, FL.max_ok, FL.min_ok, FL.ge_ok, FL.lt_ok, e2, e3, eq_true c]
          · rw [List.mem_append, List.mem_singleton] at hx
            rcases hx with hx | rfl
            · exact hall x hx
            · exact c
        · right
          refine ⟨.bl false, M ++ [.dct kvs], ?_, ?_⟩
          · unfold leadB
            simp (disch := decide +kernel) only [FL.mod_ok, FL.fdiv_ok, FL.small_ok, FL.pow_ok, Int.reducePow, Int.reduceToNat, FL.fnOf, startR, fVar, fC, faNil, faCons, fTup, fLst, fOp, fFn, fSl, foNone, foSome, asB, ftNot, ftAnd, ftOr, sNext, sSeq, sDrop, sRet, sIf, sAsg, gtName, gtNil, gtCons, gtTup, arity, bind_ok, stm_ok, seq_next, seq_ret, seq_ex, sub_ok, add_ok, h_get0, h_getk, h_app, h_len, h_set0, h_setk, veq_int, vne_int, veq_str1, veq_str0, vne_str1, vne_str0, List.map_cons, List.map_nil, List.length_cons, List.length_nil, List.replicate, List.cons_append, List.nil_append, List.getElem?_cons_zero, List.getElem?_cons_succ, List.set_cons_zero, List.set_cons_succ, Nat.reduceSub, Nat.reduceAdd, if_true, decide_eq_true_eq, Bool.not_eq_true', Bool.not_true, Bool.not_false, Bool.false_eq_true, if_false, decide_eq_false_iff_not, not_true_eq_false, not_false_eq_true, decide_true, decide_false, FL.ix0, FL.ix1, FL.ix2, FL.ix3, FL.ix4, FL.sl_tup, FL.len_tup, FL.list_tup, FL.tuple_tup, FL.max_ok, FL.min_ok, FL.ge_ok, FL.lt_ok, e2, e3, eq_false c]
          · unfold leadR
            rw [if_neg]
            rotate_left
            · intro h
              exact c (of_decide_eq_true (List.all_eq_true.mp h y my))
    · rintro ρ M2 ⟨fs, gs, x4, hfs, hp, hgs, rfl, rfl, hall⟩
      have : gs = [] := by
        cases gs with
        | nil => rfl
        | cons _ _ => cases hgs
      subst this
      rw [List.append_nil] at hfs
      subst hfs
      unfold leadR
      rw [if_pos (List.all_eq_true.mpr fun x hx => decide_eq_true (hall x hx))]
      exact ⟨x4, rfl⟩
  refine ⟨[.dct kvs], ?_⟩
  have e0 : fDct [some (.ref f), some (.ref o), some (.int n), none, none] M = .ok (.ref M.length) (M ++ [.dct []]) := rfl
  rw [show F_leads = FL.fnOf 5 (sSeq (sAsg fDct (gtName 3)) (sSeq (sFor (fiAny (fVar 1)) (gtName 4) (sPut (fVar 3) (fVar 4) (fC (.bl true)))) (sSeq (sFor (fiAny (fVar 0)) (gtName 4) leadB) (sRet (fC (.bl true)))))) from rfl]
  unfold leadR at s2
  generalize hP : sPut (fVar 3) (fVar 4) (fC (.bl true)) = P at e1
  cases hc : facts.all fun x => decide (fV (cutD n x) ∈ others) with
  | true =>
    rw [hc, if_pos rfl] at s2
    obtain ⟨x5, s2⟩ := s2
    simp (disch := decide +kernel) only [FL.mod_ok, FL.fdiv_ok, FL.small_ok, FL.pow_ok, Int.reducePow, Int.reduceToNat, FL.fnOf, startR, fVar, fC, faNil, faCons, fTup, fLst, fOp, fFn, fSl, foNone, foSome, asB, ftNot, ftAnd, ftOr, sNext, sSeq, sDrop, sRet, sIf, sAsg, gtName, gtNil, gtCons, gtTup, arity, bind_ok, stm_ok, seq_next, seq_ret, seq_ex, sub_ok, add_ok, h_get0, h_getk, h_app, h_len, h_set0, h_setk, veq_int, vne_int, veq_str1, veq_str0, vne_str1, vne_str0, List.map_cons, List.map_nil, List.length_cons, List.length_nil, List.replicate, List.cons_append, List.nil_append, List.getElem?_cons_zero, List.getElem?_cons_succ, List.set_cons_zero, List.set_cons_succ, Nat.reduceSub, Nat.reduceAdd, if_true, decide_eq_true_eq, Bool.not_eq_true', Bool.not_true, Bool.not_false, Bool.false_eq_true, if_false, decide_eq_false_iff_not, not_true_eq_false, not_false_eq_true, decide_true, decide_false, FL.ix0, FL.ix1, FL.ix2, FL.ix3, FL.ix4, FL.sl_tup, FL.len_tup, FL.list_tup, FL.tuple_tup, FL.max_ok, FL.min_ok, FL.ge_ok, FL.lt_ok, e0, e1, s2]
  | false =>
    rw [hc, if_neg Bool.false_ne_true] at s2
    simp (disch := decide +kernel) only [FL.mod_ok, FL.fdiv_ok, FL.small_ok, FL.pow_ok, Int.reducePow, Int.reduceToNat, FL.fnOf, startR, fVar, fC, faNil, faCons, fTup, fLst, fOp, fFn, fSl, foNone, foSome, asB, ftNot, ftAnd, ftOr, sNext, sSeq, sDrop, sRet, sIf, sAsg, gtName, gtNil, gtCons, gtTup, arity, bind_ok, stm_ok, seq_next, seq_ret, seq_ex, sub_ok, add_ok, h_get0, h_getk, h_app, h_len, h_set0, h_setk, veq_int, vne_int, veq_str1, veq_str0, vne_str1, vne_str0, List.map_cons, List.map_nil, List.length_cons, List.length_nil, List.replicate, List.cons_append, List.nil_append, List.getElem?_cons_zero, List.getElem?_cons_succ, List.set_cons_zero, List.set_cons_succ, Nat.reduceSub, Nat.reduceAdd, if_true, decide_eq_true_eq, Bool.not_eq_true', Bool.not_true, Bool.not_false, Bool.false_eq_true, if_false, decide_eq_false_iff_not, not_true_eq_false, not_false_eq_true, decide_true, decide_false, FL.ix0, FL.ix1, FL.ix2, FL.ix3, FL.ix4, FL.sl_tup, FL.len_tup, FL.list_tup, FL.tuple_tup, FL.max_ok, FL.min_ok, FL.ge_ok, FL.lt_ok, e0, e1, s2]
abbrev dueL (n : Nat) (facts : List FD) : List MV := facts.map fun x => fV (cutD n x)
theorem due_all {n : Nat} {facts : List FD} (gf : ∀ x ∈ facts, shortD x) {z : MV} (h : z ∈ dueL n facts) : ∃ x, shortD x ∧ z = fV x := by
  obtain ⟨x, hx, rfl⟩ := List.mem_map.mp h
  exact ⟨_, cutD_short (gf x hx), rfl⟩
theorem due_srt {n : Nat} {facts : List FD} (gf : ∀ x ∈ facts, shortD x) {ks : List MV} (hk : ∀ z ∈ ks, z ∈ dueL n facts) (hl : ks.length ≤ 1000) : srtOk ks = true := by
  refine srt_ok (fun z hz => ?_) (fun z hz y hy => ?_) (fun z hz => ?_) (by omega)
  · obtain ⟨x, h, rfl⟩ := due_all gf (hk z hz)
    exact okV_up 14 (fV_ok h)
  · obtain ⟨x, _, rfl⟩ := due_all gf (hk z hz)
    obtain ⟨x', _, rfl⟩ := due_all gf (hk y hy)
    exact cmpF x x'
  · obtain ⟨x, h, rfl⟩ := due_all gf (hk z hz)
    exact fV_head x
def cutB : FS := (sPut (fVar 2) (fFn (arity 2 F_cut_fact) (faCons (fVar 3) (faCons (fVar 1) faNil))) (fC (.bl true)))
theorem cutfacts_ok {f n : Nat} {facts : List FD} {M : MH} (hf : lstOf M (.ref f) = some (facts.map fV)) (gf : ∀ x ∈ facts, shortD x) (hl : facts.length ≤ 1000) :
    ∃ D, F_cut_facts [.ref f, .int n] M = .ok (.ref (M.length + 1)) (M ++ [D, .lst ((onceF (dueL n facts)).mergeSort leV)]) := by
  have s1 : ∃ kvs x3, sFor (fiAny (fVar 0)) (gtName 3) cutB [some (.ref f), some (.int n), some (.ref M.length), none] (M ++ [.dct []]) = .next [some (.ref f), some (.int n), some (.ref M.length), x3] (M ++ [.dct kvs]) ∧ kvs.all (fun p => isTup p.1) = true ∧ kvs.map (·.1) = onceF (dueL n facts) := by
    refine for_list (all := facts.map fV) (m := f) (M1 := M ++ [.dct []]) (fun pre xs ρ M2 => ∃ fs gs kvs x3, facts = fs ++ gs ∧ xs = gs.map fV ∧ ρ = [some (.ref f), some (.int n), some (.ref M.length), x3] ∧ M2 = M ++ [.dct kvs] ∧ kvs.all (fun p => isTup p.1) = true ∧ kvs.map (·.1) = onceF (dueL n fs)) (fun r => ∃ kvs x3, r = .next [some (.ref f), some (.int n), some (.ref M.length), x3] (M ++ [.dct kvs]) ∧ kvs.all (fun p => isTup p.1) = true ∧ kvs.map (·.1) = onceF (dueL n facts)) rfl (lstOf_old hf) ⟨[], facts, [], none, rfl, rfl, rfl, rfl, rfl, rfl⟩ ?_ ?_
    · rintro pre x xs hx ρ M2 ⟨fs, gs, kvs, x3, hfs, hgs, rfl, rfl, h1, h2⟩
      left
      cases gs with
      | nil => cases hgs
      | cons y gs =>
        rw [List.map_cons] at hgs
        injection hgs with hy hgs
        subst hy
        have my : y ∈ facts := by rw [hfs]; simp
        have hlen : kvs.length ≤ 1000 := by
          have e1 := congrArg List.length h2
          have e2 := onceF_len (dueL n fs)
          have e3 := congrArg List.length hfs
          rw [List.length_map] at e1 e2
          rw [List.length_append] at e3
          omega
        have e2 : ∀ M, F_cut_fact [fV y, .int n] M = .ok (fV (cutD n y)) M := fun M => cutF_ok
        obtain ⟨p1, p2⟩ := put_one (M0 := M) h1 (fV_N (cutD n y) (cutD_short (gf y my))) hlen
        refine ⟨[some (.ref f), some (.int n), some (.ref M.length), some (fV y)], M ++ [.dct (dPut kvs (fV (cutD n y)) (.bl true))], .inl ?_, lstOf_old hf, fs ++ [y], gs, _, some (fV y), by rw [hfs]; simp, hgs, rfl, rfl, p2, by rw [dPut_map, h2, ← onceF_snoc, dueL, dueL, List.map_append]; rfl⟩
        unfold cutB sPut
        simp (disch := decide +kernel) only [FL.mod_ok, FL.fdiv_ok, FL.small_ok, FL.pow_ok, Int.reducePow, Int.reduceToNat, FL.fnOf, startR, fVar, fC, faNil, faCons, fTup, fLst, fOp, fFn, fSl, foNone, foSome, asB, ftNot, ftAnd, ftOr, sNext, sSeq, sDrop, sRet, sIf, sAsg, gtName, gtNil, gtCons, gtTup, arity, bind_ok, stm_ok, seq_next, seq_ret, seq_ex, sub_ok, add_ok, h_get0, h_getk, h_app, h_len, h_set0, h_setk, veq_int, vne_int, veq_str1, veq_str0, vne_str1, vne_str0, List.map_cons, List.map_nil, List.length_cons, List.length_nil, List.replicate, List.cons_append, List.nil_append, List.getElem?_cons_zero, List.getElem?_cons_succ, List.set_cons_zero, List.set_cons_succ, Nat.reduceSub, Nat.reduceAdd, if_true, decide_eq_true_eq, Bool.not_eq_true', Bool.not_true, Bool.not_false, Bool.false_eq_true, if_false, decide_eq_false_iff_not, not_true_eq_false, not_false_eq_true, decide_true, decide_false, FL.ix0, FL.ix1, FL.ix2, FL.ix3, FL.ix4, FL.sl_tup, FL.len_tup, FL.list_tup, FL.tuple_tup, FL.max_ok, FL.min_ok, FL.ge_ok, FL.lt_ok, e2, p1]
    · rintro ρ M2 ⟨fs, gs, kvs, x3, hfs, hgs, rfl, rfl, h1, h2⟩
      have : gs = [] := by
        cases gs with
        | nil => rfl
        | cons _ _ => cases hgs
      subst this
      rw [List.append_nil] at hfs
      subst hfs
      exact ⟨kvs, x3, rfl, h1, h2⟩
  obtain ⟨kvs, x3, e1, h1, h2⟩ := s1
  have e0 : fDct [some (.ref f), some (.int n), none, none] M = .ok (.ref M.length) (M ++ [.dct []]) := rfl
  have hl2 := onceF_len (dueL n facts)
  rw [List.length_map] at hl2
  have e2 : gSorted [.ref M.length] (M ++ [MO.dct kvs]) = .ok (.ref (M ++ [MO.dct kvs]).length) ((M ++ [MO.dct kvs]) ++ [MO.lst ((kvs.map (·.1)).mergeSort leV)]) := sorted_dct (by rw [h_get0]; rfl) (by unfold keysOk; rw [h1]; simp) (due_srt gf (fun z hz => by rw [h2] at hz; exact onceF_mem.mp hz) (by rw [h2]; omega))
  rw [h2] at e2
  simp only [h_app, h_len, List.length_cons, List.length_nil, List.cons_append, List.nil_append, Nat.reduceAdd] at e2
  refine ⟨.dct kvs, ?_⟩
  rw [show F_cut_facts = FL.fnOf 4 (sSeq (sAsg fDct (gtName 2)) (sSeq (sFor (fiAny (fVar 0)) (gtName 3) cutB) (sRet (fFn gSorted (faCons (fVar 2) faNil))))) from rfl]
  simp (disch := decide +kernel) only [FL.mod_ok, FL.fdiv_ok, FL.small_ok, FL.pow_ok, Int.reducePow, Int.reduceToNat, FL.fnOf, startR, fVar, fC, faNil, faCons, fTup, fLst, fOp, fFn, fSl, foNone, foSome, asB, ftNot, ftAnd, ftOr, sNext, sSeq, sDrop, sRet, sIf, sAsg, gtName, gtNil, gtCons, gtTup, arity, bind_ok, stm_ok, seq_next, seq_ret, seq_ex, sub_ok, add_ok, h_get0, h_getk, h_app, h_len, h_set0, h_setk, veq_int, vne_int, veq_str1, veq_str0, vne_str1, vne_str0, List.map_cons, List.map_nil, List.length_cons, List.length_nil, List.replicate, List.cons_append, List.nil_append, List.getElem?_cons_zero, List.getElem?_cons_succ, List.set_cons_zero, List.set_cons_succ, Nat.reduceSub, Nat.reduceAdd, if_true, decide_eq_true_eq, Bool.not_eq_true', Bool.not_true, Bool.not_false, Bool.false_eq_true, if_false, decide_eq_false_iff_not, not_true_eq_false, not_false_eq_true, decide_true, decide_false, FL.ix0, FL.ix1, FL.ix2, FL.ix3, FL.ix4, FL.sl_tup, FL.len_tup, FL.list_tup, FL.tuple_tup, FL.max_ok, FL.min_ok, FL.ge_ok, FL.lt_ok, e0, e1, e2]
def onceB : FS := (sIf (ftOr (asB (fOp gEq (fVar 1) (fLst faNil))) (asB (fOp gNe (fOp gIxA (fVar 1) (fOp gSub (fFn gLen (faCons (fVar 1) faNil)) (fC (.int 1)))) (fVar 2)))) (sDrop (fBm [("list", gAppend)] (fVar 1) (faCons (fVar 2) faNil))) sNext)
theorem once_ok {f : Nat} {xs : List MV} {M : MH} (hf : lstOf M (.ref f) = some xs) (hs : srtOk xs = true) (ho : ∀ x ∈ xs, okV 20 x = true) (hl : xs.length ≤ 1000) :
    ∃ G, F_law_once [.ref f] M = .ok (.ref M.length) (M ++ (.lst ((xs.mergeSort leV).foldl addL []) :: G)) := by
  have hl2 : (xs.mergeSort leV).length ≤ 1000 := by rw [List.length_mergeSort]; exact hl
  have ho2 : ∀ x ∈ xs.mergeSort leV, okV 20 x = true := fun x hx => ho x ((List.mergeSort_perm xs leV).mem_iff.mp hx)
  have es : gSorted [.ref f] (M ++ [.lst []]) = .ok (.ref (M ++ [MO.lst []]).length) ((M ++ [MO.lst []]) ++ [MO.lst (xs.mergeSort leV)]) := sorted_lst (lstOf_old hf) hs
  simp only [h_app, h_len, List.length_cons, List.length_nil, List.cons_append, List.nil_append, Nat.reduceAdd] at es
  generalize xs.mergeSort leV = ys at hl2 ho2 es
  have s1 : ∃ x2 G, sFor (fiAny (fFn gSorted (faCons (fVar 0) faNil))) (gtName 2) onceB [some (.ref f), some (.ref M.length), none] (M ++ [.lst []]) = .next [some (.ref f), some (.ref M.length), x2] (M ++ (.lst (ys.foldl addL []) :: G)) := by
    refine for_list (all := ys) (m := M.length + 1) (M1 := M ++ [.lst [], .lst ys]) (fun pre xs ρ M2 => ∃ x2 G, ρ = [some (.ref f), some (.ref M.length), x2] ∧ M2 = M ++ (.lst (pre.foldl addL []) :: .lst ys :: G)) (fun r => ∃ x2 G, r = .next [some (.ref f), some (.ref M.length), x2] (M ++ (.lst (ys.foldl addL []) :: G))) ?_ (lst_of (by rw [h_getk]; rfl)) ⟨none, [], rfl, rfl⟩ ?_ ?_
    · simp (disch := decide +kernel) only [FL.mod_ok, FL.fdiv_ok, FL.small_ok, FL.pow_ok, Int.reducePow, Int.reduceToNat, FL.fnOf, startR, fVar, fC, faNil, faCons, fTup, fLst, fOp, fFn, fSl, foNone, foSome, asB, ftNot, ftAnd, ftOr, sNext, sSeq, sDrop, sRet, sIf, sAsg, gtName, gtNil, gtCons, gtTup, arity, bind_ok, stm_ok, seq_next, seq_ret, seq_ex, sub_ok, add_ok, h_get0, h_getk, h_app, h_len, h_set0, h_setk, veq_int, vne_int, veq_str1, veq_str0, vne_str1, vne_str0, List.map_cons, List.map_nil, List.length_cons, List.length_nil, List.replicate, List.cons_append, List.nil_append, List.getElem?_cons_zero, List.getElem?_cons_succ, List.set_cons_zero, List.set_cons_succ, Nat.reduceSub, Nat.reduceAdd, if_true, decide_eq_true_eq, Bool.not_eq_true', Bool.not_true, Bool.not_false, Bool.false_eq_true, if_false, decide_eq_false_iff_not, not_true_eq_false, not_false_eq_true, decide_true, decide_false, FL.ix0, FL.ix1, FL.ix2, FL.ix3, FL.ix4, FL.sl_tup, FL.len_tup, FL.list_tup, FL.tuple_tup, FL.max_ok, FL.min_ok, FL.ge_ok, FL.lt_ok, es]
    · rintro pre x xs hx ρ M2 ⟨x2, G, rfl, rfl⟩
      left
      have hsub : ∀ (zs told : List MV), (∀ z ∈ zs.foldl addL told, z ∈ told ∨ z ∈ zs) ∧ (zs.foldl addL told).length ≤ told.length + zs.length := by
        intro zs
        induction zs with
        | nil => exact fun told => ⟨fun z hz => .inl hz, by simp⟩
        | cons a zs ih =>
          intro told
          obtain ⟨i1, i2⟩ := ih (addL told a)
          have hA : (∀ z ∈ addL told a, z ∈ told ∨ z = a) ∧ (addL told a).length ≤ told.length + 1 := by
            unfold addL
            split
            · exact ⟨fun z hz => .inl hz, by omega⟩
            · exact ⟨fun z hz => by rw [List.mem_append, List.mem_singleton] at hz; exact hz, by simp⟩
          refine ⟨fun z hz => ?_, ?_⟩
          · rcases i1 z hz with h | h
            · rcases hA.1 z h with h | h
              · exact .inl h
              · exact .inr (by rw [h]; simp)
            · exact .inr (List.mem_cons_of_mem _ h)
          · have := hA.2
            rw [List.foldl_cons, List.length_cons]
            omega
      obtain ⟨hm, hml⟩ := hsub pre []
      have hpl : pre.length < 1000 := by
        have := congrArg List.length hx
        rw [List.length_append, List.length_cons] at this
        omega
      have hot : ∀ z ∈ pre.foldl addL [], okV 20 z = true := fun z hz => ho2 z (by
        rcases hm z hz with h | h
        · cases h
        · rw [hx]
          simp [h])
      have hox : okV 20 x = true := ho2 x (by rw [hx]; simp)
      generalize htold : pre.foldl addL [] = told at hot hml
      have hlt : told.length < 1000 := by simp at hml; omega
      have g1 : ∀ G, lstOf (M ++ (.lst told :: G)) (.ref M.length) = some told := fun G => lst_of (by rw [h_get0]; rfl)
      have e1 : gEq (.ref M.length) (.ref (M.length + (G.length + 1 + 1))) (M ++ (.lst told :: .lst ys :: (G ++ [.lst []]))) = .ok (.bl (decide (told = []))) (M ++ (.lst told :: .lst ys :: (G ++ [.lst []]))) := by
        refine gEq_lists (n := 20) (g1 _) (lst_of ?_) hot (fun x hx => nomatch hx)
        rw [h_getk]
        rw [List.getElem?_cons_succ, List.getElem?_cons_succ, List.getElem?_append_right (by omega), Nat.sub_self]
        rfl
      have eL : gLen [.ref M.length] (M ++ (.lst told :: .lst ys :: (G ++ [.lst []]))) = .ok (.int told.length) (M ++ (.lst told :: .lst ys :: (G ++ [.lst []]))) := gLen_lst (g1 _)
      have ty : (tyM (M ++ (.lst told :: .lst ys :: (G ++ [.lst []]))) (.ref M.length)).bind (fun T => List.lookup T [("list", gAppend)]) = some gAppend := by
        unfold tyM
        simp only [h_get0, List.getElem?_cons_zero]
        rfl
      have ma := @append_ok M.length told x (M ++ (.lst told :: .lst ys :: (G ++ [.lst []]))) (by rw [h_get0]; rfl) (by omega)
      rw [h_set0] at ma
      have fin : (pre ++ [x]).foldl addL [] = addL told x := by rw [List.foldl_append, htold]; rfl
      have app : told.getLast? ≠ some x → ∀ r, r = onceB [some (.ref f), some (.ref M.length), some x] (M ++ (.lst told :: .lst ys :: G)) → True := fun _ _ _ => trivial
      by_cases c0 : told = []
      · refine ⟨[some (.ref f), some (.ref M.length), some x], M ++ (.lst (addL told x) :: .lst ys :: (G ++ [.lst []])), .inl ?_, lst_of (by rw [h_getk]; rfl), some x, G ++ [.lst []], rfl, by rw [fin]⟩
        have hA : addL told x = told ++ [x] := by rw [addL, if_neg]; rw [c0]; simp
        simp only [List.set_cons_zero, List.set_cons_succ]
        unfold onceB
        simp (disch := decide +kernel) only [FL.mod_ok, FL.fdiv_ok, FL.small_ok, FL.pow_ok, Int.reducePow, Int.reduceToNat, FL.fnOf, startR, fVar, fC, faNil, faCons, fTup, fLst, fOp, fFn, fSl, foNone, foSome, asB, ftNot, ftAnd, ftOr, sNext, sSeq, sDrop, sRet, sIf, sAsg, gtName, gtNil, gtCons, gtTup, arity, bind_ok, stm_ok, seq_next, seq_ret, seq_ex, sub_ok, add_ok, h_get0, h_getk, h_app, h_len, h_set0, h_setk, veq_int, vne_int, veq_str1, veq_str0, vne_str1, vne_str0, List.map_cons, List.map_nil, List.length_cons, List.length_nil, List.replicate, List.cons_append, List.nil_append, List.getElem?_cons_zero, List.getElem?_cons_succ, List.set_cons_zero, List.set_cons_succ, Nat.reduceSub, Nat.reduceAdd, if_true, decide_eq_true_eq, Bool.not_eq_true', Bool.not_true, Bool.not_false, Bool.false_eq_true, if_false, decide_eq_false_iff_not, not_true_eq_false, not_false_eq_true, decide_true, decide_false, FL.ix0, FL.ix1, FL.ix2, FL.ix3, FL.ix4, FL.sl_tup, FL.len_tup, FL.list_tup, FL.tuple_tup, FL.max_ok, FL.min_ok, FL.ge_ok, FL.lt_ok, e1, eq_true c0, fBm, ty, ma, hA]
      · obtain ⟨l, hl3⟩ : ∃ l, told.getLast? = some l := by
          cases h : told.getLast? with
          | none => exact absurd (List.getLast?_eq_none_iff.mp h) c0
          | some l => exact ⟨l, rfl⟩
        have hpos : 0 < told.length := List.length_pos_iff.mpr c0
        have e2 : ((told.length : Int) - 1) = ((told.length - 1 : Nat) : Int) := by omega
        have e3 : gIxA (.ref M.length) (.int ((told.length - 1 : Nat) : Int)) (M ++ (.lst told :: .lst ys :: (G ++ [.lst []]))) = .ok l (M ++ (.lst told :: .lst ys :: (G ++ [.lst []]))) := gIxA_lst (g1 _) (L2.atI_nat (by rw [← List.getLast?_eq_getElem?]; exact hl3))
        have e4 : gNe l x (M ++ (.lst told :: .lst ys :: (G ++ [.lst []]))) = .ok (.bl (!decide (l = x))) (M ++ (.lst told :: .lst ys :: (G ++ [.lst []]))) := gNe_plain (hot l (List.mem_of_getLast? hl3)) hox
        refine ⟨[some (.ref f), some (.ref M.length), some x], M ++ (.lst (addL told x) :: .lst ys :: (G ++ [.lst []])), .inl ?_, lst_of (by rw [h_getk]; rfl), some x, G ++ [.lst []], rfl, by rw [fin]⟩
        simp only [List.set_cons_zero, List.set_cons_succ]
        unfold onceB
        by_cases c : l = x
        · have hA : addL told x = told := by rw [addL, if_pos]; rw [hl3, c]
          simp (disch := decide +kernel) only [FL.mod_ok, FL.fdiv_ok, FL.small_ok, FL.pow_ok, Int.reducePow, Int.reduceToNat, FL.fnOf, startR, fVar, fC, faNil, faCons, fTup, fLst, fOp, fFn, fSl, foNone, foSome, asB, ftNot, ftAnd, ftOr, sNext, sSeq, sDrop, sRet, sIf, sAsg, gtName, gtNil, gtCons, gtTup, arity, bind_ok, stm_ok, seq_next, seq_ret, seq_ex, sub_ok, add_ok, h_get0, h_getk, h_app, h_len, h_set0, h_setk, veq_int, vne_int, veq_str1, veq_str0, vne_str1, vne_str0, List.map_cons, List.map_nil, List.length_cons, List.length_nil, List.replicate, List.cons_append, List.nil_append, List.getElem?_cons_zero, List.getElem?_cons_succ, List.set_cons_zero, List.set_cons_succ, Nat.reduceSub, Nat.reduceAdd, if_true, decide_eq_true_eq, Bool.not_eq_true', Bool.not_true, Bool.not_false, Bool.false_eq_true, if_false, decide_eq_false_iff_not, not_true_eq_false, not_false_eq_true, decide_true, decide_false, FL.ix0, FL.ix1, FL.ix2, FL.ix3, FL.ix4, FL.sl_tup, FL.len_tup, FL.list_tup, FL.tuple_tup, FL.max_ok, FL.min_ok, FL.ge_ok, FL.lt_ok, e1, eq_false c0, eL, e2, e3, e4, eq_true c, hA]
        · have hA : addL told x = told ++ [x] := by rw [addL, if_neg]; rw [hl3]; simpa using c
          simp (disch := decide +kernel) only [FL.mod_ok, FL.fdiv_ok, FL.small_ok, FL.pow_ok, Int.reducePow, Int.reduceToNat, FL.fnOf, startR, fVar, fC, faNil, faCons, fTup, fLst, fOp, fFn, fSl, foNone, foSome, asB, ftNot, ftAnd, ftOr, sNext, sSeq, sDrop, sRet, sIf, sAsg, gtName, gtNil, gtCons, gtTup, arity, bind_ok, stm_ok, seq_next, seq_ret, seq_ex, sub_ok, add_ok, h_get0, h_getk, h_app, h_len, h_set0, h_setk, veq_int, vne_int, veq_str1, veq_str0, vne_str1, vne_str0, List.map_cons, List.map_nil, List.length_cons, List.length_nil, List.replicate, List.cons_append, List.nil_append, List.getElem?_cons_zero, List.getElem?_cons_succ, List.set_cons_zero, List.set_cons_succ, Nat.reduceSub, Nat.reduceAdd, if_true, decide_eq_true_eq, Bool.not_eq_true', Bool.not_true, Bool.not_false, Bool.false_eq_true, if_false, decide_eq_false_iff_not, not_true_eq_false, not_false_eq_true, decide_true, decide_false, FL.ix0, FL.ix1, FL.ix2, FL.ix3, FL.ix4, FL.sl_tup, FL.len_tup, FL.list_tup, FL.tuple_tup, FL.max_ok, FL.min_ok, FL.ge_ok, FL.lt_ok, e1, eq_false c0, eL, e2, e3, e4, eq_false c, fBm, ty, ma, hA]
    · rintro ρ M2 ⟨x2, G, rfl, rfl⟩
      exact ⟨x2, .lst ys :: G, rfl⟩
  obtain ⟨x2, G, e1⟩ := s1
  refine ⟨G, ?_⟩
  rw [show F_law_once = FL.fnOf 3 (sSeq (sAsg (fLst faNil) (gtName 1)) (sSeq (sFor (fiAny (fFn gSorted (faCons (fVar 0) faNil))) (gtName 2) onceB) (sRet (fVar 1)))) from rfl]
  generalize hP : fFn gSorted (faCons (fVar 0) faNil) = P at e1
  simp (disch := decide +kernel) only [FL.mod_ok, FL.fdiv_ok, FL.small_ok, FL.pow_ok, Int.reducePow, Int.reduceToNat, FL.fnOf, startR, fVar, fC, faNil, faCons, fTup, fLst, fOp, fFn, fSl, foNone, foSome, asB, ftNot, ftAnd, ftOr, sNext, sSeq, sDrop, sRet, sIf, sAsg, gtName, gtNil, gtCons, gtTup, arity, bind_ok, stm_ok, seq_next, seq_ret, seq_ex, sub_ok, add_ok, h_get0, h_getk, h_app, h_len, h_set0, h_setk, veq_int, vne_int, veq_str1, veq_str0, vne_str1, vne_str0, List.map_cons, List.map_nil, List.length_cons, List.length_nil, List.replicate, List.cons_append, List.nil_append, List.getElem?_cons_zero, List.getElem?_cons_succ, List.set_cons_zero, List.set_cons_succ, Nat.reduceSub, Nat.reduceAdd, if_true, decide_eq_true_eq, Bool.not_eq_true', Bool.not_true, Bool.not_false, Bool.false_eq_true, if_false, decide_eq_false_iff_not, not_true_eq_false, not_false_eq_true, decide_true, decide_false, FL.ix0, FL.ix1, FL.ix2, FL.ix3, FL.ix4, FL.sl_tup, FL.len_tup, FL.list_tup, FL.tuple_tup, FL.max_ok, FL.min_ok, FL.ge_ok, FL.lt_ok, e1]
def loopB : FS := (sSeq (sAsg (fFn (arity 2 F_cut_fact) (faCons (fVar 5) (faCons (fVar 1) faNil))) (gtName 9))
  (sSeq (sIf (ftOr (ftNot (asB (fIsi "tuple" (fVar 9)))) (asB (fOp gNe (fVar 9) (fFn (arity 2 F_law_due) (faCons (fVar 5) (faCons (fVar 1) faNil)))))) (sRet (fC (.bl false))) sNext)
  (sIf (asB (fOp gNe (fFn (arity 2 F_cut_fact) (faCons (fVar 9) (faCons (fFn gMin (faCons (fVar 1) (faCons (fVar 2) faNil))) faNil))) (fFn (arity 2 F_law_due) (faCons (fVar 5) (faCons (fFn gMin (faCons (fVar 1) (faCons (fVar 2) faNil))) faNil))))) (sRet (fC (.bl false))) sNext)))
theorem ty_fV (x : FD) (M : MH) : tyName M (fV x) = some "tuple" := by cases x <;> rfl
theorem kit_tt : kitB "tuple" "tuple" = some true := by decide +kernel
theorem kit_ll : kitB "list" "list" = some true := by decide +kernel
theorem loopB_ok {s x6 x7 x8 x9 x10 : Option MV} {f h n m : Nat} {y : FD} {M : MH} (hy : shortD y) :
    ∃ x9' G, loopB [s, some (.int n), some (.int m), some (.ref f), some (.ref h), some (fV y), x6, x7, x8, x9, x10] M = .next [s, some (.int n), some (.int m), some (.ref f), some (.ref h), some (fV y), x6, x7, x8, x9', x10] (M ++ G) := by
  have e1 : ∀ (k : Nat) (z : FD) M, F_cut_fact [fV z, .int k] M = .ok (fV (cutD k z)) M := fun k z M => cutF_ok
  obtain ⟨G1, e2⟩ := due_ok (n := n) (x := y) (M := M)
  have hk : (if (m : Int) < (n : Int) then (m : Int) else (n : Int)) = ((min n m : Nat) : Int) := by split <;> omega
  obtain ⟨G2, e3⟩ := due_ok (n := min n m) (x := y) (M := M ++ G1)
  have n1 : ∀ (k : Nat) M, gNe (fV (cutD k y)) (fV (cutD k y)) M = .ok (.bl false) M := fun k M => by
    rw [gNe_plain (fV_ok (cutD_short hy)) (fV_ok (cutD_short hy)), decide_eq_true rfl]
    rfl
  have cc : cutD (min n m) (cutD n y) = cutD (min n m) y := cutD_cut (Nat.min_le_left _ _)
  unfold loopB
  simp (disch := decide +kernel) only [FL.mod_ok, FL.fdiv_ok, FL.small_ok, FL.pow_ok, Int.reducePow, Int.reduceToNat, FL.fnOf, startR, fVar, fC, faNil, faCons, fTup, fLst, fOp, fFn, fSl, foNone, foSome, asB, ftNot, ftAnd, ftOr, sNext, sSeq, sDrop, sRet, sIf, sAsg, gtName, gtNil, gtCons, gtTup, arity, bind_ok, stm_ok, seq_next, seq_ret, seq_ex, sub_ok, add_ok, h_get0, h_getk, h_app, h_len, h_set0, h_setk, veq_int, vne_int, veq_str1, veq_str0, vne_str1, vne_str0, List.map_cons, List.map_nil, List.length_cons, List.length_nil, List.replicate, List.cons_append, List.nil_append, List.getElem?_cons_zero, List.getElem?_cons_succ, List.set_cons_zero, List.set_cons_succ, Nat.reduceSub, Nat.reduceAdd, if_true, decide_eq_true_eq, Bool.not_eq_true', Bool.not_true, Bool.not_false, Bool.false_eq_true, if_false, decide_eq_false_iff_not, not_true_eq_false, not_false_eq_true, decide_true, decide_false, FL.ix0, FL.ix1, FL.ix2, FL.ix3, FL.ix4, FL.sl_tup, FL.len_tup, FL.list_tup, FL.tuple_tup, FL.max_ok, FL.min_ok, FL.ge_ok, FL.lt_ok, e1, fIsi, ty_fV, kit_tt, e2, n1, hk, cc, e3]
  exact ⟨_, _, rfl⟩
theorem loop_ok {s x5 x6 x7 x8 x9 x10 : Option MV} {f h n m : Nat} {facts : List FD} {M : MH} (hf : lstOf M (.ref f) = some (facts.map fV)) (gf : ∀ x ∈ facts, shortD x) :
    ∃ x5' x9' G, sFor (fiAny (fVar 3)) (gtName 5) loopB [s, some (.int n), some (.int m), some (.ref f), some (.ref h), x5, x6, x7, x8, x9, x10] M = .next [s, some (.int n), some (.int m), some (.ref f), some (.ref h), x5', x6, x7, x8, x9', x10] (M ++ G) := by
  refine for_list (all := facts.map fV) (m := f) (M1 := M) (fun pre xs ρ M2 => ∃ fs gs x5 x9 G, facts = fs ++ gs ∧ xs = gs.map fV ∧ ρ = [s, some (.int n), some (.int m), some (.ref f), some (.ref h), x5, x6, x7, x8, x9, x10] ∧ M2 = M ++ G) (fun r => ∃ x5' x9' G, r = .next [s, some (.int n), some (.int m), some (.ref f), some (.ref h), x5', x6, x7, x8, x9', x10] (M ++ G)) rfl hf ⟨[], facts, x5, x9, [], rfl, rfl, rfl, by rw [List.append_nil]⟩ ?_ ?_
  · rintro pre x xs hx ρ M2 ⟨fs, gs, x5, x9, G, hfs, hgs, rfl, rfl⟩
    left
    cases gs with
    | nil => cases hgs
    | cons y gs =>
      rw [List.map_cons] at hgs
      injection hgs with hy hgs
      subst hy
      obtain ⟨x9', G2, e⟩ := loopB_ok (s := s) (x6 := x6) (x7 := x7) (x8 := x8) (x9 := x9) (x10 := x10) (f := f) (h := h) (n := n) (m := m) (M := M ++ G) (gf y (by rw [hfs]; simp))
      exact ⟨_, _, .inl e, by rw [h_app]; exact lstOf_old hf, fs ++ [y], gs, some (fV y), x9', G ++ G2, by rw [hfs]; simp, hgs, rfl, by rw [h_app]⟩
  · rintro ρ M2 ⟨fs, gs, x5, x9, G, hfs, hgs, rfl, rfl⟩
    exact ⟨x5, x9, G, rfl⟩
def dueE : FE := fLc [5] (fiAny (fVar 3)) (gtName 5) ftYes (fFn (arity 2 F_law_due) (faCons (fVar 5) (faCons (fVar 1) faNil)))
theorem dueE_ok {s x2 x4 x5 x6 x7 x8 x9 x10 : Option MV} {f n : Nat} {facts : List FD} {M : MH} (hf : lstOf M (.ref f) = some (facts.map fV)) (hl : facts.length ≤ 1000) :
    ∃ G, dueE [s, some (.int n), x2, some (.ref f), x4, x5, x6, x7, x8, x9, x10] M = .ok (.ref M.length) (M ++ (.lst (dueL n facts) :: G)) := by
  exact lc_all (ys := facts) (enc := fV) (fun x => fV (cutD n x)) (fiAny_lst (fvar rfl) hf) (fun y hy => ⟨_, rfl, fun acc G => by
    obtain ⟨G2, e⟩ := due_ok (n := n) (x := y) (M := M ++ (.lst acc :: G))
    rw [h_app] at e
    exact ⟨G2, e⟩⟩) (fun acc G => chkL_old hf) (by omega)
structure Wd (ns : List Int) (M : MH) (f h : Nat) (facts : List FD) : Prop where
  h0 : lstOf M (.ref 0) = some (ns.map MV.int)
  hf : lstOf M (.ref f) = some (facts.map fV)
  hh : M[h]? = some (.lst (facts.map fV))
theorem Wd.app {ns : List Int} {M G : MH} {f h : Nat} {facts : List FD} (w : Wd ns M f h facts) : Wd ns (M ++ G) f h facts := ⟨lstOf_old w.h0, lstOf_old w.hf, h_old w.hh⟩
abbrev srtL (n : Nat) (facts : List FD) : List MV := (onceF (dueL n facts)).mergeSort leV
theorem srtL_mem {n : Nat} {facts : List FD} {z : MV} : z ∈ srtL n facts ↔ z ∈ dueL n facts := by
  rw [(List.mergeSort_perm _ leV).mem_iff, onceF_mem]
theorem srtL_len {n : Nat} {facts : List FD} : (srtL n facts).length ≤ facts.length := by
  have := onceF_len (dueL n facts)
  rw [List.length_map] at this
  rw [List.length_mergeSort]
  exact this
theorem srtL_nodup {n : Nat} {facts : List FD} : (srtL n facts).Nodup := (List.mergeSort_perm _ leV).nodup_iff.mpr (onceF_nodup _)
theorem due_ok20 {n : Nat} {facts : List FD} (gf : ∀ x ∈ facts, shortD x) {z : MV} (h : z ∈ dueL n facts) : okV 20 z = true ∧ okN z = true := by
  obtain ⟨x, hx, rfl⟩ := due_all gf h
  exact ⟨okV_up 14 (fV_ok hx), fV_N x hx⟩
theorem fact_ok20 {facts : List FD} (gf : ∀ x ∈ facts, shortD x) {z : MV} (h : z ∈ facts.map fV) : okV 20 z = true ∧ okN z = true := by
  obtain ⟨x, hx, rfl⟩ := List.mem_map.mp h
  exact ⟨okV_up 14 (fV_ok (gf x hx)), fV_N x (gf x hx)⟩
theorem A6_ok {s x2 x4 x5 x6 x7 x8 x9 x10 : Option MV} {f n : Nat} {facts : List FD} {M : MH} (hf : lstOf M (.ref f) = some (facts.map fV)) (gf : ∀ x ∈ facts, shortD x) (hl : facts.length ≤ 100) :
    ∃ d G, fFn (arity 1 F_law_once) (faCons dueE faNil) [s, some (.int n), x2, some (.ref f), x4, x5, x6, x7, x8, x9, x10] M = .ok (.ref d) (M ++ G) ∧ (M ++ G)[d]? = some (.lst (srtL n facts)) := by
  obtain ⟨G1, e1⟩ := dueE_ok (s := s) (x2 := x2) (x4 := x4) (x5 := x5) (x6 := x6) (x7 := x7) (x8 := x8) (x9 := x9) (x10 := x10) (n := n) hf (by omega)
  obtain ⟨G2, e2⟩ := once_ok (f := M.length) (M := M ++ (.lst (dueL n facts) :: G1)) (xs := dueL n facts) (lst_of (by rw [h_get0]; rfl)) (due_srt gf (fun z h => h) (by rw [List.length_map]; omega)) (fun z h => (due_ok20 gf h).1) (by rw [List.length_map]; omega)
  have hc : ∀ x ∈ dueL n facts, ∀ y ∈ dueL n facts, cmpV x y = true := fun x hx y hy => by
    obtain ⟨a, _, rfl⟩ := due_all gf hx
    obtain ⟨b, _, rfl⟩ := due_all gf hy
    exact cmpF a b
  rw [adj_once (n := 20) (fun z h => (due_ok20 gf h).1) hc] at e2
  refine ⟨_, (.lst (dueL n facts) :: G1) ++ (.lst (srtL n facts) :: G2), ?_, by rw [← h_app, h_get0]; rfl⟩
  unfold fFn faCons
  rw [e1, bind_ok]
  show F_law_once [.ref M.length] _ = _
  rw [e2, h_app]
def A10 : FS := (sIf (ftOr (asB (fOp gNotN (fFn (arity 3 F_leads) (faCons (fVar 3) (faCons (fVar 6) (faCons (fVar 1) faNil)))) (fC (.bl true)))) (asB (fOp gNotN (fFn (arity 3 F_leads) (faCons (fLst faNil) (faCons (fLst faNil) (faCons (fVar 1) faNil)))) (fC (.bl true))))) (sRet (fC (.bl false))) sNext)
theorem notn_t {M : MH} : gNotN (.bl true) (.bl true) M = .ok (.bl false) M := rfl
theorem A10_ok {s x2 x4 x5 x7 x8 x9 x10 : Option MV} {f d n : Nat} {facts : List FD} {M : MH} (hf : lstOf M (.ref f) = some (facts.map fV)) (hd : lstOf M (.ref d) = some (srtL n facts)) (gf : ∀ x ∈ facts, shortD x) (hl : facts.length ≤ 100) :
    ∃ G, A10 [s, some (.int n), x2, some (.ref f), x4, x5, some (.ref d), x7, x8, x9, x10] M = .next [s, some (.int n), x2, some (.ref f), x4, x5, some (.ref d), x7, x8, x9, x10] (M ++ G) := by
  obtain ⟨G1, e1⟩ := leads_ok (n := n) hf hd gf (fun x hx => (due_ok20 gf (srtL_mem.mp hx)).2) (by have := srtL_len (n := n) (facts := facts); omega)
  have h1 : (facts.all fun x => decide (fV (cutD n x) ∈ srtL n facts)) = true := List.all_eq_true.mpr fun x hx => decide_eq_true (srtL_mem.mpr (List.mem_map.mpr ⟨x, hx, rfl⟩))
  rw [h1] at e1
  obtain ⟨G2, e2⟩ := leads_ok (n := n) (f := M.length + G1.length) (o := M.length + G1.length + 1) (facts := []) (others := []) (M := M ++ (G1 ++ [.lst [], .lst []]))
    (lst_of (by rw [h_getk, List.getElem?_append_right (Nat.le_refl _), Nat.sub_self]; rfl)) (lst_of (by rw [Nat.add_assoc, h_getk, List.getElem?_append_right (by omega), show G1.length + 1 - G1.length = 1 by omega]; rfl)) (fun x hx => nomatch hx) (fun x hx => nomatch hx) (by simp)
  unfold A10
  simp (disch := decide +kernel) only [FL.mod_ok, FL.fdiv_ok, FL.small_ok, FL.pow_ok, Int.reducePow, Int.reduceToNat, FL.fnOf, startR, fVar, fC, faNil, faCons, fTup, fLst, fOp, fFn, fSl, foNone, foSome, asB, ftNot, ftAnd, ftOr, sNext, sSeq, sDrop, sRet, sIf, sAsg, gtName, gtNil, gtCons, gtTup, arity, bind_ok, stm_ok, seq_next, seq_ret, seq_ex, sub_ok, add_ok, h_get0, h_getk, h_app, h_len, h_set0, h_setk, veq_int, vne_int, veq_str1, veq_str0, vne_str1, vne_str0, List.map_cons, List.map_nil, List.length_cons, List.length_nil, List.replicate, List.cons_append, List.nil_append, List.getElem?_cons_zero, List.getElem?_cons_succ, List.set_cons_zero, List.set_cons_succ, Nat.reduceSub, Nat.reduceAdd, if_true, decide_eq_true_eq, Bool.not_eq_true', Bool.not_true, Bool.not_false, Bool.false_eq_true, if_false, decide_eq_false_iff_not, not_true_eq_false, not_false_eq_true, decide_true, decide_false, FL.ix0, FL.ix1, FL.ix2, FL.ix3, FL.ix4, FL.sl_tup, FL.len_tup, FL.list_tup, FL.tuple_tup, FL.max_ok, FL.min_ok, FL.ge_ok, FL.lt_ok, e1, notn_t, List.append_assoc, e2, List.all_nil]
  exact ⟨_, rfl⟩
def A11 : FS := (sIf (asB (fOp gNotN (fFn (arity 3 F_leads) (faCons (fVar 3) (faCons (fOp gAdd (fOp gAdd (fRev (fVar 6)) (fSl (fVar 6) foNone (foSome (fC (.int 1))))) (fVar 4)) (faCons (fVar 1) faNil)))) (fC (.bl true)))) (sRet (fC (.bl false))) sNext)
theorem rev_ok {fe : FE} {ρ : Rho} {M M1 : MH} {d : Nat} {xs : List MV} (h : fe ρ M = .ok (.ref d) M1) (hd : lstOf M1 (.ref d) = some xs) : fRev fe ρ M = .ok (.ref M1.length) (M1 ++ [.lst xs.reverse]) := by
  unfold fRev
  rw [h, bind_ok]
  simp only [hd]
theorem A11_ok {s x2 x5 x7 x8 x9 x10 : Option MV} {f h d n : Nat} {facts : List FD} {M : MH} (hf : lstOf M (.ref f) = some (facts.map fV)) (hh : M[h]? = some (.lst (facts.map fV))) (hd : lstOf M (.ref d) = some (srtL n facts)) (gf : ∀ x ∈ facts, shortD x) (hl : facts.length ≤ 100) :
    ∃ G, A11 [s, some (.int n), x2, some (.ref f), some (.ref h), x5, some (.ref d), x7, x8, x9, x10] M = .next [s, some (.int n), x2, some (.ref f), some (.ref h), x5, some (.ref d), x7, x8, x9, x10] (M ++ G) := by
  have l1 := srtL_len (n := n) (facts := facts)
  have e1 : fRev (fVar 6) [s, some (.int n), x2, some (.ref f), some (.ref h), x5, some (.ref d), x7, x8, x9, x10] M = .ok (.ref M.length) (M ++ [.lst (srtL n facts).reverse]) := rev_ok (fvar rfl) hd
  have e2 : ∀ G, gSl (.ref d) none (some 1) (M ++ G) = .ok (.ref (M ++ G).length) ((M ++ G) ++ [.lst ((srtL n facts).take 1)]) := fun G => by
    rw [gSl_lst (lstOf_old hd)]
    show Res.ok _ ((M ++ G) ++ [.lst (cutM _ none (some ((1 : Nat) : Int)))]) = _
    rw [cut_to]
  generalize hS : srtL n facts = S at *
  have e3 := @add_lst M.length (M.length + 1) S.reverse (S.take 1) (M ++ [.lst S.reverse, .lst (S.take 1)]) (by rw [h_get0]; rfl) (by rw [h_getk]; rfl) (by rw [List.length_reverse, List.length_take]; omega)
  have e4 := @add_lst (M.length + 2) h (S.reverse ++ S.take 1) (facts.map fV) (M ++ [.lst S.reverse, .lst (S.take 1), .lst (S.reverse ++ S.take 1)]) (by rw [h_getk]; rfl) (h_old hh) (by rw [List.length_append, List.length_reverse, List.length_take, List.length_map]; omega)
  have ml : ∀ z ∈ S.reverse ++ S.take 1 ++ facts.map fV, okN z = true := fun z hz => by
    rw [List.mem_append, List.mem_append, List.mem_reverse] at hz
    rcases hz with (hz | hz) | hz
    · rw [← hS] at hz
      exact (due_ok20 gf (srtL_mem.mp hz)).2
    · have := List.mem_of_mem_take hz
      rw [← hS] at this
      exact (due_ok20 gf (srtL_mem.mp this)).2
    · exact (fact_ok20 gf hz).2
  obtain ⟨G1, e5⟩ := leads_ok (n := n) (f := f) (o := M.length + 3) (facts := facts) (others := S.reverse ++ S.take 1 ++ facts.map fV) (M := M ++ [.lst S.reverse, .lst (S.take 1), .lst (S.reverse ++ S.take 1), .lst (S.reverse ++ S.take 1 ++ facts.map fV)]) (lstOf_old hf) (lst_of (by rw [h_getk]; rfl)) gf ml (by
    rw [List.length_append, List.length_append, List.length_reverse, List.length_take, List.length_map]
    omega)
  have h1 : (facts.all fun x => decide (fV (cutD n x) ∈ S.reverse ++ S.take 1 ++ facts.map fV)) = true := List.all_eq_true.mpr fun x hx => decide_eq_true (by
    rw [List.mem_append, List.mem_append, List.mem_reverse, ← hS]
    exact .inl (.inl (srtL_mem.mpr (List.mem_map.mpr ⟨x, hx, rfl⟩))))
  rw [h1] at e5
  simp only [h_app, h_len, List.length_cons, List.length_nil, List.cons_append, List.nil_append, Nat.reduceAdd] at e2 e3 e4
  have e2' := e2 [.lst S.reverse]
  simp only [List.cons_append, List.nil_append, List.length_cons, List.length_nil, Nat.reduceAdd] at e2'
  unfold A11
  simp (disch := decide +kernel) only [FL.mod_ok, FL.fdiv_ok, FL.small_ok, FL.pow_ok, Int.reducePow, Int.reduceToNat, FL.fnOf, startR, fVar, fC, faNil, faCons, fTup, fLst, fOp, fFn, fSl, foNone, foSome, asB, ftNot, ftAnd, ftOr, sNext, sSeq, sDrop, sRet, sIf, sAsg, gtName, gtNil, gtCons, gtTup, arity, bind_ok, stm_ok, seq_next, seq_ret, seq_ex, sub_ok, add_ok, h_get0, h_getk, h_app, h_len, h_set0, h_setk, veq_int, vne_int, veq_str1, veq_str0, vne_str1, vne_str0, List.map_cons, List.map_nil, List.length_cons, List.length_nil, List.replicate, List.cons_append, List.nil_append, List.getElem?_cons_zero, List.getElem?_cons_succ, List.set_cons_zero, List.set_cons_succ, Nat.reduceSub, Nat.reduceAdd, if_true, decide_eq_true_eq, Bool.not_eq_true', Bool.not_true, Bool.not_false, Bool.false_eq_true, if_false, decide_eq_false_iff_not, not_true_eq_false, not_false_eq_true, decide_true, decide_false, FL.ix0, FL.ix1, FL.ix2, FL.ix3, FL.ix4, FL.sl_tup, FL.len_tup, FL.list_tup, FL.tuple_tup, FL.max_ok, FL.min_ok, FL.ge_ok, FL.lt_ok, e1, e2', e3, e4, e5, notn_t]
  exact ⟨_, rfl⟩
theorem all_ok {M : MH} {k : Nat} {bs : List Bool} (h : lstOf M (.ref k) = some (bs.map MV.bl)) : gAll [.ref k] M = .ok (.bl (bs.all id)) M := by
  have e : allB (bs.map MV.bl) = some bs := by
    clear h
    induction bs with
    | nil => rfl
    | cons b bs ih => simp only [List.map_cons, allB, ih, Option.map_some]
  unfold gAll
  simp only [h, e]
theorem ne_bl {a b : Bool} {M : MH} : gNe (.bl a) (.bl b) M = .ok (.bl (!decide (a = b))) M := rfl
theorem eq_bl {a b : Bool} {M : MH} : gEq (.bl a) (.bl b) M = .ok (.bl (decide (a = b))) M := rfl
def inE : FE := fLc [5] (fiAny (fVar 3)) (gtName 5) ftYes (fOp gIn (fFn (arity 2 F_law_due) (faCons (fVar 5) (faCons (fVar 1) faNil))) (fVar 3))
theorem inE_ok {s x2 x4 x5 x6 x7 x8 x9 x10 : Option MV} {f n : Nat} {facts : List FD} {M : MH} (hf : lstOf M (.ref f) = some (facts.map fV)) (gf : ∀ x ∈ facts, shortD x) (hl : facts.length ≤ 1000) :
    ∃ G, inE [s, some (.int n), x2, some (.ref f), x4, x5, x6, x7, x8, x9, x10] M = .ok (.ref M.length) (M ++ (.lst ((facts.map fun x => decide (fV (cutD n x) ∈ facts.map fV)).map MV.bl) :: G)) := by
  rw [List.map_map]
  exact lc_all (ys := facts) (enc := fV) (fun x => .bl (decide (fV (cutD n x) ∈ facts.map fV))) (fiAny_lst (fvar rfl) hf) (fun y hy => ⟨_, rfl, fun acc G => by
    obtain ⟨G2, e⟩ := due_ok (n := n) (x := y) (M := M ++ (.lst acc :: G))
    rw [h_app] at e
    refine ⟨G2, ?_⟩
    refine (fop (x := fV (cutD n y)) e (fvar rfl)).trans ?_
    exact gIn_list (n := 20) (lstOf_old hf) (okV_up 14 (fV_ok (cutD_short (gf y hy)))) (fun z hz => (fact_ok20 gf hz).1)⟩) (fun acc G => chkL_old hf) (by omega)
def A12 : FS := (sIf (asB (fOp gNe (fFn (arity 3 F_leads) (faCons (fVar 3) (faCons (fVar 3) (faCons (fVar 1) faNil)))) (fFn gAll (faCons inE faNil)))) (sRet (fC (.bl false))) sNext)
theorem A12_ok {s x2 x4 x5 x6 x7 x8 x9 x10 : Option MV} {f n : Nat} {facts : List FD} {M : MH} (hf : lstOf M (.ref f) = some (facts.map fV)) (gf : ∀ x ∈ facts, shortD x) (hl : facts.length ≤ 100) :
    ∃ G, A12 [s, some (.int n), x2, some (.ref f), x4, x5, x6, x7, x8, x9, x10] M = .next [s, some (.int n), x2, some (.ref f), x4, x5, x6, x7, x8, x9, x10] (M ++ G) := by
  obtain ⟨G1, e1⟩ := leads_ok (n := n) hf hf gf (fun x hx => (fact_ok20 gf hx).2) (by rw [List.length_map]; omega)
  obtain ⟨G2, e2⟩ := inE_ok (s := s) (x2 := x2) (x4 := x4) (x5 := x5) (x6 := x6) (x7 := x7) (x8 := x8) (x9 := x9) (x10 := x10) (n := n) (lstOf_old (G := G1) hf) gf (by omega)
  have e3 : gAll [.ref (M ++ G1).length] ((M ++ G1) ++ (.lst ((facts.map fun x => decide (fV (cutD n x) ∈ facts.map fV)).map MV.bl) :: G2)) = .ok (.bl ((facts.map fun x => decide (fV (cutD n x) ∈ facts.map fV)).all id)) _ := all_ok (lst_of (by rw [h_get0]; rfl))
  have e4 : (facts.map fun x => decide (fV (cutD n x) ∈ facts.map fV)).all id = facts.all fun x => decide (fV (cutD n x) ∈ facts.map fV) := by rw [List.all_map]; rfl
  rw [e4] at e3
  generalize (facts.all fun x => decide (fV (cutD n x) ∈ facts.map fV)) = b at e1 e3
  generalize hM : M ++ G1 = M1 at e1 e2 e3
  have e5 : ∀ M, gNe (.bl b) (.bl b) M = .ok (.bl false) M := fun M => by rw [ne_bl, decide_eq_true rfl]; rfl
  unfold A12
  simp (disch := decide +kernel) only [FL.mod_ok, FL.fdiv_ok, FL.small_ok, FL.pow_ok, Int.reducePow, Int.reduceToNat, FL.fnOf, startR, fVar, fC, faNil, faCons, fTup, fLst, fOp, fFn, fSl, foNone, foSome, asB, ftNot, ftAnd, ftOr, sNext, sSeq, sDrop, sRet, sIf, sAsg, gtName, gtNil, gtCons, gtTup, arity, bind_ok, stm_ok, seq_next, seq_ret, seq_ex, sub_ok, add_ok, h_get0, h_getk, h_app, h_len, h_set0, h_setk, veq_int, vne_int, veq_str1, veq_str0, vne_str1, vne_str0, List.map_cons, List.map_nil, List.length_cons, List.length_nil, List.replicate, List.cons_append, List.nil_append, List.getElem?_cons_zero, List.getElem?_cons_succ, List.set_cons_zero, List.set_cons_succ, Nat.reduceSub, Nat.reduceAdd, if_true, decide_eq_true_eq, Bool.not_eq_true', Bool.not_true, Bool.not_false, Bool.false_eq_true, if_false, decide_eq_false_iff_not, not_true_eq_false, not_false_eq_true, decide_true, decide_false, FL.ix0, FL.ix1, FL.ix2, FL.ix3, FL.ix4, FL.sl_tup, FL.len_tup, FL.list_tup, FL.tuple_tup, FL.max_ok, FL.min_ok, FL.ge_ok, FL.lt_ok, e1, e2, e3, e5]
  rw [← hM]
  exact ⟨_, by rw [h_app]⟩
def A13 : FE := (fOp gEq (fFn (arity 3 F_leads) (faCons (fVar 3) (faCons (fOp gAdd (fSl (fVar 6) foNone (foSome (fVar 8))) (fSl (fVar 6) (foSome (fOp gAdd (fVar 8) (fC (.int 1)))) foNone)) (faCons (fVar 1) faNil)))) (fOp gEq (fVar 6) (fLst faNil)))
theorem A13_ok {s x2 x4 x5 x7 x9 x10 : Option MV} {f d n k : Nat} {facts : List FD} {M : MH} (hf : lstOf M (.ref f) = some (facts.map fV)) (hd : lstOf M (.ref d) = some (srtL n facts)) (gf : ∀ x ∈ facts, shortD x) (hl : facts.length ≤ 100) (hk : srtL n facts ≠ [] → k < (srtL n facts).length) :
    ∃ M', A13 [s, some (.int n), x2, some (.ref f), x4, x5, some (.ref d), x7, some (.int k), x9, x10] M = .ok (.bl true) M' := by
  have l1 := srtL_len (n := n) (facts := facts)
  have e1 : gSl (.ref d) none (some (k : Int)) M = .ok (.ref M.length) (M ++ [.lst ((srtL n facts).take k)]) := by rw [gSl_lst hd, cut_to]
  have e2 : gSl (.ref d) (some ((k : Int) + 1)) none (M ++ [.lst ((srtL n facts).take k)]) = .ok (.ref (M ++ [MO.lst ((srtL n facts).take k)]).length) ((M ++ [MO.lst ((srtL n facts).take k)]) ++ [MO.lst ((srtL n facts).drop (k + 1))]) := by
    rw [gSl_lst (lstOf_old hd)]
    show Res.ok _ ((M ++ [MO.lst ((srtL n facts).take k)]) ++ [MO.lst (cutM _ (some (((k + 1 : Nat)) : Int)) none)]) = _
    rw [cut_from]
  have nd := srtL_nodup (n := n) (facts := facts)
  have mem : ∀ z, z ∈ srtL n facts ↔ z ∈ dueL n facts := fun z => srtL_mem
  have ev : ∀ x ∈ facts, fV (cutD n x) ∈ srtL n facts := fun x hx => srtL_mem.mpr (List.mem_map.mpr ⟨x, hx, rfl⟩)
  have back : ∀ z ∈ srtL n facts, ∃ x ∈ facts, z = fV (cutD n x) := fun z hz => by
    obtain ⟨x, hx, rfl⟩ := List.mem_map.mp (srtL_mem.mp hz)
    exact ⟨x, hx, rfl⟩
  have okS : ∀ z ∈ srtL n facts, okV 20 z = true ∧ okN z = true := fun z hz => due_ok20 gf (srtL_mem.mp hz)
  generalize srtL n facts = S at *
  have e3 := @add_lst M.length (M.length + 1) (S.take k) (S.drop (k + 1)) (M ++ [.lst (S.take k), .lst (S.drop (k + 1))]) (by rw [h_get0]; rfl) (by rw [h_getk]; rfl) (by rw [List.length_take, List.length_drop]; omega)
  have sub : ∀ z ∈ S.take k ++ S.drop (k + 1), z ∈ S := fun z hz => by
    rw [List.mem_append] at hz
    rcases hz with hz | hz
    · exact List.mem_of_mem_take hz
    · exact List.mem_of_mem_drop hz
  obtain ⟨G1, e5⟩ := leads_ok (n := n) (f := f) (o := M.length + 2) (facts := facts) (others := S.take k ++ S.drop (k + 1)) (M := M ++ [.lst (S.take k), .lst (S.drop (k + 1)), .lst (S.take k ++ S.drop (k + 1))]) (lstOf_old hf) (lst_of (by rw [h_getk]; rfl)) gf (fun z hz => (okS z (sub z hz)).2) (by
    rw [List.length_append, List.length_take, List.length_drop]
    omega)
  have hb : (facts.all fun x => decide (fV (cutD n x) ∈ S.take k ++ S.drop (k + 1))) = decide (S = []) := by
    by_cases c : S = []
    · rw [decide_eq_true c]
      refine List.all_eq_true.mpr fun x hx => ?_
      have := ev x hx
      rw [c] at this
      cases this
    · rw [decide_eq_false c]
      have hkl := hk c
      obtain ⟨x, hx, e⟩ := back S[k] (List.getElem_mem hkl)
      refine List.all_eq_false.mpr ⟨x, hx, ?_⟩
      rw [← e]
      intro h
      have h := of_decide_eq_true h
      have hsplit : S = S.take k ++ S[k] :: S.drop (k + 1) := by
        rw [List.getElem_cons_drop, List.take_append_drop]
      rw [hsplit, List.nodup_append] at nd
      obtain ⟨_, n2, n3⟩ := nd
      rw [List.mem_append] at h
      rcases h with h | h
      · exact n3 _ h _ List.mem_cons_self rfl
      · exact (List.nodup_cons.mp n2).1 h
  rw [hb] at e5
  simp only [h_app, h_len, List.length_cons, List.length_nil, List.cons_append, List.nil_append, Nat.reduceAdd] at e2 e3 e5
  generalize hM : M ++ (.lst (S.take k) :: .lst (S.drop (k + 1)) :: .lst (S.take k ++ S.drop (k + 1)) :: G1) = M4 at e5
  have e6 : gEq (.ref d) (.ref M4.length) (M4 ++ [.lst []]) = .ok (.bl (decide (S = []))) (M4 ++ [.lst []]) := gEq_lists (n := 20) (by rw [← hM, h_app]; exact lstOf_old hd) (lst_of (by rw [h_get0]; rfl)) (fun z hz => (okS z hz).1) (fun z hz => nomatch hz)
  have e7 : gEq (.bl (decide (S = []))) (.bl (decide (S = []))) (M4 ++ [.lst []]) = .ok (.bl true) (M4 ++ [.lst []]) := by rw [eq_bl, decide_eq_true rfl]
  refine ⟨M4 ++ [.lst []], ?_⟩
  unfold A13
  simp (disch := decide +kernel) only [FL.mod_ok, FL.fdiv_ok, FL.small_ok, FL.pow_ok, Int.reducePow, Int.reduceToNat, FL.fnOf, startR, fVar, fC, faNil, faCons, fTup, fLst, fOp, fFn, fSl, foNone, foSome, asB, ftNot, ftAnd, ftOr, sNext, sSeq, sDrop, sRet, sIf, sAsg, gtName, gtNil, gtCons, gtTup, arity, bind_ok, stm_ok, seq_next, seq_ret, seq_ex, sub_ok, add_ok, h_get0, h_getk, h_app, h_len, h_set0, h_setk, veq_int, vne_int, veq_str1, veq_str0, vne_str1, vne_str0, List.map_cons, List.map_nil, List.length_cons, List.length_nil, List.replicate, List.cons_append, List.nil_append, List.getElem?_cons_zero, List.getElem?_cons_succ, List.set_cons_zero, List.set_cons_succ, Nat.reduceSub, Nat.reduceAdd, if_true, decide_eq_true_eq, Bool.not_eq_true', Bool.not_true, Bool.not_false, Bool.false_eq_true, if_false, decide_eq_false_iff_not, not_true_eq_false, not_false_eq_true, decide_true, decide_false, FL.ix0, FL.ix1, FL.ix2, FL.ix3, FL.ix4, FL.sl_tup, FL.len_tup, FL.list_tup, FL.tuple_tup, FL.max_ok, FL.min_ok, FL.ge_ok, FL.lt_ok, e1, e2, e3, e5, e6, e7]
def A8 : FS := (sIf (ftOr (ftNot (asB (fIsi "list" (fVar 7)))) (ftOr (asB (fOp gNe (fVar 7) (fVar 6))) (asB (fOp gNe (fVar 4) (fVar 3))))) (sRet (fC (.bl false))) sNext)
def A9 : FS := (sAsg (fOp gMod (fOp gFdiv (fFn (arity 2 F_law_cell_at) (faCons (fVar 0) (faCons (fC (.int 0)) faNil))) (fC (.int 16))) (fFn gMax (faCons (fC (.int 1)) (faCons (fFn gLen (faCons (fVar 6) faNil)) faNil)))) (gtName 8))
def onceE : FE := fFn (arity 1 F_law_once) (faCons dueE faNil)
def restB : FS := (sSeq (sAsg onceE (gtName 6))
  (sSeq (sAsg (fFn (arity 2 F_cut_facts) (faCons (fVar 4) (faCons (fVar 1) faNil))) (gtName 7))
  (sSeq A8 (sSeq A9 (sSeq A10 (sSeq A11 (sSeq A12 (sRet A13))))))))
theorem cell0 {ns : List Int} {f k : Nat} {M : MH} (h : lstOf M (.ref f) = some (ns.map MV.int)) : F_law_cell_at [.ref f, .int k] M = .ok (.int (ns.getD k 0)) M := cellB_ok h
theorem A9_ok {ns : List Int} {x1 x2 x3 x4 x5 x7 x8 x9 x10 : Option MV} {d : Nat} {S : List MV} {M : MH} (h0 : lstOf M (.ref 0) = some (ns.map MV.int)) (hd : lstOf M (.ref d) = some S) :
    ∃ k : Nat, A9 [some (.ref 0), x1, x2, x3, x4, x5, some (.ref d), x7, x8, x9, x10] M = .next [some (.ref 0), x1, x2, x3, x4, x5, some (.ref d), x7, some (.int k), x9, x10] M ∧ (S ≠ [] → k < S.length) := by
  have e0 : F_law_cell_at [.ref 0, .int 0] M = .ok (.int (ns.getD 0 0)) M := cell0 (k := 0) h0
  have e1 : gLen [.ref d] M = .ok (.int S.length) M := gLen_lst hd
  have hm : (if (S.length : Int) > 1 then (S.length : Int) else 1) = ((max 1 S.length : Nat) : Int) := by split <;> omega
  have hp : (0 : Int) < ((max 1 S.length : Nat) : Int) := by omega
  have e2 : gMod (.int (ns.getD 0 0 / 16)) (.int ((max 1 S.length : Nat) : Int)) M = .ok (.int ((ns.getD 0 0 / 16) % ((max 1 S.length : Nat) : Int))) M := mod_ok hp
  have h1 := Int.emod_nonneg (ns.getD 0 0 / 16) (show ((max 1 S.length : Nat) : Int) ≠ 0 by omega)
  have h2 := Int.emod_lt_of_pos (ns.getD 0 0 / 16) hp
  refine ⟨((ns.getD 0 0 / 16) % ((max 1 S.length : Nat) : Int)).toNat, ?_, fun c => ?_⟩
  · rw [Int.toNat_of_nonneg h1]
    unfold A9
    simp (disch := decide +kernel) only [FL.mod_ok, FL.fdiv_ok, FL.small_ok, FL.pow_ok, Int.reducePow, Int.reduceToNat, FL.fnOf, startR, fVar, fC, faNil, faCons, fTup, fLst, fOp, fFn, fSl, foNone, foSome, asB, ftNot, ftAnd, ftOr, sNext, sSeq, sDrop, sRet, sIf, sAsg, gtName, gtNil, gtCons, gtTup, arity, bind_ok, stm_ok, seq_next, seq_ret, seq_ex, sub_ok, add_ok, h_get0, h_getk, h_app, h_len, h_set0, h_setk, veq_int, vne_int, veq_str1, veq_str0, vne_str1, vne_str0, List.map_cons, List.map_nil, List.length_cons, List.length_nil, List.replicate, List.cons_append, List.nil_append, List.getElem?_cons_zero, List.getElem?_cons_succ, List.set_cons_zero, List.set_cons_succ, Nat.reduceSub, Nat.reduceAdd, if_true, decide_eq_true_eq, Bool.not_eq_true', Bool.not_true, Bool.not_false, Bool.false_eq_true, if_false, decide_eq_false_iff_not, not_true_eq_false, not_false_eq_true, decide_true, decide_false, FL.ix0, FL.ix1, FL.ix2, FL.ix3, FL.ix4, FL.sl_tup, FL.len_tup, FL.list_tup, FL.tuple_tup, FL.max_ok, FL.min_ok, FL.ge_ok, FL.lt_ok, e0, e1, hm, e2]
  · have := List.length_pos_iff.mpr c
    omega
theorem rest_ok {ns : List Int} {x2 x5 x9 x10 : Option MV} {f h n : Nat} {facts : List FD} {M : MH} (w : Wd ns M f h facts) (gf : ∀ x ∈ facts, shortD x) (hl : facts.length ≤ 100) :
    ∃ M', restB [some (.ref 0), some (.int n), x2, some (.ref f), some (.ref h), x5, none, none, none, x9, x10] M = .ret (.bl true) M' := by
  obtain ⟨d, G1, e6, gd⟩ := A6_ok (s := some (.ref 0)) (x2 := x2) (x4 := some (.ref h)) (x5 := x5) (x6 := none) (x7 := none) (x8 := none) (x9 := x9) (x10 := x10) (n := n) w.hf gf hl
  have e6 : onceE [some (.ref 0), some (.int n), x2, some (.ref f), some (.ref h), x5, none, none, none, x9, x10] M = .ok (.ref d) (M ++ G1) := e6
  have w1 : Wd ns (M ++ G1) f h facts := w.app
  have ld : ∀ G, lstOf ((M ++ G1) ++ G) (.ref d) = some (srtL n facts) := fun G => lstOf_old (lst_of gd)
  generalize M ++ G1 = M1 at e6 w1 ld
  obtain ⟨D, e7⟩ := cutfacts_ok (f := h) (n := n) (M := M1) (lst_of w1.hh) gf (by omega)
  have lt : ∀ G, lstOf ((M1 ++ [D, .lst (srtL n facts)]) ++ G) (.ref (M1.length + 1)) = some (srtL n facts) := fun G => lstOf_old (lst_of (by rw [h_getk]; rfl))
  have ty : tyName (M1 ++ [D, .lst (srtL n facts)]) (.ref (M1.length + 1)) = some "list" := by
    unfold tyName
    simp only [h_getk, List.getElem?_cons_succ, List.getElem?_cons_zero]
  have okS : ∀ z ∈ srtL n facts, okV 20 z = true := fun z hz => (due_ok20 gf (srtL_mem.mp hz)).1
  have w2 : Wd ns (M1 ++ [D, .lst (srtL n facts)]) f h facts := w1.app
  have ld2 := ld [D, .lst (srtL n facts)]
  have lt2 := lt []
  rw [List.append_nil] at lt2
  generalize M1 ++ [D, .lst (srtL n facts)] = M2 at e7 ty w2 ld2 lt2
  generalize M1.length + 1 = t at e7 ty lt2
  have e8 : gNe (.ref t) (.ref d) M2 = .ok (.bl false) M2 := by
    rw [gNe_lists (n := 20) lt2 ld2 okS okS, decide_eq_true rfl]
    rfl
  have e8' : gNe (.ref h) (.ref f) M2 = .ok (.bl false) M2 := by
    rw [gNe_lists (n := 20) (lst_of w2.hh) w2.hf (fun z hz => (fact_ok20 gf hz).1) (fun z hz => (fact_ok20 gf hz).1), decide_eq_true rfl]
    rfl
  obtain ⟨k, e9, hk⟩ := A9_ok (x1 := some (.int n)) (x2 := x2) (x3 := some (.ref f)) (x4 := some (.ref h)) (x5 := x5) (x7 := some (.ref t)) (x8 := none) (x9 := x9) (x10 := x10) w2.h0 ld2
  obtain ⟨G3, e10⟩ := A10_ok (s := some (.ref 0)) (x2 := x2) (x4 := some (.ref h)) (x5 := x5) (x7 := some (.ref t)) (x8 := some (.int k)) (x9 := x9) (x10 := x10) w2.hf ld2 gf hl
  have w3 : Wd ns (M2 ++ G3) f h facts := w2.app
  have ld3 : lstOf (M2 ++ G3) (.ref d) = some (srtL n facts) := lstOf_old ld2
  generalize M2 ++ G3 = M3 at e10 w3 ld3
  obtain ⟨G4, e11⟩ := A11_ok (s := some (.ref 0)) (x2 := x2) (x5 := x5) (x7 := some (.ref t)) (x8 := some (.int k)) (x9 := x9) (x10 := x10) w3.hf w3.hh ld3 gf hl
  have w4 : Wd ns (M3 ++ G4) f h facts := w3.app
  have ld4 : lstOf (M3 ++ G4) (.ref d) = some (srtL n facts) := lstOf_old ld3
  generalize M3 ++ G4 = M4 at e11 w4 ld4
  obtain ⟨G5, e12⟩ := A12_ok (s := some (.ref 0)) (x2 := x2) (x4 := some (.ref h)) (x5 := x5) (x6 := some (.ref d)) (x7 := some (.ref t)) (x8 := some (.int k)) (x9 := x9) (x10 := x10) (n := n) w4.hf gf hl
  have w5 : Wd ns (M4 ++ G5) f h facts := w4.app
  have ld5 : lstOf (M4 ++ G5) (.ref d) = some (srtL n facts) := lstOf_old ld4
  generalize M4 ++ G5 = M5 at e12 w5 ld5
  obtain ⟨M', e13⟩ := A13_ok (s := some (.ref 0)) (x2 := x2) (x4 := some (.ref h)) (x5 := x5) (x7 := some (.ref t)) (x9 := x9) (x10 := x10) (k := k) w5.hf ld5 gf hl hk
  have e8a : A8 [some (.ref 0), some (.int n), x2, some (.ref f), some (.ref h), x5, some (.ref d), some (.ref t), none, x9, x10] M2 = .next [some (.ref 0), some (.int n), x2, some (.ref f), some (.ref h), x5, some (.ref d), some (.ref t), none, x9, x10] M2 := by
    unfold A8
    simp (disch := decide +kernel) only [FL.mod_ok, FL.fdiv_ok, FL.small_ok, FL.pow_ok, Int.reducePow, Int.reduceToNat, FL.fnOf, startR, fVar, fC, faNil, faCons, fTup, fLst, fOp, fFn, fSl, foNone, foSome, asB, ftNot, ftAnd, ftOr, sNext, sSeq, sDrop, sRet, sIf, sAsg, gtName, gtNil, gtCons, gtTup, arity, bind_ok, stm_ok, seq_next, seq_ret, seq_ex, sub_ok, add_ok, h_get0, h_getk, h_app, h_len, h_set0, h_setk, veq_int, vne_int, veq_str1, veq_str0, vne_str1, vne_str0, List.map_cons, List.map_nil, List.length_cons, List.length_nil, List.replicate, List.cons_append, List.nil_append, List.getElem?_cons_zero, List.getElem?_cons_succ, List.set_cons_zero, List.set_cons_succ, Nat.reduceSub, Nat.reduceAdd, if_true, decide_eq_true_eq, Bool.not_eq_true', Bool.not_true, Bool.not_false, Bool.false_eq_true, if_false, decide_eq_false_iff_not, not_true_eq_false, not_false_eq_true, decide_true, decide_false, FL.ix0, FL.ix1, FL.ix2, FL.ix3, FL.ix4, FL.sl_tup, FL.len_tup, FL.list_tup, FL.tuple_tup, FL.max_ok, FL.min_ok, FL.ge_ok, FL.lt_ok, fIsi, ty, kit_ll, e8, e8']
  refine ⟨M', ?_⟩
  unfold restB
  simp (disch := decide +kernel) only [FL.mod_ok, FL.fdiv_ok, FL.small_ok, FL.pow_ok, Int.reducePow, Int.reduceToNat, FL.fnOf, startR, fVar, fC, faNil, faCons, fTup, fLst, fOp, fFn, fSl, foNone, foSome, asB, ftNot, ftAnd, ftOr, sNext, sSeq, sDrop, sRet, sIf, sAsg, gtName, gtNil, gtCons, gtTup, arity, bind_ok, stm_ok, seq_next, seq_ret, seq_ex, sub_ok, add_ok, h_get0, h_getk, h_app, h_len, h_set0, h_setk, veq_int, vne_int, veq_str1, veq_str0, vne_str1, vne_str0, List.map_cons, List.map_nil, List.length_cons, List.length_nil, List.replicate, List.cons_append, List.nil_append, List.getElem?_cons_zero, List.getElem?_cons_succ, List.set_cons_zero, List.set_cons_succ, Nat.reduceSub, Nat.reduceAdd, if_true, decide_eq_true_eq, Bool.not_eq_true', Bool.not_true, Bool.not_false, Bool.false_eq_true, if_false, decide_eq_false_iff_not, not_true_eq_false, not_false_eq_true, decide_true, decide_false, FL.ix0, FL.ix1, FL.ix2, FL.ix3, FL.ix4, FL.sl_tup, FL.len_tup, FL.list_tup, FL.tuple_tup, FL.max_ok, FL.min_ok, FL.ge_ok, FL.lt_ok, e6, e7, e8a, e9, e10, e11, e12, e13]
theorem law_true (ns : List Int) (hl : ns.length ≤ 63) (hb : ∀ z ∈ ns, Builtin.Int.intBits z ≤ 1048576) : ∃ M, F_law [.ref 0] [.cst (ns.map MV.int)] = .ok (.bl true) M := by
  have c0 : F_law_cell_at [.ref 0, .int 0] [.cst (ns.map MV.int)] = .ok (.int (ns.getD 0 0)) [.cst (ns.map MV.int)] := cell0 (k := 0) (cst_of rfl)
  have hn : ns.getD 0 0 % 4 = ((ns.getD 0 0 % 4).toNat : Int) := by omega
  have hm : ns.getD 0 0 / 4 % 4 = ((ns.getD 0 0 / 4 % 4).toNat : Int) := by omega
  generalize (ns.getD 0 0 % 4).toNat = n at hn
  generalize (ns.getD 0 0 / 4 % 4).toNat = m at hm
  have s1 : gSl (.ref 0) (some 1) none [.cst (ns.map MV.int)] = .ok (.ref 1) [.cst (ns.map MV.int), .lst ((ns.drop 1).map MV.int)] := by
    rw [gSl_lst (cst_of rfl)]
    show Res.ok _ [_, .lst (cutM _ (some ((1 : Nat) : Int)) none)] = _
    rw [cut_from, List.map_drop]
    rfl
  have s2 : gSl (.ref 0) none (some 1) [.cst (ns.map MV.int), .lst ((ns.drop 1).map MV.int)] = .ok (.ref 2) [.cst (ns.map MV.int), .lst ((ns.drop 1).map MV.int), .lst ((ns.take 1).map MV.int)] := by
    rw [gSl_lst (cst_of rfl)]
    show Res.ok _ [_, _, .lst (cutM _ none (some ((1 : Nat) : Int)))] = _
    rw [cut_to, List.map_take]
    rfl
  have hlen : (ns.drop 1 ++ ns.take 1).length ≤ 63 := by
    rw [List.length_append, List.length_drop, List.length_take]
    omega
  have s3 : gAdd (.ref 1) (.ref 2) [.cst (ns.map MV.int), .lst ((ns.drop 1).map MV.int), .lst ((ns.take 1).map MV.int)] = .ok (.ref 3) [.cst (ns.map MV.int), .lst ((ns.drop 1).map MV.int), .lst ((ns.take 1).map MV.int), .lst ((ns.drop 1 ++ ns.take 1).map MV.int)] := by
    rw [add_lst (xs := (ns.drop 1).map MV.int) (ys := (ns.take 1).map MV.int) rfl rfl (by rw [List.length_map, List.length_map, List.length_drop, List.length_take]; omega), List.map_append]
    rfl
  have hsub : ∀ z ∈ ns.drop 1 ++ ns.take 1, z ∈ ns := fun z hz => by
    rw [List.mem_append] at hz
    rcases hz with hz | hz
    · exact List.mem_of_mem_drop hz
    · exact List.mem_of_mem_take hz
  generalize hcs : ns.drop 1 ++ ns.take 1 = cs at hlen s3 hsub
  have hfi : fiAny (fOp gAdd (fSl (fVar 0) (foSome (fC (.int 1))) foNone) (fSl (fVar 0) foNone (foSome (fC (.int 1))))) [some (.ref 0), some (.int n), some (.int m), none, none, none, none, none, none, none, none] [.cst (ns.map MV.int)] = .ok ⟨cs.map MV.int, chkL 3 (cs.map MV.int)⟩ [.cst (ns.map MV.int), .lst ((ns.drop 1).map MV.int), .lst ((ns.take 1).map MV.int), .lst (cs.map MV.int)] := by
    refine fiAny_lst (n := 3) ?_ (lst_of rfl)
    simp (disch := decide +kernel) only [FL.mod_ok, FL.fdiv_ok, FL.small_ok, FL.pow_ok, Int.reducePow, Int.reduceToNat, FL.fnOf, startR, fVar, fC, faNil, faCons, fTup, fLst, fOp, fFn, fSl, foNone, foSome, asB, ftNot, ftAnd, ftOr, sNext, sSeq, sDrop, sRet, sIf, sAsg, gtName, gtNil, gtCons, gtTup, arity, bind_ok, stm_ok, seq_next, seq_ret, seq_ex, sub_ok, add_ok, h_get0, h_getk, h_app, h_len, h_set0, h_setk, veq_int, vne_int, veq_str1, veq_str0, vne_str1, vne_str0, List.map_cons, List.map_nil, List.length_cons, List.length_nil, List.replicate, List.cons_append, List.nil_append, List.getElem?_cons_zero, List.getElem?_cons_succ, List.set_cons_zero, List.set_cons_succ, Nat.reduceSub, Nat.reduceAdd, if_true, decide_eq_true_eq, Bool.not_eq_true', Bool.not_true, Bool.not_false, Bool.false_eq_true, if_false, decide_eq_false_iff_not, not_true_eq_false, not_false_eq_true, decide_true, decide_false, FL.ix0, FL.ix1, FL.ix2, FL.ix3, FL.ix4, FL.sl_tup, FL.len_tup, FL.list_tup, FL.tuple_tup, FL.max_ok, FL.min_ok, FL.ge_ok, FL.lt_ok, s1, s2, s3]
  generalize hM1 : [MO.cst (ns.map MV.int), .lst ((ns.drop 1).map MV.int), .lst ((ns.take 1).map MV.int), .lst (cs.map MV.int)] = M1 at hfi
  have g3 : lstOf M1 (.ref 3) = some (cs.map MV.int) := by rw [← hM1]; exact lst_of rfl
  have g0 : lstOf M1 (.ref 0) = some (ns.map MV.int) := by rw [← hM1]; exact cst_of rfl
  obtain ⟨G1, e3⟩ := lc_all (vs := [10]) (g := gtName 10) (te := fFn (arity 1 F_law_fact) (faCons (fVar 10) faNil)) (fun z => fV (factD z)) hfi (fun z hz => ⟨_, rfl, fun acc G => by
    obtain ⟨G2, e⟩ := fact_ok 1048577 z (M1 ++ (.lst acc :: G)) (Lg_bits (hb z (hsub z hz))) (by omega) (by omega)
    rw [h_app] at e
    exact ⟨G2, e⟩⟩) (fun acc G => chkL_old g3) (by omega)
  have hfacts : (cs.map fun z => fV (factD z)) = (cs.map factD).map fV := by rw [List.map_map]; rfl
  rw [hfacts] at e3
  have gf : ∀ x ∈ cs.map factD, shortD x := fun x hx => by
    obtain ⟨z, _, rfl⟩ := List.mem_map.mp hx
    exact factD_short z
  have hlf : (cs.map factD).length ≤ 63 := by rw [List.length_map]; exact hlen
  generalize cs.map factD = facts at e3 gf hlf
  have g4 : lstOf (M1 ++ (.lst (facts.map fV) :: G1)) (.ref M1.length) = some (facts.map fV) := lst_of (by rw [h_get0]; rfl)
  have g0' : lstOf (M1 ++ (.lst (facts.map fV) :: G1)) (.ref 0) = some (ns.map MV.int) := lstOf_old g0
  generalize M1 ++ (.lst (facts.map fV) :: G1) = M2 at e3 g4 g0'
  generalize M1.length = f at e3 g4
  have e4 : gList [.ref f] M2 = .ok (.ref M2.length) (M2 ++ [.lst (facts.map fV)]) := gList_lst g4
  have w : Wd ns (M2 ++ [.lst (facts.map fV)]) f M2.length facts := ⟨lstOf_old g0', lstOf_old g4, by rw [h_get0]; rfl⟩
  generalize M2 ++ [.lst (facts.map fV)] = M3 at e4 w
  generalize M2.length = h at e4 w
  obtain ⟨x5, x9, G5, e5⟩ := loop_ok (s := some (.ref 0)) (x5 := none) (x6 := none) (x7 := none) (x8 := none) (x9 := none) (x10 := none) (f := f) (h := h) (n := n) (m := m) w.hf gf
  obtain ⟨M', e6⟩ := rest_ok (x2 := some (.int m)) (x5 := x5) (x9 := x9) (x10 := none) (n := n) (w.app (G := G5)) gf (by omega)
  have eB : F_law = FL.fnOf 11 (sSeq (sAsg (fOp gMod (fFn (arity 2 F_law_cell_at) (faCons (fVar 0) (faCons (fC (.int 0)) faNil))) (fC (.int 4))) (gtName 1))
    (sSeq (sAsg (fOp gMod (fOp gFdiv (fFn (arity 2 F_law_cell_at) (faCons (fVar 0) (faCons (fC (.int 0)) faNil))) (fC (.int 4))) (fC (.int 4))) (gtName 2))
    (sSeq (sAsg (fLc [10] (fiAny (fOp gAdd (fSl (fVar 0) (foSome (fC (.int 1))) foNone) (fSl (fVar 0) foNone (foSome (fC (.int 1)))))) (gtName 10) ftYes (fFn (arity 1 F_law_fact) (faCons (fVar 10) faNil))) (gtName 3))
    (sSeq (sAsg (fFn gList (faCons (fVar 3) faNil)) (gtName 4))
    (sSeq (sFor (fiAny (fVar 3)) (gtName 5) loopB) restB))))) := rfl
  rw [eB]
  refine ⟨M', ?_⟩
  simp (disch := decide +kernel) only [FL.mod_ok, FL.fdiv_ok, FL.small_ok, FL.pow_ok, Int.reducePow, Int.reduceToNat, FL.fnOf, startR, fVar, fC, faNil, faCons, fTup, fLst, fOp, fFn, fSl, foNone, foSome, asB, ftNot, ftAnd, ftOr, sNext, sSeq, sDrop, sRet, sIf, sAsg, gtName, gtNil, gtCons, gtTup, arity, bind_ok, stm_ok, seq_next, seq_ret, seq_ex, sub_ok, add_ok, h_get0, h_getk, h_app, h_len, h_set0, h_setk, veq_int, vne_int, veq_str1, veq_str0, vne_str1, vne_str0, List.map_cons, List.map_nil, List.length_cons, List.length_nil, List.replicate, List.cons_append, List.nil_append, List.getElem?_cons_zero, List.getElem?_cons_succ, List.set_cons_zero, List.set_cons_succ, Nat.reduceSub, Nat.reduceAdd, if_true, decide_eq_true_eq, Bool.not_eq_true', Bool.not_true, Bool.not_false, Bool.false_eq_true, if_false, decide_eq_false_iff_not, not_true_eq_false, not_false_eq_true, decide_true, decide_false, FL.ix0, FL.ix1, FL.ix2, FL.ix3, FL.ix4, FL.sl_tup, FL.len_tup, FL.list_tup, FL.tuple_tup, FL.max_ok, FL.min_ok, FL.ge_ok, FL.lt_ok, c0, hn, hm, e3, e4, e5, e6]
end My

set_option maxHeartbeats 0
open PySem PySem.W PySem.Calls PyProof.Rows
theorem PySem.Challenge.cw_pointsure_k30_facts_cut_holds : PySem.Challenge.rw_pointsure_k30_facts_cut.Holds := by
  w_on; o_law
  refine HandSHeadRun.head_any (r := OpenLaw.row PySem.Challenge.rw_pointsure_k30_facts_cut) (q := view (OpenLaw.row PySem.Challenge.rw_pointsure_k30_facts_cut).prog [15]) (H := G.hk) (ob := G.ob) (M := 4000) (loose := G.loose) (d := HandSHeadRun.topDef (OpenLaw.row PySem.Challenge.rw_pointsure_k30_facts_cut).prog 15) (kwd := []) G.ob_eq
    (by kernel_rfl) (fun s => by kernel_rfl) G.run (by kernel_rfl) (by kernel_rfl) (by kernel_rfl) (by rfl) (by first | assumption | decide +kernel) (by decide +kernel) ⟨rfl, rfl, rfl, rfl, rfl, by decide +kernel⟩ ?hw ?hc
  case hw => w_witness2
  case hc =>
    refine FL.walk_ofEB (l := PySem.Challenge.rw_pointsure_k30_facts_cut) (n := 63) (k := 5) (x := "_law_script") (CX := fun w => L2.CX (PySem.Challenge.rw_pointsure_k30_facts_cut).prog w) rfl (by decide) (by kernel_rfl) ⟨rfl, by decide, by decide⟩ ?F (fun _ _ _ _ _ z => by
      obtain ⟨_, _, _, _, _, _, _, _, _, _, _, _, z⟩ := z
      exact z)
    intro w mg fa h Y Gn hmg0
    obtain ⟨K, KX, c⟩ := Y
    have hmg : mg ("law" : PySem.Str) = some (.ref fa) := by
      have e : (HandSHeadRun.topDef (OpenLaw.row PySem.Challenge.rw_pointsure_k30_facts_cut).prog 15).name = ("law" : PySem.Str) := by kernel_rfl
      rw [← e]
      exact hmg0
    have e2 := hmg.symm.trans (He.glo_ok KX Gn (c.fact 12 (f := .glo "law") rfl))
    cases e2
    obtain ⟨fd, hb, hF⟩ := G.facts (P := (PySem.Challenge.rw_pointsure_k30_facts_cut).prog) (w := w) KX Gn c
    exact ⟨K, fd, _, KX, hb, fun H a ns hl hbits hO hS => FL.sp_law hO hS (My.law_true ns hl hbits), fun base _ _ => hF base⟩

