import PyProof.Rows.All
import Wide.All
import OpenK.AllK
import Wide.FinOn
import HandS.ForMost
import HandS.ForExc
import HandS.HeadHook1
import HandS.HeadHook2
import HandS.IsInst
import HandS.Strs
import HandS.Wide
import HandS.TupAny
import HandS.Text
import HandS.Property
import HandS.Zip
import HandS.NestedK
import KE.KSuper
import HandS.Head2
import HandS.HeadEnd
import PySem.Challenge.RW_surelater_k40_whole_facts
import KE.KStateDown
import HandS.Head0
import HandS.Head1
set_option Elab.async false
set_option linter.all false
set_option maxRecDepth 100000
set_option maxHeartbeats 2000000
/-! Layer D, part A: Python values as plain data, how they lie in the heap, results, readings by functions. -/
namespace LD
open PySem PySem.Spec PyProof.Rows L2

/-! ### data -/
inductive DV where
  | non | bl (b : Bool) | int (i : Int) | str (x : Str)
  | tup (xs : List DV) | lst (xs : List DV)
  /-- a list that may only be read: the script -/
  | ro (xs : List DV)
  | dic (kvs : List (Key × DV)) | dit (kvs : List (List Key × DV))
  | obj (c : Str) (fs : List (Str × DV))
  deriving Inhabited

mutual
/-- v is d, told by the part G of the heap that no one changes any more -/
inductive DRep (K : PySem.W.Frag) (G : Hp) : V → DV → Prop
  | non : DRep K G .non .non
  | bl (b : Bool) : DRep K G (.bl b) (.bl b)
  | int (i : Int) : DRep K G (.int i) (.int i)
  | str (x : Str) : DRep K G (.str x) (.str x)
  | tup {a : Addr} {vs : List V} {ds : List DV} : G a = some (.tup vs) → DReps K G vs ds → DRep K G (.ref a) (.tup ds)
  | lst {a : Addr} {vs : List V} {ds : List DV} : G a = some (.lst vs) → DReps K G vs ds → DRep K G (.ref a) (.lst ds)
  | ro {a : Addr} {vs : List V} {ds : List DV} : SqL K G a vs → DReps K G vs ds → DRep K G (.ref a) (.ro ds)
  | dic {a : Addr} {vs : List (Key × V)} {ds : List (Key × DV)} : G a = some (.dK vs) → KReps K G vs ds → DRep K G (.ref a) (.dic ds)
  | dit {a : Addr} {vs : List (List Key × V)} {ds : List (List Key × DV)} : G a = some (.dT vs) → TReps K G vs ds → DRep K G (.ref a) (.dit ds)
  | obj {a dx : Addr} {c : Str} {vs : List (Str × V)} {ds : List (Str × DV)} : G a = some (.ins (He.ga K c) dx vs) → FReps K G vs ds → DRep K G (.ref a) (.obj c ds)
inductive DReps (K : PySem.W.Frag) (G : Hp) : List V → List DV → Prop
  | nil : DReps K G [] []
  | cons {v : V} {d : DV} {vs : List V} {ds : List DV} : DRep K G v d → DReps K G vs ds → DReps K G (v :: vs) (d :: ds)
inductive KReps (K : PySem.W.Frag) (G : Hp) : List (Key × V) → List (Key × DV) → Prop
  | nil : KReps K G [] []
  | cons {k : Key} {v : V} {d : DV} {vs : List (Key × V)} {ds : List (Key × DV)} : DRep K G v d → KReps K G vs ds → KReps K G ((k, v) :: vs) ((k, d) :: ds)
inductive TReps (K : PySem.W.Frag) (G : Hp) : List (List Key × V) → List (List Key × DV) → Prop
  | nil : TReps K G [] []
  | cons {k : List Key} {v : V} {d : DV} {vs : List (List Key × V)} {ds : List (List Key × DV)} : DRep K G v d → TReps K G vs ds → TReps K G ((k, v) :: vs) ((k, d) :: ds)
inductive FReps (K : PySem.W.Frag) (G : Hp) : List (Str × V) → List (Str × DV) → Prop
  | nil : FReps K G [] []
  | cons {k : Str} {v : V} {d : DV} {vs : List (Str × V)} {ds : List (Str × DV)} : DRep K G v d → FReps K G vs ds → FReps K G ((k, v) :: vs) ((k, d) :: ds)
end

theorem _root_.L2.SqT.same {K : PySem.W.Frag} {G G' : Hp} {a : Addr} {xs : List V} (e : Same G G') (h : SqT K G a xs) : SqT K G' a xs := by
  rcases h with (h | ⟨o, h⟩) | h
  · exact .inl (.inl (e _ _ h))
  · exact .inl (.inr ⟨o, e _ _ h⟩)
  · exact .inr h
section
variable {K : PySem.W.Frag} {G G' : Hp}
mutual
theorem DRep.mono (s : Same G G') : ∀ {v : V} {d : DV}, DRep K G v d → DRep K G' v d
  | _, _, .non => .non
  | _, _, .bl b => .bl b
  | _, _, .int i => .int i
  | _, _, .str x => .str x
  | _, _, .tup h r => .tup (s _ _ h) (DReps.mono s r)
  | _, _, .lst h r => .lst (s _ _ h) (DReps.mono s r)
  | _, _, .ro h r => .ro (Same.seq s h) (DReps.mono s r)
  | _, _, .dic h r => .dic (s _ _ h) (KReps.mono s r)
  | _, _, .dit h r => .dit (s _ _ h) (TReps.mono s r)
  | _, _, .obj h r => .obj (s _ _ h) (FReps.mono s r)
theorem DReps.mono (s : Same G G') : ∀ {v : List V} {d : List DV}, DReps K G v d → DReps K G' v d
  | _, _, .nil => .nil
  | _, _, .cons a b => .cons (DRep.mono s a) (DReps.mono s b)
theorem KReps.mono (s : Same G G') : ∀ {v : List (Key × V)} {d : List (Key × DV)}, KReps K G v d → KReps K G' v d
  | _, _, .nil => .nil
  | _, _, .cons a b => .cons (DRep.mono s a) (KReps.mono s b)
theorem TReps.mono (s : Same G G') : ∀ {v : List (List Key × V)} {d : List (List Key × DV)}, TReps K G v d → TReps K G' v d
  | _, _, .nil => .nil
  | _, _, .cons a b => .cons (DRep.mono s a) (TReps.mono s b)
theorem FReps.mono (s : Same G G') : ∀ {v : List (Str × V)} {d : List (Str × DV)}, FReps K G v d → FReps K G' v d
  | _, _, .nil => .nil
  | _, _, .cons a b => .cons (DRep.mono s a) (FReps.mono s b)
end
theorem DReps.length : ∀ {vs : List V} {ds : List DV}, DReps K G vs ds → vs.length = ds.length
  | _, _, .nil => rfl
  | _, _, .cons _ b => by rw [List.length_cons, List.length_cons, b.length]
theorem DReps.get : ∀ {vs : List V} {ds : List DV} {i : Nat} {d : DV}, DReps K G vs ds → ds[i]? = some d → ∃ v, vs[i]? = some v ∧ DRep K G v d
  | _, _, _, _, .nil, e => by simp at e
  | _, _, 0, _, .cons r _, e => by simp at e; subst e; exact ⟨_, rfl, r⟩
  | _, _, i + 1, d, .cons _ t, e => by
    obtain ⟨u, h1, h2⟩ := DReps.get (i := i) (d := d) t (by simpa using e)
    exact ⟨u, by simpa using h1, h2⟩
theorem DReps.get' : ∀ {vs : List V} {ds : List DV} {i : Nat} {v : V}, DReps K G vs ds → vs[i]? = some v → ∃ d, ds[i]? = some d ∧ DRep K G v d
  | _, _, _, _, .nil, e => by simp at e
  | _, _, 0, _, .cons r _, e => by simp at e; subst e; exact ⟨_, rfl, r⟩
  | _, _, i + 1, d, .cons _ t, e => by
    obtain ⟨u, h1, h2⟩ := DReps.get' (i := i) (v := d) t (by simpa using e)
    exact ⟨u, by simpa using h1, h2⟩
theorem DReps.append : ∀ {vs ws : List V} {ds es : List DV}, DReps K G vs ds → DReps K G ws es → DReps K G (vs ++ ws) (ds ++ es)
  | _, _, _, _, .nil, s => s
  | _, _, _, _, .cons r t, s => .cons r (DReps.append t s)
theorem DReps.take : ∀ {vs : List V} {ds : List DV} (n : Nat), DReps K G vs ds → DReps K G (vs.take n) (ds.take n)
  | _, _, 0, _ => .nil
  | _, _, _ + 1, .nil => .nil
  | _, _, n + 1, .cons r t => .cons r (DReps.take n t)
theorem DReps.drop : ∀ {vs : List V} {ds : List DV} (n : Nat), DReps K G vs ds → DReps K G (vs.drop n) (ds.drop n)
  | _, _, 0, r => r
  | _, _, _ + 1, .nil => .nil
  | _, _, n + 1, .cons _ t => DReps.drop n t
theorem DReps.ints : ∀ (ns : List Int), DReps K G (ns.map V.int) (ns.map DV.int)
  | [] => .nil
  | n :: ns => .cons (.int n) (DReps.ints ns)
theorem FReps.length : ∀ {vs : List (Str × V)} {ds : List (Str × DV)}, FReps K G vs ds → vs.length = ds.length
  | _, _, .nil => rfl
  | _, _, .cons _ b => by rw [List.length_cons, List.length_cons, b.length]
theorem FReps.lookup {f : Str} : ∀ {vs : List (Str × V)} {ds : List (Str × DV)} {d : DV}, FReps K G vs ds → ds.lookup f = some d → ∃ v, vs.lookup f = some v ∧ DRep K G v d
  | _, _, _, .nil, e => by simp at e
  | _, _, d, .cons (k := k) r t, e => by
    rw [List.lookup_cons] at e ⊢
    cases h : f == k with
    | true => rw [h] at e; simp at e; subst e; exact ⟨_, rfl, r⟩
    | false => rw [h] at e; exact FReps.lookup t e
theorem FReps.none {f : Str} : ∀ {vs : List (Str × V)} {ds : List (Str × DV)}, FReps K G vs ds → ds.lookup f = none → vs.lookup f = none
  | _, _, .nil, _ => rfl
  | _, _, .cons (k := k) r t, e => by
    rw [List.lookup_cons] at e ⊢
    cases h : f == k with
    | true => rw [h] at e; simp at e
    | false => rw [h] at e; exact FReps.none t e
end

/-! ### what changes: objects are made; the rest stands -/
structure Tr (G H G' H' : Hp) : Prop where
  sm : Same H H'
  gg : Same G G'
  gh : Same G' H'
  nw : ∀ a, H a ≠ none → G' a = G a
section
variable {G H G' H' G2 H2 : Hp}
theorem Tr.refl (h : Same G H) : Tr G H G H := ⟨Same.refl _, Same.refl _, h, fun _ _ => rfl⟩
theorem Tr.trans (a : Tr G H G' H') (b : Tr G' H' G2 H2) : Tr G H G2 H2 := ⟨a.sm.trans b.sm, a.gg.trans b.gg, b.gh, fun c hc => by
  have hc' : H' c ≠ none := by
    cases q : H c with
    | none => exact absurd q hc
    | some o => rw [a.sm c o q]; simp
  rw [b.nw c hc', a.nw c hc]⟩
theorem _root_.L2.Same.upd {H : Hp} {p : Addr} {o : HO} (h : H p = none) : Same H (upd H p o) := fun a u e => by rw [upd_ne (ne_of_none e h)]; exact e
theorem _root_.L2.Same.none {G H : Hp} (s : Same G H) {p : Addr} (h : H p = none) : G p = none := by
  cases q : G p with
  | none => rfl
  | some o => rw [s p o q] at h; cases h
/-- a new object, to be changed by no one -/
theorem Tr.new (h : Same G H) {p : Addr} (o : HO) (hp : H p = none) : Tr G H (upd G p o) (upd H p o) := by
  refine ⟨Same.upd hp, Same.upd (h.none hp), fun a u e => ?_, fun a ha => ?_⟩
  · by_cases q : a = p
    · subst q; rw [upd_same] at e ⊢; exact e
    · rw [upd_ne q] at e ⊢; exact h a u e
  · have : a ≠ p := fun q => ha (by rw [q]; exact hp)
    rw [upd_ne this]
/-- a new object that stays the def's own -/
theorem Tr.own (h : Same G H) {p : Addr} (o : HO) (hp : H p = none) : Tr G H G (upd H p o) :=
  ⟨Same.upd hp, Same.refl _, h.trans (Same.upd hp), fun _ _ => rfl⟩
end

/-! ### results -/
inductive R (α : Type) where
  | ok (a : α)
  | exc (c : Str) (fs : List (Str × DV))
  | bad
namespace R
def bind {α β : Type} (r : R α) (f : α → R β) : R β := match r with
  | .ok a => f a
  | .exc c fs => .exc c fs
  | .bad => .bad
instance : Monad R where
  pure := .ok
  bind := R.bind
@[simp] theorem bind_ok {α β : Type} (a : α) (f : α → R β) : (R.ok a).bind f = f a := rfl
@[simp] theorem bind_exc {α β : Type} (c : Str) (fs : List (Str × DV)) (f : α → R β) : (R.exc c fs : R α).bind f = .exc c fs := rfl
@[simp] theorem bind_bad {α β : Type} (f : α → R β) : (R.bad : R α).bind f = .bad := rfl
def ofO {α : Type} : Option α → R α
  | some a => .ok a
  | none => .bad
end R

/-- an exception's own attributes -/
def XRep (K : PySem.W.Frag) (G H : Hp) (d : Option Addr) (fs : List (Str × DV)) : Prop :=
  (d = none ∧ fs = []) ∨ ∃ dx vs, d = some dx ∧ H dx = some (.xd vs) ∧ FReps K G vs fs

abbrev Rel (α β : Type) := Hp → β → α → Prop
/-- what a result asks of what follows -/
def Rq {α β : Type} (K : PySem.W.Frag) (rep : Rel α β) (W : Value → Option Addr → Hp → Prop) (G H : Hp) (r : R α) (Q : β → Hp → Prop) : Prop := match r with
  | .ok a => ∀ b H' G', Tr G H G' H' → rep G' b a → Q b H'
  | .exc c fs => ∀ H' G' d, Tr G H G' H' → XRep K G' H' d fs → W (.ref (He.ga K c)) d H'
  | .bad => False
section
variable {α β γ δ : Type} {K : PySem.W.Frag} {rep : Rel α β} {rep' : Rel γ δ} {W : Value → Option Addr → Hp → Prop} {G H G1 H1 : Hp} {r : R α} {Q : β → Hp → Prop} {Q' : δ → Hp → Prop}
theorem Rq.tr (t : Tr G H G1 H1) (h : Rq K rep W G H r Q) : Rq K rep W G1 H1 r Q := by
  cases r with
  | ok a => exact fun b H' G' t' => h b H' G' (t.trans t')
  | exc c fs => exact fun H' G' d t' => h H' G' d (t.trans t')
  | bad => exact h
theorem Rq.bind {k : α → R γ} (h : Rq K rep' W G H (r.bind k) Q') (c : ∀ a, r = .ok a → ∀ b H1 G1, Tr G H G1 H1 → rep G1 b a → Rq K rep' W G1 H1 (k a) Q' → Q b H1) : Rq K rep W G H r Q := by
  cases r with
  | ok a => exact fun b H1 G1 t p => c a rfl b H1 G1 t p (Rq.tr t h)
  | exc _ _ => exact h
  | bad => exact h
theorem Rq.ok_self (s : Same G H) {a : α} {b : β} (h : Rq K rep W G H (.ok a) Q) (p : rep G b a) : Q b H := h b H G (Tr.refl s) p
theorem Rq.ok_new (s : Same G H) {a : α} {b : β} {o : HO} {p : Addr} (hp : H p = none) (h : Rq K rep W G H (.ok a) Q) (q : rep (upd G p o) b a) : Q b (upd H p o) := h b _ _ (Tr.new s o hp) q
theorem Rq.imp {r' : R α} (e : r = r') (h : Rq K rep W G H r' Q) : Rq K rep W G H r Q := e ▸ h
end
abbrev BRep : Rel Bool Bool := fun _ b a => b = a

/-! ### slots -/
inductive Sl where
  | un
  | pu (d : DV)
  /-- a list that only this name holds -/
  | ol (ds : List DV)
  /-- an instance that is being made -/
  | oo (c : Str) (fs : List (Str × DV))
  /-- a dict (int and text keys) that only this name holds -/
  | od (kvs : List (Key × DV))
  deriving Inhabited
abbrev Ev := List Sl
/-- the object that only this name holds -/
def OwnAt (K : PySem.W.Frag) (G H : Hp) (a : Addr) : Sl → Prop
  | .ol ds => ∃ vs, H a = some (.lst vs) ∧ DReps K G vs ds
  | .oo c fs => ∃ dx vs, H a = some (.ins (He.ga K c) dx vs) ∧ FReps K G vs fs
  | .od kvs => ∃ vs, H a = some (.dK vs) ∧ KReps K G vs kvs
  | _ => False
def SlOk (K : PySem.W.Frag) (H0 G H : Hp) (s : Sl) (v : Option V) : Prop := match s with
  | .un => True
  | .pu d => ∃ x, v = some x ∧ DRep K G x d
  | s => ∃ a, v = some (.ref a) ∧ H0 a = none ∧ G a = none ∧ OwnAt K G H a s
def isOwn : Sl → Bool
  | .un => false
  | .pu _ => false
  | _ => true

/-- a def's entry: the heap, what no one changes, the instance that is being made or changed -/
structure Bas where
  H0 : Hp
  G0 : Hp
  pa : Option Addr := none
structure SOk (K : PySem.W.Frag) (B : Bas) (G H : Hp) (δ : Ev) (σ : L2.St) : Prop where
  tr : Tr B.G0 B.H0 G H
  len : σ.length = δ.length
  sl : ∀ (i : Nat) (s : Sl), δ[i]? = some s → SlOk K B.H0 G H s (σ[i]?.join)
  dj : ∀ (i j : Nat) (s t : Sl) (a : Addr), δ[i]? = some s → δ[j]? = some t → isOwn s = true → isOwn t = true → σ[i]? = some (some (.ref a)) → σ[j]? = some (some (.ref a)) → i = j
  me : ∀ (i : Nat) (c : Str) (fs : List (Str × DV)), δ[i]? = some (.oo c fs) → ∃ p, B.pa = some p ∧ σ[i]? = some (some (.ref p))

section
variable {K : PySem.W.Frag} {B : Bas} {H0 G0 G H G' H' : Hp} {δ : Ev} {σ : L2.St}
theorem SlOk.own {s : Sl} {v : Option V} (o : isOwn s = true) (h : SlOk K H0 G H s v) : ∃ a, v = some (.ref a) ∧ H0 a = none ∧ G a = none ∧ OwnAt K G H a s := by
  cases s with
  | un => cases o
  | pu _ => cases o
  | ol _ => exact h
  | oo _ _ => exact h
  | od _ => exact h
theorem SlOk.mk {s : Sl} {a : Addr} (o : isOwn s = true) (h : H0 a = none ∧ G a = none ∧ OwnAt K G H a s) : SlOk K H0 G H s (some (.ref a)) := by
  cases s with
  | un => cases o
  | pu _ => cases o
  | ol _ => exact ⟨a, rfl, h⟩
  | oo _ _ => exact ⟨a, rfl, h⟩
  | od _ => exact ⟨a, rfl, h⟩
theorem OwnAt.there {s : Sl} {a : Addr} (h : OwnAt K G H a s) : H a ≠ none := by
  cases s with
  | un => exact h.elim
  | pu _ => exact h.elim
  | ol _ => obtain ⟨_, e, _⟩ := h; rw [e]; simp
  | oo _ _ => obtain ⟨_, _, e, _⟩ := h; rw [e]; simp
  | od _ => obtain ⟨_, e, _⟩ := h; rw [e]; simp
theorem OwnAt.step {s : Sl} {a : Addr} (gg : Same G G') (e : ∀ o, H a = some o → H' a = some o) (h : OwnAt K G H a s) : OwnAt K G' H' a s := by
  cases s with
  | un => exact h
  | pu _ => exact h
  | ol _ => obtain ⟨vs, e1, r⟩ := h; exact ⟨vs, e _ e1, r.mono gg⟩
  | oo _ _ => obtain ⟨dx, vs, e1, r⟩ := h; exact ⟨dx, vs, e _ e1, r.mono gg⟩
  | od _ => obtain ⟨vs, e1, r⟩ := h; exact ⟨vs, e _ e1, r.mono gg⟩
theorem SlOk.step {s : Sl} {v : Option V} (gg : Same G G') (e : ∀ a o, isOwn s = true → v = some (.ref a) → H a = some o → H' a = some o) (n : ∀ a, isOwn s = true → v = some (.ref a) → H a ≠ none → G a = none → G' a = none) (h : SlOk K H0 G H s v) : SlOk K H0 G' H' s v := by
  cases o : isOwn s with
  | true =>
    obtain ⟨a, rfl, h1, h2, h3⟩ := h.own o
    exact .mk o ⟨h1, n a o rfl h3.there h2, h3.step gg fun ob => e a ob o rfl⟩
  | false =>
    cases s with
    | un => trivial
    | pu d => obtain ⟨x, e1, r⟩ := h; exact ⟨x, e1, r.mono gg⟩
    | ol _ => cases o
    | oo _ _ => cases o
    | od _ => cases o
theorem SOk.gh (S : SOk K B G H δ σ) : Same G H := S.tr.gh
/-- objects are made, no own one is touched -/
theorem SOk.step (S : SOk K B G H δ σ) (t : Tr G H G' H') : SOk K B G' H' δ σ where
  tr := S.tr.trans t
  len := S.len
  sl := fun i s e => (S.sl i s e).step t.gg (fun a o _ _ q => t.sm a o q) fun a _ _ ha hg => by rw [t.nw a ha]; exact hg
  dj := S.dj
  me := S.me
theorem SOk.pu (S : SOk K B G H δ σ) {i : Nat} {d : DV} (e : δ[i]? = some (.pu d)) : ∃ v, σ[i]? = some (some v) ∧ DRep K G v d := by
  obtain ⟨x, h, r⟩ := S.sl i _ e
  cases q : σ[i]? with
  | none => rw [q] at h; cases h
  | some w => rw [q] at h; exact ⟨x, by rw [show w = some x from h], r⟩
theorem join_some {o : Option (Option V)} {v : V} (h : o.join = some v) : o = some (some v) := by
  cases o with
  | none => cases h
  | some w => exact congrArg some h
theorem SOk.own (S : SOk K B G H δ σ) {i : Nat} {s : Sl} (e : δ[i]? = some s) (o : isOwn s = true) : ∃ a, σ[i]? = some (some (.ref a)) ∧ B.H0 a = none ∧ G a = none ∧ OwnAt K G H a s := by
  obtain ⟨a, h, r⟩ := (S.sl i s e).own o
  exact ⟨a, join_some h, r⟩
/-- a name gets a value -/
theorem SOk.set (S : SOk K B G H δ σ) (i : Nat) {v : V} {d : DV} (r : DRep K G v d) : SOk K B G H (δ.set i (.pu d)) (σ.set i (some v)) := by
  refine ⟨S.tr, by rw [List.length_set, List.length_set, S.len], fun j s e => ?_, fun j k s t a e1 e2 o1 o2 h1 h2 => ?_, fun j c fs e => ?_⟩
  · by_cases q : i = j
    · subst q
      have hi : i < δ.length := by
        have := (List.getElem?_eq_some_iff.mp e).1
        rwa [List.length_set] at this
      rw [List.getElem?_set_self hi] at e
      cases e
      rw [List.getElem?_set_self (by rw [S.len]; exact hi)]
      exact ⟨v, rfl, r⟩
    · rw [List.getElem?_set_ne q] at e ⊢
      exact S.sl j s e
  · have ne : ∀ {j : Nat} {s : Sl}, (δ.set i (.pu d))[j]? = some s → isOwn s = true → i ≠ j := fun {j s} e o q => by
      subst q
      have hi : i < δ.length := by
        have := (List.getElem?_eq_some_iff.mp e).1
        rwa [List.length_set] at this
      rw [List.getElem?_set_self hi] at e
      cases e; cases o
    have n1 := ne e1 o1
    have n2 := ne e2 o2
    rw [List.getElem?_set_ne n1] at e1 h1
    rw [List.getElem?_set_ne n2] at e2 h2
    exact S.dj j k s t a e1 e2 o1 o2 h1 h2
  · by_cases q : i = j
    · subst q
      have hi : i < δ.length := by
        have := (List.getElem?_eq_some_iff.mp e).1
        rwa [List.length_set] at this
      rw [List.getElem?_set_self hi] at e
      cases e
    · rw [List.getElem?_set_ne q] at e ⊢
      exact S.me j c fs e
/-- a name gets a new object of its own, or its own object is changed -/
theorem SOk.setOwn (S : SOk K B G H δ σ) (i : Nat) {a : Addr} {s : Sl} (ho : isOwn s = true) (t : Tr B.G0 B.H0 G H') (h0 : B.H0 a = none) (hg : G a = none) (r : OwnAt K G H' a s)
    (keep : ∀ b o, b ≠ a → H b = some o → H' b = some o) (new : ∀ j u, j ≠ i → δ[j]? = some u → isOwn u = true → σ[j]? ≠ some (some (.ref a))) (hme : ∀ c fs, s = .oo c fs → B.pa = some a) : SOk K B G H' (δ.set i s) (σ.set i (some (.ref a))) := by
  refine ⟨t, by rw [List.length_set, List.length_set, S.len], fun j u e => ?_, fun j k u w b e1 e2 o1 o2 h1 h2 => ?_, fun j c fs e => ?_⟩
  · by_cases q : i = j
    · subst q
      have hi : i < δ.length := by
        have := (List.getElem?_eq_some_iff.mp e).1
        rwa [List.length_set] at this
      rw [List.getElem?_set_self hi] at e
      cases e
      rw [List.getElem?_set_self (by rw [S.len]; exact hi)]
      exact .mk ho ⟨h0, hg, r⟩
    · rw [List.getElem?_set_ne q] at e ⊢
      refine (S.sl j u e).step (Same.refl _) (fun b o ou hb q2 => keep b o (fun z => ?_) q2) fun _ _ _ _ x => x
      subst z
      exact new j u (Ne.symm q) e ou (join_some hb)
  · have un : ∀ {j : Nat} {u : Sl}, i ≠ j → (δ.set i s)[j]? = some u → δ[j]? = some u := fun {j u} q e => by rwa [List.getElem?_set_ne q] at e
    by_cases q1 : i = j
    · by_cases q2 : i = k
      · rw [← q1, ← q2]
      · subst q1
        rw [List.getElem?_set_ne q2] at h2
        have hi : i < σ.length := by
          have := (List.getElem?_eq_some_iff.mp h1).1
          rwa [List.length_set] at this
        rw [List.getElem?_set_self hi] at h1
        have : a = b := by injection h1 with h1; injection h1 with h1; injection h1
        subst this
        exact absurd h2 (new k w (Ne.symm q2) (un q2 e2) o2)
    · by_cases q2 : i = k
      · subst q2
        rw [List.getElem?_set_ne q1] at h1
        have hi : i < σ.length := by
          have := (List.getElem?_eq_some_iff.mp h2).1
          rwa [List.length_set] at this
        rw [List.getElem?_set_self hi] at h2
        have : a = b := by injection h2 with h2; injection h2 with h2; injection h2
        subst this
        exact absurd h1 (new j u (Ne.symm q1) (un q1 e1) o1)
      · rw [List.getElem?_set_ne q1] at h1
        rw [List.getElem?_set_ne q2] at h2
        exact S.dj j k u w b (un q1 e1) (un q2 e2) o1 o2 h1 h2
  · by_cases q : i = j
    · subst q
      have hi : i < δ.length := by
        have := (List.getElem?_eq_some_iff.mp e).1
        rwa [List.length_set] at this
      rw [List.getElem?_set_self hi] at e
      cases e
      rw [List.getElem?_set_self (by rw [S.len]; exact hi)]
      exact ⟨a, hme c fs rfl, rfl⟩
    · rw [List.getElem?_set_ne q] at e ⊢
      exact S.me j c fs e
/-- a name's slot forgotten -/
theorem SOk.forget (S : SOk K B G H δ σ) (i : Nat) (v : Option V) : SOk K B G H (δ.set i .un) (σ.set i v) := by
  refine ⟨S.tr, by rw [List.length_set, List.length_set, S.len], fun j s e => ?_, fun j k s t a e1 e2 o1 o2 h1 h2 => ?_, fun j c fs e => ?_⟩
  · by_cases q : i = j
    · subst q
      have hi : i < δ.length := by
        have := (List.getElem?_eq_some_iff.mp e).1
        rwa [List.length_set] at this
      rw [List.getElem?_set_self hi] at e
      cases e
      trivial
    · rw [List.getElem?_set_ne q] at e ⊢
      exact S.sl j s e
  · have ne : ∀ {j : Nat} {s : Sl}, (δ.set i .un)[j]? = some s → isOwn s = true → i ≠ j := fun {j s} e o q => by
      subst q
      have hi : i < δ.length := by
        have := (List.getElem?_eq_some_iff.mp e).1
        rwa [List.length_set] at this
      rw [List.getElem?_set_self hi] at e
      cases e; cases o
    have n1 := ne e1 o1
    have n2 := ne e2 o2
    rw [List.getElem?_set_ne n1] at e1 h1
    rw [List.getElem?_set_ne n2] at e2 h2
    exact S.dj j k s t a e1 e2 o1 o2 h1 h2
  · by_cases q : i = j
    · subst q
      have hi : i < δ.length := by
        have := (List.getElem?_eq_some_iff.mp e).1
        rwa [List.length_set] at this
      rw [List.getElem?_set_self hi] at e
      cases e
    · rw [List.getElem?_set_ne q] at e ⊢
      exact S.me j c fs e
/-- an own object is changed by no one from here on -/
def frz (δ : Ev) (i : Nat) : Ev := match δ[i]? with
  | some (.ol ds) => δ.set i (.pu (.lst ds))
  | some (.od kvs) => δ.set i (.pu (.dic kvs))
  | some (.oo c fs) => δ.set i (.pu (.obj c fs))
  | _ => δ
theorem Tr.freeze (t : Tr G0 H0 G H) {a : Addr} {o : HO} (h0 : H0 a = none) (hg : G a = none) (h : H a = some o) : Tr G0 H0 (upd G a o) H ∧ Same G (upd G a o) := by
  refine ⟨⟨t.sm, t.gg.trans (Same.upd hg), fun b u e => ?_, fun b hb => ?_⟩, Same.upd hg⟩
  · by_cases q : b = a
    · subst q; rw [upd_same] at e; rw [← e]; exact h
    · rw [upd_ne q] at e; exact t.gh b u e
  · have : b ≠ a := fun q => hb (by rw [q]; exact h0)
    rw [upd_ne this]; exact t.nw b hb
theorem SOk.frz (S : SOk K B G H δ σ) (i : Nat) : ∃ G', Same G G' ∧ SOk K B G' H (frz δ i) σ := by
  have go : ∀ {s : Sl} {d : DV} {a : Addr} {o : HO}, δ[i]? = some s → isOwn s = true → σ[i]? = some (some (.ref a)) → B.H0 a = none → G a = none → H a = some o → DRep K (upd G a o) (.ref a) d → ∃ G', Same G G' ∧ SOk K B G' H (δ.set i (.pu d)) σ := fun {s d a o} e os es h0 hg h r => by
    obtain ⟨t, gg⟩ := S.tr.freeze h0 hg h
    have S' : SOk K B (L2.upd G a o) H (δ.set i .un) (σ.set i (some (.ref a))) := by
      refine ⟨t, by rw [List.length_set, List.length_set, S.len], fun j u e' => ?_, (S.forget i (some (.ref a))).dj, (S.forget i (some (.ref a))).me⟩
      by_cases q : i = j
      · subst q
        have hi : i < δ.length := (List.getElem?_eq_some_iff.mp e).1
        rw [List.getElem?_set_self hi] at e'
        cases e'; trivial
      · have z := (S.forget i (some (.ref a))).sl j u e'
        refine z.step gg (fun _ _ _ _ x => x) fun b ou hb _ hgb => ?_
        have : b ≠ a := fun z => by
          subst z
          rw [List.getElem?_set_ne q] at e' hb
          exact q (S.dj i j s u b e e' os ou es (join_some hb))
        rw [upd_ne this]; exact hgb
    have S2 := S'.set i r
    rw [List.set_set, List.set_set] at S2
    have es' : σ.set i (some (.ref a)) = σ := by
      apply List.ext_getElem?
      intro j
      by_cases q : i = j
      · subst q
        rw [List.getElem?_set_self (List.getElem?_eq_some_iff.mp es).1, es]
      · rw [List.getElem?_set_ne q]
    rw [es'] at S2
    exact ⟨_, gg, S2⟩
  unfold LD.frz
  split
  · rename_i ds e
    obtain ⟨a, es, h0, hg, vs, h, r⟩ := S.own e rfl
    exact go e rfl es h0 hg h (.lst upd_same (r.mono (Same.upd hg)))
  · rename_i kvs e
    obtain ⟨a, es, h0, hg, vs, h, r⟩ := S.own e rfl
    exact go e rfl es h0 hg h (.dic upd_same (r.mono (Same.upd hg)))
  · rename_i c fs e
    obtain ⟨a, es, h0, hg, dx, vs, h, r⟩ := S.own e rfl
    exact go e rfl es h0 hg h (.obj upd_same (r.mono (Same.upd hg)))
  · exact ⟨G, Same.refl _, S⟩
end
end LD

set_option maxHeartbeats 2000000
/-! Layer D, part B: expressions. -/
namespace LD
open PySem PySem.Spec PyProof.Rows L2

/-! ### the judgements -/
structure PD (X : Cx) (W : WX) (e : Expr) (f : Ev → R DV) : Prop where
  ex : ∃ t : TE, PE X e t ∧ ∀ {B : Bas} {G H : Hp} {δ : Ev} {σ : L2.St} {Q : VK}, SOk X.K B G H δ σ → Rq X.K (DRep X.K) (fun c d H' => W c d σ H') G H (f δ) Q → t σ H Q
structure PDT (X : Cx) (W : WX) (e : Expr) (f : Ev → R Bool) : Prop where
  ex : ∃ t : TT, PT X e t ∧ ∀ {B : Bas} {G H : Hp} {δ : Ev} {σ : L2.St} {Q : Bool → Hp → Prop}, SOk X.K B G H δ σ → Rq X.K BRep (fun c d H' => W c d σ H') G H (f δ) Q → t σ H Q
structure PDW (X : Cx) (W : WX) (e : Expr) (f : Ev → R Bool) : Prop where
  ex : ∃ t : TT, PW X e t ∧ ∀ {B : Bas} {G H : Hp} {δ : Ev} {σ : L2.St} {Q : Bool → Hp → Prop}, SOk X.K B G H δ σ → Rq X.K BRep (fun c d H' => W c d σ H') G H (f δ) Q → t σ H Q
structure PDA (X : Cx) (W : WX) (es : List Expr) (f : Ev → R (List DV)) : Prop where
  ex : ∃ t : TA, PA X es t ∧ ∀ {B : Bas} {G H : Hp} {δ : Ev} {σ : L2.St} {Q : List V → Hp → Prop}, SOk X.K B G H δ σ → Rq X.K (DReps X.K) (fun c d H' => W c d σ H') G H (f δ) Q → t σ H Q

/-! ### readings -/
def xVar (i : Nat) : Ev → R DV := fun δ => match δ[i]? with
  | some (.pu d) => .ok d
  | _ => .bad
def xC (d : DV) : Ev → R DV := fun _ => .ok d
def xOp (op : DV → DV → R DV) (a b : Ev → R DV) : Ev → R DV := fun δ => (a δ).bind fun x => (b δ).bind fun y => op x y
def xUn (op : DV → R DV) (a : Ev → R DV) : Ev → R DV := fun δ => (a δ).bind op
def asB : DV → R Bool
  | .bl b => .ok b
  | _ => .bad
def xTest (a : Ev → R DV) : Ev → R Bool := fun δ => (a δ).bind asB
def xIf (c : Ev → R Bool) (a b : Ev → R DV) : Ev → R DV := fun δ => (c δ).bind fun z => if z = true then a δ else b δ
def xAnd (a b : Ev → R Bool) : Ev → R Bool := fun δ => (a δ).bind fun z => if z = true then b δ else .ok false
def xOr (a b : Ev → R Bool) : Ev → R Bool := fun δ => (a δ).bind fun z => if z = true then .ok true else b δ
def xNot (a : Ev → R Bool) : Ev → R Bool := fun δ => (a δ).bind fun z => .ok (!z)
def xAndV (a b : Ev → R DV) : Ev → R DV := fun δ => (a δ).bind fun x => (asB x).bind fun z => if z = true then b δ else .ok (.bl false)
def xOrV (a b : Ev → R DV) : Ev → R DV := fun δ => (a δ).bind fun x => (asB x).bind fun z => if z = true then .ok (.bl true) else b δ
def xNotV (a : Ev → R DV) : Ev → R DV := fun δ => (a δ).bind fun x => (asB x).bind fun z => .ok (.bl (!z))
def xNil : Ev → R (List DV) := fun _ => .ok []
def xCons (a : Ev → R DV) (r : Ev → R (List DV)) : Ev → R (List DV) := fun δ => (a δ).bind fun x => (r δ).bind fun xs => .ok (x :: xs)
def small (n : Nat) : Bool := Nat.ble n 16777216
theorem small_le {n : Nat} (h : small n = true) : n ≤ sizeLine := by rw [sizeLine_eq]; exact Nat.le_of_ble_eq_true h
def xTup (r : Ev → R (List DV)) : Ev → R DV := fun δ => (r δ).bind fun xs => if small xs.length = true then .ok (.tup xs) else .bad
def xLst (r : Ev → R (List DV)) : Ev → R DV := fun δ => (r δ).bind fun xs => if small xs.length = true then .ok (.lst xs) else .bad
/-- a chain a < b < c -/
def xChain (o o' : DV → DV → R DV) (a b c : Ev → R DV) : Ev → R DV := fun δ => (a δ).bind fun x => (b δ).bind fun y => (o x y).bind fun z => (asB z).bind fun k => if k = true then (c δ).bind fun w => o' y w else .ok (.bl false)

/-! ### operators by data -/
def OpD (X : Cx) (r : R2) (op : DV → DV → R DV) : Prop :=
  ∀ {G H : Hp} {x y : V} {dx dy : DV} {Q : VK} {W : Value → Option Addr → Hp → Prop}, Same G H → DRep X.K G x dx → DRep X.K G y dy → Rq X.K (DRep X.K) W G H (op dx dy) Q → r x y H Q
/-- only values, no object -/
theorem OpD.flat {X : Cx} {r : R2} {op : DV → DV → R DV} (noexc : ∀ dx dy c fs, op dx dy ≠ .exc c fs)
    (h : ∀ {G H : Hp} {x y : V} {dx dy d : DV} {Q : VK}, DRep X.K G x dx → DRep X.K G y dy → op dx dy = .ok d → (∀ v, DRep X.K G v d → Q v H) → r x y H Q) : OpD X r op := by
  intro G H x y dx dy Q W s rx ry q
  cases e : op dx dy with
  | ok d =>
    rw [e] at q
    exact h rx ry e fun v p => q v H G (Tr.refl s) p
  | exc c fs => exact absurd e (noexc _ _ _ _)
  | bad => rw [e] at q; exact q.elim

section
variable {X : Cx} {W : WX} {a b c : Expr} {es : List Expr} {fa fb fc : Ev → R DV} {fes : Ev → R (List DV)} {ga gb : Ev → R Bool} {pos : Pos}

theorem d_var (i : Nat) {x : Str} (hN : X.N[i]? = some x := by rfl) (hv : Vis X.env.scope x := by first | exact Or.inl rfl | exact Or.inr (Or.inl rfl) | exact Or.inr (Or.inr rfl)) (hd : (x == ("__debug__" : Str)) = false := by decide)
    (hcd : (x == ("__classdict__" : Str)) = false := by decide) : PD X W (.Name x pos) (xVar i) := by
  refine ⟨tVar i, pv i hN hv hd hcd, fun {B0 G H δ σ Q} S h => ?_⟩
  unfold xVar at h
  split at h
  · rename_i d e
    obtain ⟨v, hv', r⟩ := S.pu e
    exact ⟨v, hv', h.ok_self S.gh r⟩
  · exact h.elim
theorem d_c {v : V} {d : DV} (p : PE X a (tC v)) (r : ∀ G, DRep X.K G v d) : PD X W a (xC d) :=
  ⟨tC v, p, fun {B0 G H δ σ Q} S h => Rq.ok_self (rep := DRep X.K) S.gh h (r G)⟩
theorem d_int {i j} : PD X W (.Constant (.int i) j pos) (xC (.int i)) := d_c pe_int fun _ => .int i
theorem d_bl {b j} : PD X W (.Constant (.bool b) j pos) (xC (.bl b)) := d_c pe_bl fun _ => .bl b
theorem d_non {j} : PD X W (.Constant .none j pos) (xC .non) := d_c pe_non fun _ => .non
theorem d_str {x j} : PD X W (.Constant (.str x) j pos) (xC (.str x)) := d_c pe_str fun _ => .str x
theorem d_gint {x : Str} {i : Int} (hm : ∃ t, X.mg x = some (.int i t)) (hg : Gl X x := by rfl) (hd : (x == ("__debug__" : Str)) = false := by decide) : PD X W (.Name x pos) (xC (.int i)) := by
  obtain ⟨t, hm⟩ := hm
  exact d_c (pe_glob hg hm (v := .int i) ⟨t, rfl⟩ hd) fun _ => .int i
theorem d_gstr {x z : Str} (hm : ∃ t, X.mg x = some (.str z t)) (hg : Gl X x := by rfl) (hd : (x == ("__debug__" : Str)) = false := by decide) : PD X W (.Name x pos) (xC (.str z)) := by
  obtain ⟨t, hm⟩ := hm
  exact d_c (pe_glob hg hm (v := .str z) ⟨t, rfl⟩ hd) fun _ => .str z

theorem d_op {o : Operator} {r : R2} {op : DV → DV → R DV} (ho : OpR X (binaryOp o) r) (od : OpD X r op) (A : PD X W a fa) (B : PD X W b fb) : PD X W (.BinOp a o b pos) (xOp op fa fb) := by
  obtain ⟨ta, pa, ha⟩ := A.ex
  obtain ⟨tb, pb, hb⟩ := B.ex
  refine ⟨_, pe_op ho pa pb, fun {B0 G H δ σ Q} S h => ?_⟩
  refine ha S (Rq.bind (rep := DRep X.K) h fun x ex v H1 G1 t1 r1 h1 => ?_)
  refine hb (S.step t1) (Rq.bind (rep := DRep X.K) h1 fun y ey w H2 G2 t2 r2 h2 => ?_)
  exact od t2.gh (r1.mono t2.gg) r2 h2
theorem d_cmp {o : CmpOp} {r : R2} {op : DV → DV → R DV} (ho : OpR X (compareOp o) r) (od : OpD X r op) (A : PD X W a fa) (B : PD X W b fb) (hm : behindInMarks o b = false := by first | exact nomark _ | rfl) : PD X W (.Compare a [o] [b] pos) (xOp op fa fb) := by
  obtain ⟨ta, pa, ha⟩ := A.ex
  obtain ⟨tb, pb, hb⟩ := B.ex
  refine ⟨_, pe_cmpR ho pa pb hm, fun {B0 G H δ σ Q} S h => ?_⟩
  refine ha S (Rq.bind (rep := DRep X.K) h fun x ex v H1 G1 t1 r1 h1 => ?_)
  refine hb (S.step t1) (Rq.bind (rep := DRep X.K) h1 fun y ey w H2 G2 t2 r2 h2 => ?_)
  exact od t2.gh (r1.mono t2.gg) r2 h2
theorem asB_rep {K : PySem.W.Frag} {G : Hp} {v : V} {d : DV} {k : Bool} (r : DRep K G v d) (e : asB d = .ok k) : v = .bl k := by
  cases r with
  | bl b => cases e; rfl
  | _ => cases e
/-- a comparison as a test -/
theorem dt_cmp {o : CmpOp} {r : R2} {op : DV → DV → R DV} (ho : OpR X (compareOp o) r) (od : OpD X r op) (A : PD X W a fa) (B : PD X W b fb) (hm : behindInMarks o b = false := by first | exact nomark _ | rfl) : PDT X W (.Compare a [o] [b] pos) (xTest (xOp op fa fb)) := by
  obtain ⟨ta, pa, ha⟩ := A.ex
  obtain ⟨tb, pb, hb⟩ := B.ex
  refine ⟨_, pt_cmpR ho pa pb hm, fun {B0 G H δ σ Q} S h => ?_⟩
  have h' : Rq X.K BRep (fun c d H' => W c d σ H') G H ((fa δ).bind fun x => (fb δ).bind fun y => (op x y).bind asB) Q := by
    have e : xTest (xOp op fa fb) δ = ((fa δ).bind fun x => (fb δ).bind fun y => (op x y).bind asB) := by
      unfold xTest xOp
      cases fa δ with
      | ok x => cases fb δ <;> rfl
      | _ => rfl
    rw [← e]; exact h
  refine ha S (Rq.bind (rep := DRep X.K) h' fun x ex v H1 G1 t1 r1 h1 => ?_)
  refine hb (S.step t1) (Rq.bind (rep := DRep X.K) h1 fun y ey w H2 G2 t2 r2 h2 => ?_)
  refine od t2.gh (r1.mono t2.gg) r2 (Rq.bind (rep := DRep X.K) h2 fun z ez u H3 G3 t3 r3 h3 => ?_)
  cases q : asB z with
  | ok k =>
    rw [q] at h3
    exact ⟨k, asB_rep r3 q, Rq.ok_self (rep := BRep) t3.gh h3 rfl⟩
  | exc c fs => cases z <;> cases q
  | bad => rw [q] at h3; exact h3.elim
/-- an expression as a test -/
theorem dt_val (A : PD X W a fa) (he : ∀ whole, isTrue a X.env whole = (do let v ← whole; standAt a.pos; holding [v] (truthy v)) := by intro _; rfl) : PDT X W a (xTest fa) := by
  obtain ⟨ta, pa, ha⟩ := A.ex
  refine ⟨_, pt_val pa he, fun {B0 G H δ σ Q} S h => ?_⟩
  refine ha S (Rq.bind (rep := DRep X.K) h fun z ez u H3 G3 t3 r3 h3 => ?_)
  cases q : asB z with
  | ok k =>
    rw [q] at h3
    exact ⟨k, asB_rep r3 q, Rq.ok_self (rep := BRep) t3.gh h3 rfl⟩
  | exc c fs => cases z <;> cases q
  | bad => rw [q] at h3; exact h3.elim
theorem dt_not (A : PDT X W a ga) : PDT X W (.UnaryOp .Not a pos) (xNot ga) := by
  obtain ⟨ta, pa, ha⟩ := A.ex
  refine ⟨_, pt_not pa, fun {B0 G H δ σ Q} S h => ?_⟩
  exact ha S (Rq.bind (rep := BRep) h fun z ez u H3 G3 t3 r3 h3 => by cases r3; exact Rq.ok_self (rep := BRep) t3.gh h3 rfl)
theorem dw_pt (A : PDW X W a ga) : PDT X W a ga := by
  obtain ⟨ta, pa, ha⟩ := A.ex
  exact ⟨ta, pa.pt, ha⟩
variable {rest : List Expr}
theorem dw_and1 (A : PDT X W a ga) : PDW X W (.BoolOp .And [a] pos) ga := by
  obtain ⟨ta, pa, ha⟩ := A.ex
  exact ⟨ta, pw_and1 pa, ha⟩
theorem dw_or1 (A : PDT X W a ga) : PDW X W (.BoolOp .Or [a] pos) ga := by
  obtain ⟨ta, pa, ha⟩ := A.ex
  exact ⟨ta, pw_or1 pa, ha⟩
theorem dw_and (A : PDT X W a ga) (B : PDW X W (.BoolOp .And (b :: rest) pos) gb) : PDW X W (.BoolOp .And (a :: b :: rest) pos) (xAnd ga gb) := by
  obtain ⟨ta, pa, ha⟩ := A.ex
  obtain ⟨tb, pb, hb⟩ := B.ex
  refine ⟨_, pw_and pa pb, fun {B0 G H δ σ Q} S h => ?_⟩
  refine ha S (Rq.bind (rep := BRep) h fun z ez u H1 G1 t1 r1 h1 => ?_)
  cases r1
  cases z with
  | true => exact hb (S.step t1) h1
  | false => exact Rq.ok_self (rep := BRep) t1.gh h1 rfl
theorem dw_or (A : PDT X W a ga) (B : PDW X W (.BoolOp .Or (b :: rest) pos) gb) : PDW X W (.BoolOp .Or (a :: b :: rest) pos) (xOr ga gb) := by
  obtain ⟨ta, pa, ha⟩ := A.ex
  obtain ⟨tb, pb, hb⟩ := B.ex
  refine ⟨_, pw_or pa pb, fun {B0 G H δ σ Q} S h => ?_⟩
  refine ha S (Rq.bind (rep := BRep) h fun z ez u H1 G1 t1 r1 h1 => ?_)
  cases r1
  cases z with
  | true => exact Rq.ok_self (rep := BRep) t1.gh h1 rfl
  | false => exact hb (S.step t1) h1
/-- and, or, not as values -/
theorem d_one {op : BoolOp} (A : PD X W a fa) : PD X W (.BoolOp op [a] pos) fa := by
  obtain ⟨ta, pa, ha⟩ := A.ex
  exact ⟨ta, pe_one pa, ha⟩
theorem asB_no {d : DV} {c : Str} {fs : List (Str × DV)} : asB d ≠ .exc c fs := by cases d <;> exact fun e => nomatch e
theorem d_and (A : PD X W a fa) (B : PD X W (.BoolOp .And (b :: rest) pos) fb) : PD X W (.BoolOp .And (a :: b :: rest) pos) (xAndV fa fb) := by
  obtain ⟨ta, pa, ha⟩ := A.ex
  obtain ⟨tb, pb, hb⟩ := B.ex
  refine ⟨_, pe_and pa pb, fun {B0 G H δ σ Q} S h => ?_⟩
  refine ha S (Rq.bind (rep := DRep X.K) h fun z ez u H1 G1 t1 r1 h1 => ?_)
  cases q : asB z with
  | ok k =>
    rw [q] at h1
    refine ⟨k, asB_rep r1 q, ?_⟩
    cases k with
    | true => exact hb (S.step t1) h1
    | false => exact Rq.ok_self (rep := DRep X.K) t1.gh h1 (.bl false)
  | exc c fs => exact absurd q asB_no
  | bad => rw [q] at h1; exact h1.elim
theorem d_or (A : PD X W a fa) (B : PD X W (.BoolOp .Or (b :: rest) pos) fb) : PD X W (.BoolOp .Or (a :: b :: rest) pos) (xOrV fa fb) := by
  obtain ⟨ta, pa, ha⟩ := A.ex
  obtain ⟨tb, pb, hb⟩ := B.ex
  refine ⟨_, pe_or pa pb, fun {B0 G H δ σ Q} S h => ?_⟩
  refine ha S (Rq.bind (rep := DRep X.K) h fun z ez u H1 G1 t1 r1 h1 => ?_)
  cases q : asB z with
  | ok k =>
    rw [q] at h1
    refine ⟨k, asB_rep r1 q, ?_⟩
    cases k with
    | true => exact Rq.ok_self (rep := DRep X.K) t1.gh h1 (.bl true)
    | false => exact hb (S.step t1) h1
  | exc c fs => exact absurd q asB_no
  | bad => rw [q] at h1; exact h1.elim
theorem d_not (A : PD X W a fa) : PD X W (.UnaryOp .Not a pos) (xNotV fa) := by
  obtain ⟨ta, pa, ha⟩ := A.ex
  refine ⟨_, pe_not pa, fun {B0 G H δ σ Q} S h => ?_⟩
  refine ha S (Rq.bind (rep := DRep X.K) h fun z ez u H1 G1 t1 r1 h1 => ?_)
  cases q : asB z with
  | ok k =>
    rw [q] at h1
    exact ⟨k, asB_rep r1 q, Rq.ok_self (rep := DRep X.K) t1.gh h1 (.bl (!k))⟩
  | exc c fs => exact absurd q asB_no
  | bad => rw [q] at h1; exact h1.elim
theorem d_if (C : PDT X W c ga) (A : PD X W a fa) (B : PD X W b fb) : PD X W (.IfExp c a b pos) (xIf ga fa fb) := by
  obtain ⟨tc, pc, hc⟩ := C.ex
  obtain ⟨ta, pa, ha⟩ := A.ex
  obtain ⟨tb, pb, hb⟩ := B.ex
  refine ⟨_, pe_ifExp pc pa pb, fun {B0 G H δ σ Q} S h => ?_⟩
  refine hc S (Rq.bind (rep := BRep) h fun z ez u H1 G1 t1 r1 h1 => ?_)
  cases r1
  cases z with
  | true => exact ha (S.step t1) h1
  | false => exact hb (S.step t1) h1
/-- arguments -/
theorem da_nil : PDA X W [] xNil := ⟨tNil, pa_nil, fun {B0 G H δ σ Q} S h => Rq.ok_self (rep := DReps X.K) S.gh h .nil⟩
theorem da_cons (A : PD X W a fa) (B : PDA X W es fes) (hs : starEach (a :: es) X.env = (false, eval a X.env) :: starEach es X.env := by rfl) : PDA X W (a :: es) (xCons fa fes) := by
  obtain ⟨ta, pa, ha⟩ := A.ex
  obtain ⟨tb, pb, hb⟩ := B.ex
  refine ⟨_, pa_cons pa pb hs, fun {B0 G H δ σ Q} S h => ?_⟩
  refine ha S (Rq.bind (rep := DRep X.K) h fun x ex v H1 G1 t1 r1 h1 => ?_)
  refine hb (S.step t1) (Rq.bind (rep := DReps X.K) h1 fun y ey w H2 G2 t2 r2 h2 => ?_)
  exact Rq.ok_self (rep := DReps X.K) t2.gh h2 (.cons (r1.mono t2.gg) r2)
theorem d_tup {k} (A : PDA X W es fes) : PD X W (.Tuple es k pos) (xTup fes) := by
  obtain ⟨ta, pa, ha⟩ := A.ex
  refine ⟨_, pe_tup pa, fun {B0 G H δ σ Q} S h => ?_⟩
  refine ha S (Rq.bind (rep := DReps X.K) h fun xs ex vs H1 G1 t1 r1 h1 => ?_)
  cases q : small xs.length with
  | true =>
    rw [q, if_pos rfl] at h1
    exact ⟨by rw [r1.length]; exact small_le q, fun p hp => Rq.ok_new (rep := DRep X.K) t1.gh hp h1 (.tup upd_same (r1.mono (Same.upd (t1.gh.none hp))))⟩
  | false => rw [q, if_neg (by decide)] at h1; exact h1.elim
theorem d_lst (A : PDA X W es fes) : PD X W (.List es pos) (xLst fes) := by
  obtain ⟨ta, pa, ha⟩ := A.ex
  refine ⟨_, pe_lst pa, fun {B0 G H δ σ Q} S h => ?_⟩
  refine ha S (Rq.bind (rep := DReps X.K) h fun xs ex vs H1 G1 t1 r1 h1 => ?_)
  cases q : small xs.length with
  | true =>
    rw [q, if_pos rfl] at h1
    exact ⟨by rw [r1.length]; exact small_le q, fun p hp => Rq.ok_new (rep := DRep X.K) t1.gh hp h1 (.lst upd_same (r1.mono (Same.upd (t1.gh.none hp))))⟩
  | false => rw [q, if_neg (by decide)] at h1; exact h1.elim
theorem d_un {o : UnaryOp} {r : V → Hp → VK → Prop} {op : DV → R DV} (ho : UnR X (unaryOp o) r)
    (od : ∀ {G H : Hp} {x : V} {dx : DV} {Q : VK} {W : Value → Option Addr → Hp → Prop}, Same G H → DRep X.K G x dx → Rq X.K (DRep X.K) W G H (op dx) Q → r x H Q) (A : PD X W a fa) : PD X W (.UnaryOp o a pos) (xUn op fa) := by
  obtain ⟨ta, pa, ha⟩ := A.ex
  refine ⟨_, pe_un ho pa, fun {B0 G H δ σ Q} S h => ?_⟩
  exact ha S (Rq.bind (rep := DRep X.K) h fun x ex v H1 G1 t1 r1 h1 => od t1.gh r1 h1)
theorem d_chain {o o' : CmpOp} {r r' : R2} {op op' : DV → DV → R DV} (ho : OpR X (compareOp o) r) (ho' : OpR X (compareOp o') r') (od : OpD X r op) (od' : OpD X r' op') (A : PD X W a fa) (B : PD X W b fb) (C : PD X W c fc) (hm : lastMarks [o, o'] [b, c] = false := by with_unfolding_all rfl) :
    PD X W (.Compare a [o, o'] [b, c] pos) (xChain op op' fa fb fc) := by
  obtain ⟨ta, pa, ha⟩ := A.ex
  obtain ⟨tb, pb, hb⟩ := B.ex
  obtain ⟨tc, pc, hc⟩ := C.ex
  refine ⟨_, pe_chain ho ho' pa pb pc hm, fun {B0 G H δ σ Q} S h => ?_⟩
  refine ha S (Rq.bind (rep := DRep X.K) h fun x ex v H1 G1 t1 r1 h1 => ?_)
  refine hb (S.step t1) (Rq.bind (rep := DRep X.K) h1 fun y ey w H2 G2 t2 r2 h2 => ?_)
  refine od t2.gh (r1.mono t2.gg) r2 (Rq.bind (rep := DRep X.K) h2 fun z ez u H3 G3 t3 r3 h3 => ?_)
  cases q : asB z with
  | ok k =>
    rw [q] at h3
    refine ⟨k, asB_rep r3 q, ?_⟩
    cases k with
    | true =>
      rw [if_pos rfl]
      exact hc ((S.step t1).step (t2.trans t3)) (Rq.bind (rep := DRep X.K) h3 fun y' ey' w' H4 G4 t4 r4 h4 => od' t4.gh (r2.mono (t3.gg.trans t4.gg)) r4 h4)
    | false =>
      rw [if_neg (by decide)]
      exact Rq.ok_self (rep := DRep X.K) t3.gh h3 (.bl false)
  | exc c fs => exact absurd q asB_no
  | bad => rw [q] at h3; exact h3.elim
end
end LD

set_option maxHeartbeats 2000000
/-! Layer D, part C: operators, subscripts, built-ins. -/
namespace LD
open PySem PySem.Spec PyProof.Rows L2

/-! ### numbers -/
def iBin (g : Int → Int → R DV) : DV → DV → R DV
  | .int i, .int j => g i j
  | _, _ => .bad
def inM (i : Int) : Bool := decide (-(2 ^ 64) < i) && decide (i < 2 ^ 64)
theorem inM_ok {i : Int} (h : inM i = true) : -(2 ^ 64) < i ∧ i < 2 ^ 64 := by
  obtain ⟨a, b⟩ := Bool.and_eq_true_iff.mp h
  exact ⟨of_decide_eq_true a, of_decide_eq_true b⟩
/-- + of ints, texts, lists, tuples -/
def oAdd : DV → DV → R DV
  | .int i, .int j => .ok (.int (i + j))
  | .str x, .str y => if small (x.length + y.length) = true then .ok (.str (x ++ y)) else .bad
  | .lst xs, .lst ys => if small (xs.length + ys.length) = true then .ok (.lst (xs ++ ys)) else .bad
  | .tup xs, .tup ys => if small (xs.length + ys.length) = true then .ok (.tup (xs ++ ys)) else .bad
  | _, _ => .bad
def oSub : DV → DV → R DV := iBin fun i j => .ok (.int (i - j))
def oMul : DV → DV → R DV := iBin fun i j => if inM i || inM j then .ok (.int (i * j)) else .bad
def oDiv : DV → DV → R DV := iBin fun i j => if decide (0 < j) && decide (j < 1073741824) then .ok (.int (i / j)) else .bad
def oMod : DV → DV → R DV := iBin fun i j => if decide (0 < j) then .ok (.int (i % j)) else .bad
def oPow : DV → DV → R DV := iBin fun i j => if decide (0 ≤ j) && (decide (j ≤ 1000000) && decide (i.natAbs < 2 ^ 64)) then .ok (.int (i ^ j.toNat)) else .bad
def oLt : DV → DV → R DV := iBin fun i j => .ok (.bl (decide (i < j)))
def oLe : DV → DV → R DV := iBin fun i j => .ok (.bl (decide (i ≤ j)))
def oGt : DV → DV → R DV := iBin fun i j => .ok (.bl (decide (j < i)))
def oGe : DV → DV → R DV := iBin fun i j => .ok (.bl (decide (j ≤ i)))
def oNeg : DV → R DV
  | .int i => .ok (.int (-i))
  | _ => .bad
section
variable {X : Cx}
theorem iBin_ok {K : PySem.W.Frag} {G H : Hp} {x y : V} {dx dy : DV} {g : Int → Int → R DV} {W : Value → Option Addr → Hp → Prop} {Q : VK} (rx : DRep K G x dx) (ry : DRep K G y dy) (h : Rq K (DRep K) W G H (iBin g dx dy) Q) :
    ∃ i j, x = .int i ∧ y = .int j ∧ Rq K (DRep K) W G H (g i j) Q := by
  cases rx with
  | int i =>
    cases ry with
    | int j => exact ⟨i, j, rfl, rfl, h⟩
    | _ => exact h.elim
  | _ => exact h.elim
theorem rq_if {K : PySem.W.Frag} {G H : Hp} {W : Value → Option Addr → Hp → Prop} {Q : VK} {c : Bool} {d : DV} (h : Rq K (DRep K) W G H (if c = true then .ok d else .bad) Q) : c = true ∧ Rq K (DRep K) W G H (.ok d) Q := by
  cases c with
  | true => exact ⟨rfl, h⟩
  | false => exact h.elim
theorem od_sub : OpD X (rI0 fun i j => .int (i - j)) oSub := fun {G H x y dx dy Q W} s rx ry h => by
  obtain ⟨i, j, rfl, rfl, q⟩ := iBin_ok rx ry h
  exact ⟨i, j, rfl, rfl, q.ok_self s (.int _)⟩
theorem od_mul : OpD X (rI CMul fun i j => .int (i * j)) oMul := fun {G H x y dx dy Q W} s rx ry h => by
  obtain ⟨i, j, rfl, rfl, q⟩ := iBin_ok rx ry h
  obtain ⟨c, q⟩ := rq_if q
  exact ⟨i, j, rfl, rfl, (Bool.or_eq_true_iff.mp c).elim (fun z => .inl (inM_ok z)) (fun z => .inr (inM_ok z)), q.ok_self s (.int _)⟩
theorem od_div : OpD X (rI CDiv fun i j => .int (i / j)) oDiv := fun {G H x y dx dy Q W} s rx ry h => by
  obtain ⟨i, j, rfl, rfl, q⟩ := iBin_ok rx ry h
  obtain ⟨c, q⟩ := rq_if q
  obtain ⟨c1, c2⟩ := Bool.and_eq_true_iff.mp c
  exact ⟨i, j, rfl, rfl, ⟨of_decide_eq_true c1, of_decide_eq_true c2⟩, q.ok_self s (.int _)⟩
theorem od_mod : OpD X (rI (fun _ j => 0 < j) fun i j => .int (i % j)) oMod := fun {G H x y dx dy Q W} s rx ry h => by
  obtain ⟨i, j, rfl, rfl, q⟩ := iBin_ok rx ry h
  obtain ⟨c, q⟩ := rq_if q
  exact ⟨i, j, rfl, rfl, of_decide_eq_true c, q.ok_self s (.int _)⟩
theorem od_pow : OpD X (rI CPow fun i j => .int (i ^ j.toNat)) oPow := fun {G H x y dx dy Q W} s rx ry h => by
  obtain ⟨i, j, rfl, rfl, q⟩ := iBin_ok rx ry h
  obtain ⟨c, q⟩ := rq_if q
  obtain ⟨c1, c⟩ := Bool.and_eq_true_iff.mp c
  obtain ⟨c2, c3⟩ := Bool.and_eq_true_iff.mp c
  exact ⟨i, j, rfl, rfl, ⟨of_decide_eq_true c1, of_decide_eq_true c2, of_decide_eq_true c3⟩, q.ok_self s (.int _)⟩
theorem od_lt : OpD X (rI0 fun i j => .bl (decide (i < j))) oLt := fun {G H x y dx dy Q W} s rx ry h => by
  obtain ⟨i, j, rfl, rfl, q⟩ := iBin_ok rx ry h
  exact ⟨i, j, rfl, rfl, q.ok_self s (.bl _)⟩
theorem od_le : OpD X (rI0 fun i j => .bl (decide (i ≤ j))) oLe := fun {G H x y dx dy Q W} s rx ry h => by
  obtain ⟨i, j, rfl, rfl, q⟩ := iBin_ok rx ry h
  exact ⟨i, j, rfl, rfl, q.ok_self s (.bl _)⟩
theorem od_gt : OpD X (rI0 fun i j => .bl (decide (j < i))) oGt := fun {G H x y dx dy Q W} s rx ry h => by
  obtain ⟨i, j, rfl, rfl, q⟩ := iBin_ok rx ry h
  exact ⟨i, j, rfl, rfl, q.ok_self s (.bl _)⟩
theorem od_ge : OpD X (rI0 fun i j => .bl (decide (j ≤ i))) oGe := fun {G H x y dx dy Q W} s rx ry h => by
  obtain ⟨i, j, rfl, rfl, q⟩ := iBin_ok rx ry h
  exact ⟨i, j, rfl, rfl, q.ok_self s (.bl _)⟩
theorem od_neg {G H : Hp} {x : V} {dx : DV} {Q : VK} {W : Value → Option Addr → Hp → Prop} (s : Same G H) (r : DRep X.K G x dx) (h : Rq X.K (DRep X.K) W G H (oNeg dx) Q) : rU (fun i => .int (-i)) x H Q := by
  cases r with
  | int i => exact ⟨i, rfl, h.ok_self s (.int _)⟩
  | _ => exact h.elim

/-! ### + -/
theorem od_add : OpD X (fun x y H Q => rI0 (fun i j => .int (i + j)) x y H Q ∨ (∃ i j, x = .str i ∧ y = .str j ∧ i.length + j.length ≤ sizeLine ∧ Q (.str (i ++ j)) H) ∨ rCat x y H Q ∨ rCatA X.K x y H Q) oAdd := fun {G H x y dx dy Q W} s rx ry h => by
  cases rx with
  | int i =>
    cases ry with
    | int j => exact .inl ⟨i, j, rfl, rfl, h.ok_self s (.int _)⟩
    | _ => exact h.elim
  | str i =>
    cases ry with
    | str j =>
      obtain ⟨c, q⟩ := rq_if h
      exact .inr (.inl ⟨i, j, rfl, rfl, small_le c, q.ok_self s (.str _)⟩)
    | _ => exact h.elim
  | lst e r =>
    cases ry with
    | lst e' r' =>
      obtain ⟨c, q⟩ := rq_if h
      exact .inr (.inr (.inl ⟨_, _, _, _, rfl, rfl, s _ _ e, s _ _ e', by rw [r.length, r'.length]; exact small_le c, fun p hp => q.ok_new s hp (.lst upd_same ((r.append r').mono (Same.upd (s.none hp))))⟩))
    | _ => exact h.elim
  | tup e r =>
    cases ry with
    | tup e' r' =>
      obtain ⟨c, q⟩ := rq_if h
      refine .inr (.inr (.inr ⟨_, _, _, _, rfl, rfl, SqT.of (s _ _ e), SqT.of (s _ _ e'), by rw [r.length, r'.length]; exact small_le c, fun z => ?_, fun _ z => ?_, fun _ _ p hp => q.ok_new s hp (.tup upd_same ((r.append r').mono (Same.upd (s.none hp))))⟩))
      · subst z; cases r; exact q.ok_self s (.tup e' r')
      · subst z; cases r'; rw [List.append_nil] at q; exact q.ok_self s (.tup e r)
    | _ => exact h.elim
  | _ => exact h.elim
theorem op_addA : OpR X (binaryOp .Add) (fun x y H Q => rI0 (fun i j => .int (i + j)) x y H Q ∨ (∃ i j, x = .str i ∧ y = .str j ∧ i.length + j.length ≤ sizeLine ∧ Q (.str (i ++ j)) H) ∨ rCat x y H Q ∨ rCatA X.K x y H Q) :=
  OpR.or op_add (OpR.or op_add_str (OpR.or op_cat op_catA))

/-! ### == of plain data -/
mutual
def toPy : DV → Option PyData
  | .non => some .none
  | .bl b => some (.bool b)
  | .int i => some (.int i)
  | .str x => some (.str x)
  | .tup xs => (toPys xs).map .tuple
  | .lst xs => (toPys xs).map .list
  | .ro xs => (toPys xs).map .list
  | .dic _ => none
  | .dit _ => none
  | .obj _ _ => none
def toPys : List DV → Option (List PyData)
  | [] => some []
  | x :: xs => match toPy x, toPys xs with
    | some p, some ps => some (p :: ps)
    | _, _ => none
end
mutual
theorem toPy_dp {K : PySem.W.Frag} {G H : Hp} (s : Same G H) : ∀ {v : V} {d : DV} {p : PyData}, DRep K G v d → toPy d = some p → Dp K H v p
  | _, _, _, .non, e => by cases e; exact .non
  | _, _, _, .bl b, e => by cases e; exact .bl b
  | _, _, _, .int i, e => by cases e; exact .int i
  | _, _, _, .str x, e => by cases e; exact .str x
  | _, _, p, .tup (ds := ds) h r, e => by
    cases q : toPys ds with
    | none => simp only [toPy, q] at e; cases e
    | some ps => simp only [toPy, q] at e; cases e; exact .tup (SqT.of (s _ _ h)) (toPys_dp s r q)
  | _, _, p, .lst (ds := ds) h r, e => by
    cases q : toPys ds with
    | none => simp only [toPy, q] at e; cases e
    | some ps => simp only [toPy, q] at e; cases e; exact .lst (SqL.of (s _ _ h)) (toPys_dp s r q)
  | _, _, p, .ro (ds := ds) h r, e => by
    cases q : toPys ds with
    | none => simp only [toPy, q] at e; cases e
    | some ps => simp only [toPy, q] at e; cases e; exact .lst (Same.seq s h) (toPys_dp s r q)
  | _, _, _, .dic _ _, e => by simp only [toPy] at e; cases e
  | _, _, _, .dit _ _, e => by simp only [toPy] at e; cases e
  | _, _, _, .obj _ _, e => by simp only [toPy] at e; cases e
theorem toPys_dp {K : PySem.W.Frag} {G H : Hp} (s : Same G H) : ∀ {v : List V} {d : List DV} {p : List PyData}, DReps K G v d → toPys d = some p → DpAll K H v p
  | _, _, _, .nil, e => by cases e; exact .nil
  | _, _, p, .cons (d := d) (ds := ds) a b, e => by
    cases q1 : toPy d with
    | none => simp only [toPys, q1] at e; cases e
    | some p1 =>
      cases q2 : toPys ds with
      | none => simp only [toPys, q1, q2] at e; cases e
      | some p2 => simp only [toPys, q1, q2] at e; cases e; exact .cons (toPy_dp s a q1) (toPys_dp s b q2)
end
def oEqW (neg : Bool) (x y : DV) : R DV := match toPy x, toPy y with
  | some p, some q => if SeqAt.shaped p && SeqAt.shaped q then .ok (.bl (if neg then !PyData.eqv p q else PyData.eqv p q)) else .bad
  | _, _ => .bad
def oEq : DV → DV → R DV := oEqW false
def oNe : DV → DV → R DV := oEqW true
theorem od_eqW {neg : Bool} {G H : Hp} {x y : V} {dx dy : DV} {Q : VK} {W : Value → Option Addr → Hp → Prop} (s : Same G H) (rx : DRep X.K G x dx) (ry : DRep X.K G y dy) (h : Rq X.K (DRep X.K) W G H (oEqW neg dx dy) Q) :
    ∃ d e, Dp X.K H x d ∧ Dp X.K H y e ∧ SeqAt.shaped d = true ∧ SeqAt.shaped e = true ∧ Q (.bl (if neg then !PyData.eqv d e else PyData.eqv d e)) H := by
  unfold oEqW at h
  cases q1 : toPy dx with
  | none => rw [q1] at h; exact h.elim
  | some p =>
    cases q2 : toPy dy with
    | none => rw [q1, q2] at h; exact h.elim
    | some q =>
      rw [q1, q2] at h
      obtain ⟨c, z⟩ := rq_if h
      obtain ⟨c1, c2⟩ := Bool.and_eq_true_iff.mp c
      exact ⟨p, q, toPy_dp s rx q1, toPy_dp s ry q2, c1, c2, z.ok_self s (.bl _)⟩
theorem od_eq : OpD X (rEqD X.K) oEq := fun {G H x y dx dy Q W} s rx ry h => od_eqW s rx ry h
theorem od_ne : OpD X (rNeD X.K) oNe := fun {G H x y dx dy Q W} s rx ry h => od_eqW s rx ry h
/-- is None -/
def oIsN : DV → DV → R DV
  | x, .non => .ok (.bl (match x with | .non => true | _ => false))
  | _, _ => .bad
def oNotN : DV → DV → R DV
  | x, .non => .ok (.bl (match x with | .non => false | _ => true))
  | _, _ => .bad
theorem isN_rep {K : PySem.W.Frag} {G : Hp} {x : V} {d : DV} (r : DRep K G x d) : decide (x = .non) = (match d with | .non => true | _ => false) := by
  cases r <;> rfl
theorem od_isN : OpD X (fun x y H Q => y = .non ∧ Q (.bl (decide (x = .non))) H) oIsN := fun {G H x y dx dy Q W} s rx ry h => by
  cases ry with
  | non =>
    refine ⟨rfl, ?_⟩
    rw [isN_rep rx]
    cases dx <;> exact h.ok_self s (.bl _)
  | _ => cases dx <;> exact h.elim
theorem od_notN : OpD X (fun x y H Q => y = .non ∧ Q (.bl (!decide (x = .non))) H) oNotN := fun {G H x y dx dy Q W} s rx ry h => by
  cases ry with
  | non =>
    refine ⟨rfl, ?_⟩
    rw [isN_rep rx]
    cases dx <;> exact h.ok_self s (.bl _)
  | _ => cases dx <;> exact h.elim
/-- one sign in a text -/
def oInS : DV → DV → R DV
  | .str c, .str z => match c.cps.toList with
    | [k] => .ok (.bl (decide (k ∈ z.cps.toList)))
    | _ => .bad
  | _, _ => .bad
theorem str_one {c : Str} {k : Nat} (h : c.cps.toList = [k]) : c = ⟨#[k]⟩ := by
  obtain ⟨⟨l⟩⟩ := c
  simp only at h
  rw [h]
theorem od_inS : OpD X (fun x y H Q => ∃ (c : Nat) (z : Str), x = .str ⟨#[c]⟩ ∧ y = .str z ∧ Q (.bl (decide (c ∈ z.cps.toList))) H) oInS := fun {G H x y dx dy Q W} s rx ry h => by
  cases rx with
  | str c =>
    cases ry with
    | str z =>
      unfold oInS at h
      dsimp only at h
      split at h
      · rename_i k e
        exact ⟨k, z, by rw [str_one e], rfl, h.ok_self s (.bl _)⟩
      · exact h.elim
    | _ => exact h.elim
  | _ => exact h.elim

/-! ### subscripts -/
def oIx : DV → DV → R DV
  | .lst xs, .int i => R.ofO (atI xs i)
  | .ro xs, .int i => R.ofO (atI xs i)
  | .tup xs, .int i => R.ofO (atI xs i)
  | .str z, .int i => if small z.length then R.ofO ((atI z.cps.toList i).map fun c => .str ⟨#[c]⟩) else .bad
  | _, _ => .bad
theorem atI_rep {K : PySem.W.Frag} {G : Hp} {vs : List V} {ds : List DV} {i : Int} {d : DV} (r : DReps K G vs ds) (h : atI ds i = some d) : ∃ v, atI vs i = some v ∧ DRep K G v d := by
  unfold atI at h ⊢
  rw [r.length]
  cases q : ixN ds.length i with
  | none => rw [q] at h; cases h
  | some j => rw [q] at h; exact r.get h
theorem od_ix : OpD X (rIx X.K) oIx := fun {G H x y dx dy Q W} s rx ry h => by
  have key : ∀ {vs : List V} {ds : List DV} {i : Int}, DReps X.K G vs ds → Rq X.K (DRep X.K) W G H (R.ofO (atI ds i)) Q → ∃ v, atI vs i = some v ∧ Q v H := fun {vs ds i} r h => by
    cases e : atI ds i with
    | none => rw [e] at h; exact h.elim
    | some d =>
      rw [e] at h
      obtain ⟨v, hv, p⟩ := atI_rep r e
      exact ⟨v, hv, Rq.ok_self (rep := DRep X.K) s h p⟩
  cases ry with
  | int i =>
    cases rx with
    | lst e r =>
      obtain ⟨v, hv, q⟩ := key r h
      exact .inl ⟨_, _, i, v, rfl, rfl, SqL.of (s _ _ e), hv, q⟩
    | ro e r =>
      obtain ⟨v, hv, q⟩ := key r h
      exact .inl ⟨_, _, i, v, rfl, rfl, Same.seq s e, hv, q⟩
    | tup e r =>
      obtain ⟨v, hv, q⟩ := key r h
      exact .inr (.inl ⟨_, _, i, v, rfl, rfl, SqT.of (s _ _ e), hv, q⟩)
    | str z =>
      unfold oIx at h
      dsimp only at h
      cases c : small z.length with
      | false => rw [c] at h; exact h.elim
      | true =>
        rw [c, if_pos rfl] at h
        cases e : atI z.cps.toList i with
        | none => rw [e] at h; exact h.elim
        | some k => rw [e] at h; exact .inr (.inr ⟨z, i, k, rfl, rfl, small_le c, e, Rq.ok_self (rep := DRep X.K) s h (.str _)⟩)
    | _ => exact h.elim
  | _ => cases rx <;> exact h.elim
end
section
variable {X : Cx} {W : WX} {a b : Expr} {es : List Expr} {fa fb : Ev → R DV} {fes : Ev → R (List DV)} {pos : Pos}
theorem d_ixW {r : R2} {op : DV → DV → R DV} (hr : IxR X r) (od : OpD X r op) (A : PD X W a fa) (B : PD X W b fb) (hs : PlainIx b := by exact fun _ _ => rfl) : PD X W (.Subscript a b pos) (xOp op fa fb) := by
  obtain ⟨ta, pa, ha⟩ := A.ex
  obtain ⟨tb, pb, hb⟩ := B.ex
  refine ⟨_, pe_ix hr pa pb hs, fun {B0 G H δ σ Q} S h => ?_⟩
  refine ha S (Rq.bind (rep := DRep X.K) h fun x ex v H1 G1 t1 r1 h1 => ?_)
  refine hb (S.step t1) (Rq.bind (rep := DRep X.K) h1 fun y ey w H2 G2 t2 r2 h2 => ?_)
  exact od t2.gh (r1.mono t2.gg) r2 h2
theorem d_ix (A : PD X W a fa) (B : PD X W b fb) (hs : PlainIx b := by exact fun _ _ => rfl) : PD X W (.Subscript a b pos) (xOp oIx fa fb) := d_ixW ix_seq od_ix A B hs

/-! ### slices -/
structure PDO (X : Cx) (W : WX) (e : Option Expr) (f : Ev → R (Option Int)) : Prop where
  ex : ∃ t : TO, PO X e t ∧ ∀ {B : Bas} {G H : Hp} {δ : Ev} {σ : L2.St} {Q : Option Int → Hp → Prop}, SOk X.K B G H δ σ → Rq X.K (fun _ b a => b = a) (fun c d H' => W c d σ H') G H (f δ) Q → t σ H Q
def xNo : Ev → R (Option Int) := fun _ => .ok none
def asI : DV → R (Option Int)
  | .int i => .ok (some i)
  | _ => .bad
def xPart (fa : Ev → R DV) : Ev → R (Option Int) := fun δ => (fa δ).bind asI
theorem do_none : PDO X W none xNo := ⟨_, po_none, fun {B0 G H δ σ Q} S h => h none H G (Tr.refl S.gh) rfl⟩
theorem do_some (A : PD X W a fa) : PDO X W (some a) (xPart fa) := by
  obtain ⟨ta, pa, ha⟩ := A.ex
  refine ⟨_, po_some pa, fun {B0 G H δ σ Q} S h => ?_⟩
  refine ha S (Rq.bind (rep := DRep X.K) h fun x ex v H1 G1 t1 r1 h1 => ?_)
  cases r1 with
  | int i => exact ⟨i, rfl, h1 (some i) H1 G1 (Tr.refl t1.gh) rfl⟩
  | _ => exact h1.elim
def cutD {α : Type} (xs : List α) (lo hi : Option Int) : List α := (xs.drop (HT.sIx xs.length 0 lo)).take (HT.sIx xs.length xs.length hi - HT.sIx xs.length 0 lo)
def oSl (d : DV) (lo hi : Option Int) : R DV := match d with
  | .lst xs => .ok (.lst (cutD xs lo hi))
  | .ro xs => .ok (.lst (cutD xs lo hi))
  | .tup xs => .ok (.tup (cutD xs lo hi))
  | .str z => if small z.length then .ok (.str (cutS z lo hi)) else .bad
  | _ => .bad
theorem cut_rep {K : PySem.W.Frag} {G : Hp} {vs : List V} {ds : List DV} {lo hi : Option Int} (r : DReps K G vs ds) : DReps K G (cutV vs lo hi) (cutD ds lo hi) := by
  unfold cutV cutD
  rw [r.length]
  exact (r.drop _).take _
theorem sIx_le (n d : Nat) (h : d ≤ n) (o : Option Int) : HT.sIx n d o ≤ n := by
  unfold HT.sIx
  cases o with
  | none => exact h
  | some i =>
    dsimp only
    repeat (first | split | omega)
theorem cut_whole {α : Type} {xs : List α} {lo hi : Option Int} (h : HT.sIx xs.length 0 lo = 0 ∧ HT.sIx xs.length xs.length hi = xs.length) : cutD xs lo hi = xs := by
  unfold cutD
  rw [h.1, h.2]
  simp
def xSl (fa : Ev → R DV) (fl fh : Ev → R (Option Int)) : Ev → R DV := fun δ => (fa δ).bind fun x => (fl δ).bind fun l => (fh δ).bind fun u => oSl x l u
theorem d_slice {lo hi : Option Expr} {fl fh : Ev → R (Option Int)} {p2 : Pos} (A : PD X W a fa) (L : PDO X W lo fl) (U : PDO X W hi fh) : PD X W (.Subscript a (.Slice lo hi none p2) pos) (xSl fa fl fh) := by
  obtain ⟨ta, pa, ha⟩ := A.ex
  obtain ⟨tl, pl, hl⟩ := L.ex
  obtain ⟨tu, pu, hu⟩ := U.ex
  refine ⟨_, pe_slice (SlR.or sl_list (SlR.or sl_tupA sl_str)) pa pl pu, fun {B0 G H δ σ Q} S h => ?_⟩
  refine ha S (Rq.bind (rep := DRep X.K) h fun x ex v H1 G1 t1 r1 h1 => ?_)
  refine hl (S.step t1) (Rq.bind h1 fun l el l' H2 G2 t2 e2 h2 => ?_)
  subst e2
  refine hu ((S.step t1).step t2) (Rq.bind h2 fun u eu u' H3 G3 t3 e3 h3 => ?_)
  subst e3
  have r := r1.mono (t2.gg.trans t3.gg)
  have s := t3.gh
  cases r with
  | lst e r => exact .inl ⟨_, _, rfl, SqL.of (s _ _ e), fun p hp => Rq.ok_new (rep := DRep X.K) s hp h3 (.lst upd_same ((cut_rep r).mono (Same.upd (s.none hp))))⟩
  | ro e r => exact .inl ⟨_, _, rfl, Same.seq s e, fun p hp => Rq.ok_new (rep := DRep X.K) s hp h3 (.lst upd_same ((cut_rep r).mono (Same.upd (s.none hp))))⟩
  | tup e r =>
    refine .inr (.inl ⟨_, _, rfl, SqT.of (s _ _ e), fun z => ?_, fun _ p hp => Rq.ok_new (rep := DRep X.K) s hp h3 (.tup upd_same ((cut_rep r).mono (Same.upd (s.none hp))))⟩)
    rw [r.length] at z
    have q : oSl (.tup _) l' u' = .ok (.tup _) := congrArg (fun y => R.ok (DV.tup y)) (cut_whole z)
    rw [q] at h3
    exact Rq.ok_self (rep := DRep X.K) s h3 (.tup e r)
  | str z =>
    obtain ⟨c, q⟩ := rq_if h3
    exact .inr (.inr ⟨z, rfl, small_le c, Rq.ok_self (rep := DRep X.K) s q (.str _)⟩)
  | _ => exact h3.elim

/-! ### built-ins by name -/
/-- a built-in's reading by data -/
def CbD (X : Cx) (r : List V → Hp → VK → Prop) (op : List DV → R DV) : Prop :=
  ∀ {G H : Hp} {vs : List V} {ds : List DV} {Q : VK} {W : Value → Option Addr → Hp → Prop}, Same G H → DReps X.K G vs ds → Rq X.K (DRep X.K) W G H (op ds) Q → r vs H Q
def xCB (op : List DV → R DV) (fes : Ev → R (List DV)) : Ev → R DV := fun δ => (fes δ).bind op
variable {x : Str} {p : Pos} {id T : String} {r : List V → Hp → VK → Prop} {op : List DV → R DV}
theorem d_callB (hc : CallR X (.builtin id) r) (od : CbD X r op) (hm : X.mg x = none) (hv : bootBuiltins x = some (.builtin id)) (A : PDA X W (a :: es) fes) (hg : Gl X x := by rfl) (hn : x ≠ "__name__" := by decide) (hdb : (x == ("__debug__" : Str)) = false := by decide)
    (he : starEach (a :: es) X.env = (false, eval a X.env) :: starEach es X.env := by rfl) (hpl : (backTo pos (starEach es X.env)).any (·.1) = false := by rfl) : PD X W (.Call (.Name x p) (a :: es) [] pos) (xCB op fes) := by
  obtain ⟨ta, pa, ha⟩ := A.ex
  refine ⟨_, pe_callB hc hg hm hv pa hn hdb he hpl, fun {B0 G H δ σ Q} S h => ?_⟩
  exact ha S (Rq.bind (rep := DReps X.K) h fun xs ex vs H1 G1 t1 r1 h1 => od t1.gh r1 h1)
theorem d_callTy (hc : CallR X (.type T) r) (od : CbD X r op) (hm : X.mg x = none) (hv : bootBuiltins x = some (.type T)) (A : PDA X W (a :: es) fes) (hg : Gl X x := by rfl) (hn : x ≠ "__name__" := by decide) (hdb : (x == ("__debug__" : Str)) = false := by decide)
    (he : starEach (a :: es) X.env = (false, eval a X.env) :: starEach es X.env := by rfl) (hpl : (backTo pos (starEach es X.env)).any (·.1) = false := by rfl) : PD X W (.Call (.Name x p) (a :: es) [] pos) (xCB op fes) := by
  obtain ⟨ta, pa, ha⟩ := A.ex
  refine ⟨_, pe_callTy hc hg hm hv pa hn hdb he hpl, fun {B0 G H δ σ Q} S h => ?_⟩
  exact ha S (Rq.bind (rep := DReps X.K) h fun xs ex vs H1 G1 t1 r1 h1 => od t1.gh r1 h1)
end
end LD

set_option maxHeartbeats 2000000
/-! Layer D, part D: statements. -/
namespace LD
open PySem PySem.Spec PyProof.Rows L2

inductive SR where
  | nx (δ : Ev)
  | rt (d : DV)
  | bk (δ : Ev)
  | ct (δ : Ev)
  | ex (c : Str) (fs : List (Str × DV)) (δ : Ev)
  | bad
def SRq (K : PySem.W.Frag) (W : WX) (D : Ends) (B : Bas) (G : Hp) (r : SR) : Prop := match r with
  | .nx δ => ∀ σ H' G', Same G G' → SOk K B G' H' δ σ → D.nx σ H'
  | .bk δ => ∀ σ H' G', Same G G' → SOk K B G' H' δ σ → D.bk σ H'
  | .ct δ => ∀ σ H' G', Same G G' → SOk K B G' H' δ σ → D.ct σ H'
  | .rt d => ∀ v H' G', Tr B.G0 B.H0 G' H' → DRep K G' v d → D.rt v H'
  | .ex c fs δ => ∀ σ H' G' dx, Same G G' → SOk K B G' H' δ σ → XRep K G' H' dx fs → W (.ref (He.ga K c)) dx σ H'
  | .bad => False
theorem SRq.gg {K : PySem.W.Frag} {W : WX} {D : Ends} {B : Bas} {G G1 : Hp} {r : SR} (s : Same G G1) (h : SRq K W D B G r) : SRq K W D B G1 r := by
  cases r with
  | nx δ => exact fun σ H' G' g => h σ H' G' (s.trans g)
  | bk δ => exact fun σ H' G' g => h σ H' G' (s.trans g)
  | ct δ => exact fun σ H' G' g => h σ H' G' (s.trans g)
  | rt d => exact h
  | ex c fs δ => exact fun σ H' G' dx g => h σ H' G' dx (s.trans g)
  | bad => exact h

structure PSD (X : Cx) (W : WX) (st : Stmt) (F : Ev → SR) : Prop where
  ex : ∃ t : TS, PS X st t ∧ ∀ {B : Bas} {G H : Hp} {δ : Ev} {σ : L2.St} {D : Ends}, SOk X.K B G H δ σ → SRq X.K W D B G (F δ) → t D σ H
structure PSSD (X : Cx) (W : WX) (st : List Stmt) (F : Ev → SR) : Prop where
  ex : ∃ t : TS, PSs X st t ∧ ∀ {B : Bas} {G H : Hp} {δ : Ev} {σ : L2.St} {D : Ends}, SOk X.K B G H δ σ → SRq X.K W D B G (F δ) → t D σ H

/-- from an expression's result to a statement's -/
def xS {α : Type} (r : R α) (δ : Ev) (k : α → SR) : SR := match r with
  | .ok a => k a
  | .exc c fs => .ex c fs δ
  | .bad => .bad
theorem SRq.of {α β : Type} {K : PySem.W.Frag} {rep : Rel α β} {W : WX} {D : Ends} {B : Bas} {G H : Hp} {δ : Ev} {σ : L2.St} {r : R α} {k : α → SR} {Q : β → Hp → Prop} (S : SOk K B G H δ σ) (h : SRq K W D B G (xS r δ k))
    (c : ∀ a, r = .ok a → ∀ b H1 G1, Tr G H G1 H1 → rep G1 b a → SRq K W D B G1 (k a) → Q b H1) : Rq K rep (fun c d H' => W c d σ H') G H r Q := by
  cases r with
  | ok a => exact fun b H' G' t p => c a rfl b H' G' t p (h.gg t.gg)
  | exc cl fs => exact fun H' G' d t x => h σ H' G' d t.gg (S.step t) x
  | bad => exact h

/-! ### targets -/
structure PGD (X : Cx) (tg : Expr) (ix : List Nat) (g : DV → Ev → R Ev) : Prop where
  ex : ∃ t : TG, PG X tg t ∧ ∀ {B : Bas} {G H : Hp} {δ δ' : Ev} {σ : L2.St} {v : V} {d : DV} {Q : L2.St → Hp → Prop}, SOk X.K B G H δ σ → DRep X.K G v d → g d δ = .ok δ' →
    (∀ σ', SOk X.K B G H δ' σ' → (∀ vs : List Nat, (∀ i ∈ ix, i ∈ vs) → wipe σ' vs = wipe σ vs) → Q σ' H) → t v σ H Q
structure PGsD (X : Cx) (tg : List Expr) (ix : List Nat) (g : List DV → Ev → R Ev) : Prop where
  ex : ∃ t : TGs, PGs X tg t ∧ ∀ {B : Bas} {G H : Hp} {δ δ' : Ev} {σ : L2.St} {v : List V} {d : List DV} {Q : L2.St → Hp → Prop}, SOk X.K B G H δ σ → DReps X.K G v d → g d δ = .ok δ' →
    (∀ σ', SOk X.K B G H δ' σ' → (∀ vs : List Nat, (∀ i ∈ ix, i ∈ vs) → wipe σ' vs = wipe σ vs) → Q σ' H) → t v σ H Q
def gN (i : Nat) : DV → Ev → R Ev := fun d δ => .ok (δ.set i (.pu d))
def gsNil : List DV → Ev → R Ev := fun ds δ => match ds with
  | [] => .ok δ
  | _ => .bad
def gsCons (g : DV → Ev → R Ev) (gs : List DV → Ev → R Ev) : List DV → Ev → R Ev := fun ds δ => match ds with
  | d :: ds => (g d δ).bind (gs ds)
  | [] => .bad
def gT (n : Nat) (gs : List DV → Ev → R Ev) : DV → Ev → R Ev := fun d δ => match d with
  | .tup ds => if Nat.beq ds.length n then gs ds δ else .bad
  | .lst ds => if Nat.beq ds.length n then gs ds δ else .bad
  | _ => .bad
theorem wipe_set {σ : L2.St} {i : Nat} {v : Option V} : ∀ {vs : List Nat}, i ∈ vs → wipe (σ.set i v) vs = wipe σ vs
  | j :: vs, h => by
    show (wipe (σ.set i v) vs).set j none = (wipe σ vs).set j none
    by_cases q : i ∈ vs
    · rw [wipe_set q]
    · have e : i = j := (List.mem_cons.mp h).resolve_right q
      subst e
      have key : ∀ (ws : List Nat) (τ : L2.St), (wipe (τ.set i v) ws).set i none = (wipe τ ws).set i none := by
        intro ws
        induction ws with
        | nil => intro τ; show (τ.set i v).set i none = τ.set i none; rw [List.set_set]
        | cons k ws ih =>
          intro τ
          show ((wipe (τ.set i v) ws).set k none).set i none = ((wipe τ ws).set k none).set i none
          by_cases e : k = i
          · subst e; rw [List.set_set, List.set_set]; exact ih τ
          · rw [List.set_comm _ _ e, List.set_comm _ _ e, ih τ]
      exact key vs σ
section
variable {X : Cx} {W : WX} {a b c : Expr} {es : List Expr} {fa fb fc : Ev → R DV} {fes : Ev → R (List DV)} {ga gb : Ev → R Bool} {pos : Pos}
theorem dg_name (i : Nat) {x : Str} (hN : X.N.Nodup) (hi : X.N[i]? = some x := by rfl) (hx : Loc X.env.scope x := by first | exact Or.inl rfl | exact Or.inr rfl)
    (hf : X.fn x = true ∨ X.env.scope.names.lookup x = some .local := by first | exact .inl rfl | exact .inr rfl) : PGD X (.Name x pos) [i] (gN i) := by
  refine ⟨_, pg_name hN hi hx hf, fun {B0 G H δ δ' σ v d Q} S r e h => ?_⟩
  cases e
  exact h _ (S.set i r) fun vs hv => wipe_set (hv i (List.mem_singleton.mpr rfl))
theorem dgs_nil : PGsD X [] [] gsNil := by
  refine ⟨_, pgs_nil, fun {B0 G H δ δ' σ v d Q} S r e h => ?_⟩
  cases r with
  | nil => cases e; exact ⟨rfl, h _ S fun _ _ => rfl⟩
  | cons _ _ => cases e
theorem dgs_cons {ix jx : List Nat} {g : DV → Ev → R Ev} {gs : List DV → Ev → R Ev} (A : PGD X a ix g) (B : PGsD X es jx gs)
    (hs : (assignEach (a :: es) X.env).map (·.2) = assign a X.env :: (assignEach es X.env).map (·.2) := by rfl) : PGsD X (a :: es) (ix ++ jx) (gsCons g gs) := by
  obtain ⟨ta, pa, ha⟩ := A.ex
  obtain ⟨tb, pb, hb⟩ := B.ex
  refine ⟨_, pgs_cons pa pb hs, fun {B0 G H δ δ' σ v d Q} S r e h => ?_⟩
  cases r with
  | nil => cases e
  | cons r1 r2 =>
    rename_i v1 d1 vs ds
    have e' : (g d1 δ).bind (gs ds) = .ok δ' := e
    cases q : g d1 δ with
    | ok δ1 =>
      rw [q] at e'
      refine ⟨_, _, rfl, ha S r1 q fun σ1 S1 w1 => hb S1 r2 e' fun σ2 S2 w2 => h σ2 S2 fun vs hv => ?_⟩
      rw [w2 vs fun i hi => hv i (List.mem_append_right _ hi), w1 vs fun i hi => hv i (List.mem_append_left _ hi)]
    | exc _ _ => rw [q] at e'; cases e'
    | bad => rw [q] at e'; cases e'
/-- what unpacks: a tuple or a list -/
def gSeq (K : PySem.W.Frag) (n : Nat) (t : TGs) : TG := fun v σ H Q => gTup K n t v σ H Q ∨ gLst K n t v σ H Q
theorem PG.or {tg : Expr} {t u : TG} (A : PG X tg t) (B : PG X tg u) : PG X tg (fun v σ H Q => t v σ H Q ∨ u v σ H Q) :=
  ⟨fun pins s σ H v w Q I r h => h.elim (fun z => A.run pins s σ H v w Q I r z) fun z => B.run pins s σ H v w Q I r z⟩
theorem dg_tup {ix : List Nat} {gs : List DV → Ev → R Ev} {k n : Nat} (hc : X.calm = true) (A : PGsD X es ix gs) (hn : (assignEach es X.env).length = n := by rfl) (hst : (assignEach es X.env).findIdx? (·.1) = none := by rfl) :
    PGD X (.Tuple es k pos) ix (gT n gs) := by
  obtain ⟨ta, pa, ha⟩ := A.ex
  refine ⟨_, PG.or (pg_tup hc pa hn hst) (pg_lst hc pa hn hst), fun {B0 G H δ δ' σ v d Q} S r e h => ?_⟩
  cases r with
  | tup e1 r1 =>
    rename_i p vs ds
    have e' : (if Nat.beq ds.length n = true then gs ds δ else .bad) = .ok δ' := e
    cases q : Nat.beq ds.length n with
    | true =>
      rw [q, if_pos rfl] at e'
      exact .inl ⟨p, vs, rfl, SqT.of (S.gh _ _ e1), by rw [r1.length]; exact Nat.eq_of_beq_eq_true q, ha S r1 e' h⟩
    | false => rw [q] at e'; cases e'
  | lst e1 r1 =>
    rename_i p vs ds
    have e' : (if Nat.beq ds.length n = true then gs ds δ else .bad) = .ok δ' := e
    cases q : Nat.beq ds.length n with
    | true =>
      rw [q, if_pos rfl] at e'
      exact .inr ⟨p, vs, rfl, SqL.of (S.gh _ _ e1), by rw [r1.length]; exact Nat.eq_of_beq_eq_true q, ha S r1 e' h⟩
    | false => rw [q] at e'; cases e'
  | _ => cases e

/-! ### simple statements -/
def sSeq (F F' : Ev → SR) : Ev → SR := fun δ => match F δ with
  | .nx δ' => F' δ'
  | r => r
def sNx : Ev → SR := fun δ => .nx δ
def sSet (i : Nat) (f : Ev → R DV) : Ev → SR := fun δ => xS (f δ) δ fun d => .nx (δ.set i (.pu d))
def sAsg (f : Ev → R DV) (g : DV → Ev → R Ev) : Ev → SR := fun δ => xS (f δ) δ fun d => match g d δ with
  | .ok δ' => .nx δ'
  | _ => .bad
def sPar (i j : Nat) (f f' : Ev → R DV) : Ev → SR := fun δ => xS (f δ) δ fun d => xS (f' δ) δ fun d' => .nx ((δ.set i (.pu d)).set j (.pu d'))
def sRet (f : Ev → R DV) : Ev → SR := fun δ => xS (f δ) δ .rt
def sDrop (f : Ev → R DV) : Ev → SR := fun δ => xS (f δ) δ fun _ => .nx δ
def sIf (c : Ev → R Bool) (F F' : Ev → SR) : Ev → SR := fun δ => xS (c δ) δ fun z => if z = true then F δ else F' δ
variable {st : Stmt} {sts : List Stmt} {F F' : Ev → SR}
theorem dss_nil : PSSD X W [] sNx := ⟨tNext, pss_nil, fun {B0 G H δ σ D} S h => h σ H G (Same.refl _) S⟩
theorem seq_req {K : PySem.W.Frag} {D : Ends} {B : Bas} {G : Hp} {δ : Ev} {u : TS} (h : SRq K W D B G (sSeq F F' δ)) (k : ∀ δ' σ H' G', Same G G' → SOk K B G' H' δ' σ → SRq K W D B G' (F' δ') → u D σ H') :
    SRq K W { D with nx := u D } B G (F δ) := by
  unfold sSeq at h
  cases q : F δ with
  | nx δ' => rw [q] at h; exact fun σ H' G' g S => k δ' σ H' G' g S (h.gg g)
  | rt d => rw [q] at h; exact h
  | bk δ' => rw [q] at h; exact h
  | ct δ' => rw [q] at h; exact h
  | ex c fs δ' => rw [q] at h; exact h
  | bad => rw [q] at h; exact h
theorem dss_cons (A : PSD X W st F) (B : PSSD X W sts F') : PSSD X W (st :: sts) (sSeq F F') := by
  obtain ⟨ta, pa, ha⟩ := A.ex
  obtain ⟨tb, pb, hb⟩ := B.ex
  exact ⟨_, pss_cons pa pb, fun {B0 G H δ σ D} S h => ha S (seq_req h fun δ' σ' H' G' g S' h' => hb S' h')⟩
theorem dss_one (A : PSD X W st F) : PSSD X W [st] F := by
  obtain ⟨ta, pa, ha⟩ := A.ex
  exact ⟨ta, pss_one pa, ha⟩
/-- ahead of a statement: the i-th name's own object is changed by no one from here on -/
theorem dss_frz (i : Nat) (A : PSSD X W sts F) : PSSD X W sts (fun δ => F (frz δ i)) := by
  obtain ⟨ta, pa, ha⟩ := A.ex
  refine ⟨ta, pa, fun {B0 G H δ σ D} S h => ?_⟩
  obtain ⟨G', g, S'⟩ := S.frz i
  exact ha S' (h.gg g)
theorem ds_set (i : Nat) {x : Str} {pos' : Pos} (hN : X.N.Nodup) (A : PD X W a fa) (hi : X.N[i]? = some x := by rfl) (hx : Loc X.env.scope x := by first | exact Or.inl rfl | exact Or.inr rfl) (hs : swapsWith a (some (.Name x pos')) pos.line X.env = pure false := by rfl)
    (hf : X.fn x = true ∨ X.env.scope.names.lookup x = some .local := by first | exact .inl rfl | exact .inr rfl) : PSD X W (.Assign [.Name x pos'] a pos) (sSet i fa) := by
  obtain ⟨ta, pa, ha⟩ := A.ex
  refine ⟨_, L2.ps_set hN hi hx pa hs hf, fun {B0 G H δ σ D} S h => ?_⟩
  exact ha S (SRq.of S h fun d e v H1 G1 t1 r1 h1 => h1 _ _ _ (Same.refl _) ((S.step t1).set i r1))
theorem ds_asg {ix : List Nat} {g : DV → Ev → R Ev} (A : PD X W b fb) (B : PGD X a ix g) (hs : swapsWithSole [a] b pos.line X.env = pure false := by rfl) (hw : swappedStores [a] b X.env = pure none := by rfl)
    (h1 : (assignEach [a] X.env).map (·.2) = [assign a X.env] := by rfl) : PSD X W (.Assign [a] b pos) (sAsg fb g) := by
  obtain ⟨ta, pa, ha⟩ := A.ex
  obtain ⟨tb, pb, hb⟩ := B.ex
  refine ⟨_, ps_asg pa pb hs hw h1, fun {B0 G H δ σ D} S h => ?_⟩
  refine ha S (SRq.of S h fun d e v H1 G1 t1 r1 h1 => ?_)
  cases q : g d δ with
  | ok δ' => rw [q] at h1; exact hb (S.step t1) r1 q fun σ' S' _ => h1 _ _ _ (Same.refl _) S'
  | exc _ _ => rw [q] at h1; exact h1.elim
  | bad => rw [q] at h1; exact h1.elim
theorem ds_par (i j : Nat) {x y : Str} {px py pt : Pos} {kt k2 pt2} (hc : X.calm = true) (hN : X.N.Nodup) (A : PD X W a fa) (B : PD X W b fb) (hi : X.N[i]? = some x := by rfl) (hj : X.N[j]? = some y := by rfl) (hij : i ≠ j := by decide)
    (hx : X.env.scope.names.lookup x = some .local := by rfl) (hy : X.env.scope.names.lookup y = some .local := by rfl)
    (hw : swappedStores [.Tuple [.Name x px, .Name y py] kt pt] (.Tuple [a, b] k2 pt2) X.env = pure (some [x, y]) := by rfl)
    (hs : swapsWithSole [.Tuple [.Name x px, .Name y py] kt pt] (.Tuple [a, b] k2 pt2) pos.line X.env = pure false := by rfl)
    (hs1 : starEach (a :: [b]) X.env = (false, eval a X.env) :: starEach [b] X.env := by rfl) (hs2 : starEach (b :: []) X.env = (false, eval b X.env) :: starEach [] X.env := by rfl) :
    PSD X W (.Assign [.Tuple [.Name x px, .Name y py] kt pt] (.Tuple [a, b] k2 pt2) pos) (sPar i j fa fb) := by
  obtain ⟨ta, pa, ha⟩ := A.ex
  obtain ⟨tb, pb, hb⟩ := B.ex
  refine ⟨_, L2.ps_par hc hN hi hj hij hx hy (pa_cons pa (pa_cons pb pa_nil hs2) hs1) hw hs, fun {B0 G H δ σ D} S h => ?_⟩
  refine ha S (SRq.of S h fun d e v H1 G1 t1 r1 h1 => ?_)
  refine hb (S.step t1) (SRq.of (S.step t1) h1 fun d' e' v' H2 G2 t2 r2 h2 => ?_)
  exact ⟨v, v', rfl, h2 _ _ _ (Same.refl _) ((((S.step t1).step t2).set i (r1.mono t2.gg)).set j r2)⟩
theorem ds_ret (A : PD X W a fa) : PSD X W (.Return (some a) pos) (sRet fa) := by
  obtain ⟨ta, pa, ha⟩ := A.ex
  refine ⟨_, L2.ps_ret pa, fun {B0 G H δ σ D} S h => ?_⟩
  exact ha S (SRq.of S h fun d e v H1 G1 t1 r1 h1 => h1 v H1 G1 (S.step t1).tr r1)
theorem ds_retN : PSD X W (.Return none pos) (fun _ => .rt .non) := ⟨_, ps_retN, fun {B0 G H δ σ D} S h => h .non H G S.tr .non⟩
theorem ds_pass : PSD X W (.Pass pos) sNx := ⟨_, ps_pass, fun {B0 G H δ σ D} S h => h σ H G (Same.refl _) S⟩
theorem ds_break : PSD X W (.Break pos) (fun δ => .bk δ) := ⟨_, ps_break, fun {B0 G H δ σ D} S h => h σ H G (Same.refl _) S⟩
theorem ds_continue : PSD X W (.Continue pos) (fun δ => .ct δ) := ⟨_, ps_continue, fun {B0 G H δ σ D} S h => h σ H G (Same.refl _) S⟩
theorem ds_drop (A : PD X W a fa) (hs : swapsWith a none pos.line X.env = pure false := by rfl) : PSD X W (.Expr a pos) (sDrop fa) := by
  obtain ⟨ta, pa, ha⟩ := A.ex
  refine ⟨_, ps_expr pa hs, fun {B0 G H δ σ D} S h => ?_⟩
  exact ha S (SRq.of S h fun d e v H1 G1 t1 r1 h1 => h1 _ _ _ (Same.refl _) (S.step t1))
theorem ds_if {st1 st2 : List Stmt} (C : PDT X W c ga) (A : PSSD X W st1 F) (B : PSSD X W st2 F') : PSD X W (.If c st1 st2 pos) (sIf ga F F') := by
  obtain ⟨tc, pc, hc⟩ := C.ex
  obtain ⟨ta, pa, ha⟩ := A.ex
  obtain ⟨tb, pb, hb⟩ := B.ex
  refine ⟨_, L2.ps_if pc pa pb, fun {B0 G H δ σ D} S h => ?_⟩
  refine hc S (SRq.of S h fun z e b H1 G1 t1 r1 h1 => ?_)
  cases r1
  cases z with
  | true => exact ha (S.step t1) h1
  | false => exact hb (S.step t1) h1

/-! ### what is walked -/
structure Walks (K : PySem.W.Frag) (J : It) (ds : List DV) (G : Hp) : Prop where
  stop : ∀ H, Same G H → J.stop ds.length H
  go : ∀ i H, Same G H → i < ds.length → J.go i H
  yld : ∀ i H x H' Gc, Same G Gc → Same Gc H → i < ds.length → J.yld i H x H' → ∃ G' d, Tr Gc H G' H' ∧ ds[i]? = some d ∧ DRep K G' x d
structure PID (X : Cx) (W : WX) (tg iter : Expr) (f : Ev → R (List DV)) : Prop where
  ex : ∃ wi : TI, PI X tg iter wi ∧ ∀ {B : Bas} {G H : Hp} {δ : Ev} {σ : L2.St} {Q : It → Hp → Prop}, SOk X.K B G H δ σ → Rq X.K (fun G' J ds => Walks X.K J ds G') (fun c d H' => W c d σ H') G H (f δ) Q → wi σ H Q
def asSeq : DV → R (List DV)
  | .lst xs => .ok xs
  | .ro xs => .ok xs
  | _ => .bad
def asTup : DV → R (List DV)
  | .tup xs => .ok xs
  | _ => .bad
def asSigns : DV → R (List DV)
  | .str z => .ok (z.cps.toList.map fun c => .str ⟨#[c]⟩)
  | _ => .bad
def xSrc (as_ : DV → R (List DV)) (f : Ev → R DV) : Ev → R (List DV) := fun δ => (f δ).bind as_
theorem walks_list {K : PySem.W.Frag} {G : Hp} {p : Addr} {vs : List V} {ds : List DV} (h : SqL K G p vs) (r : DReps K G vs ds) : Walks K (Itl K p) ds G := by
  refine ⟨fun H s => ⟨vs, Same.seq s h, by rw [r.length]; exact Nat.le_refl _⟩, fun i H s hi => ?_, fun i H x H' Gc g s hi y => ?_⟩
  · rw [← r.length] at hi
    exact ⟨vs, vs[i], Same.seq s h, List.getElem?_eq_getElem hi⟩
  · obtain ⟨e, y⟩ := y
    subst e
    have e1 := y vs (Same.seq (g.trans s) h)
    obtain ⟨d, hd, p⟩ := r.get' e1
    exact ⟨Gc, d, Tr.refl s, hd, p.mono g⟩
theorem walks_tup {K : PySem.W.Frag} {G : Hp} {p : Addr} {vs : List V} {ds : List DV} (h : SqT K G p vs) (r : DReps K G vs ds) : Walks K (Itt K p) ds G := by
  refine ⟨fun H s => ⟨vs, SqT.same s h, by rw [r.length]; exact Nat.le_refl _⟩, fun i H s hi => ?_, fun i H x H' Gc g s hi y => ?_⟩
  · rw [← r.length] at hi
    exact ⟨vs, vs[i], SqT.same s h, List.getElem?_eq_getElem hi⟩
  · obtain ⟨e, y⟩ := y
    subst e
    have e1 := y vs (SqT.same (g.trans s) h)
    obtain ⟨d, hd, p⟩ := r.get' e1
    exact ⟨Gc, d, Tr.refl s, hd, p.mono g⟩
variable {tg iter : Expr}
theorem di_list (A : PD X W iter fa) : PID X W tg iter (xSrc asSeq fa) := by
  obtain ⟨ta, pa, ha⟩ := A.ex
  refine ⟨_, pi_list pa, fun {B0 G H δ σ Q} S h => ?_⟩
  refine ha S (Rq.bind (rep := DRep X.K) h fun x ex v H1 G1 t1 r1 h1 => ?_)
  cases r1 with
  | lst e r => exact ⟨_, rfl, ⟨_, SqL.of (t1.gh _ _ e)⟩, h1 _ H1 G1 (Tr.refl t1.gh) (walks_list (SqL.of e) r)⟩
  | ro e r => exact ⟨_, rfl, ⟨_, Same.seq t1.gh e⟩, h1 _ H1 G1 (Tr.refl t1.gh) (walks_list e r)⟩
  | _ => exact h1.elim
theorem di_tup (A : PD X W iter fa) : PID X W tg iter (xSrc asTup fa) := by
  obtain ⟨ta, pa, ha⟩ := A.ex
  refine ⟨_, pi_tup pa, fun {B0 G H δ σ Q} S h => ?_⟩
  refine ha S (Rq.bind (rep := DRep X.K) h fun x ex v H1 G1 t1 r1 h1 => ?_)
  cases r1 with
  | tup e r => exact ⟨_, rfl, ⟨_, SqT.of (t1.gh _ _ e)⟩, h1 _ H1 G1 (Tr.refl t1.gh) (walks_tup (SqT.of e) r)⟩
  | _ => exact h1.elim
theorem di_str (A : PD X W iter fa) : PID X W tg iter (xSrc asSigns fa) := by
  obtain ⟨ta, pa, ha⟩ := A.ex
  refine ⟨_, pi_str pa, fun {B0 G H δ σ Q} S h => ?_⟩
  refine ha S (Rq.bind (rep := DRep X.K) h fun x ex v H1 G1 t1 r1 h1 => ?_)
  cases r1 with
  | str z =>
    refine ⟨z, rfl, h1 _ H1 G1 (Tr.refl t1.gh) ⟨fun H s => ?_, fun i H s hi => ?_, fun i H x H' Gc g s hi y => ?_⟩⟩
    · show z.cps.size ≤ _
      simp
    · show i < z.cps.size
      simpa using hi
    · obtain ⟨e, c, hc, rfl⟩ := y
      subst e
      exact ⟨Gc, .str ⟨#[c]⟩, Tr.refl s, by simp [hc], .str _⟩
  | _ => exact h1.elim
def intsFrom (lo : Int) (n : Nat) : List DV := (List.range n).map fun i : Nat => DV.int (lo + (i : Int))
theorem walks_range {K : PySem.W.Frag} {G : Hp} (lo : Int) (n : Nat) : Walks K (Itr lo n) (intsFrom lo n) G := by
  have hl : (intsFrom lo n).length = n := by simp [intsFrom]
  refine ⟨fun H s => ?_, fun i H s hi => ?_, fun i H x H' Gc g s hi y => ?_⟩
  · rw [hl]; exact Nat.le_refl n
  · rw [hl] at hi; exact hi
  · obtain ⟨e, rfl⟩ := y
    subst e
    rw [hl] at hi
    exact ⟨Gc, .int (lo + i), Tr.refl s, by simp [intsFrom, hi], .int _⟩
def rng62 (i : Int) : Bool := decide (-(2 ^ 62) ≤ i) && decide (i < 2 ^ 62)
def asRange1 : List DV → R (List DV)
  | [.int j] => if rng62 j then .ok (intsFrom 0 j.toNat) else .bad
  | _ => .bad
def asRange2 : List DV → R (List DV)
  | [.int i, .int j] => if rng62 i && rng62 j then .ok (intsFrom i (j - i).toNat) else .bad
  | _ => .bad
theorem rng62_ok {i : Int} (h : rng62 i = true) : -(2 ^ 62) ≤ i ∧ i < 2 ^ 62 := by
  obtain ⟨a, b⟩ := Bool.and_eq_true_iff.mp h
  exact ⟨of_decide_eq_true a, of_decide_eq_true b⟩
theorem rq_ifB {α β : Type} {K : PySem.W.Frag} {rep : Rel α β} {G H : Hp} {W : Value → Option Addr → Hp → Prop} {Q : β → Hp → Prop} {c : Bool} {a : α} (h : Rq K rep W G H (if c = true then .ok a else .bad) Q) : c = true ∧ Rq K rep W G H (.ok a) Q := by
  cases c with
  | true => exact ⟨rfl, h⟩
  | false => exact h.elim
theorem asRange1_inv {K : PySem.W.Frag} {G H : Hp} {rep : Rel (List DV) It} {W : Value → Option Addr → Hp → Prop} {Q : It → Hp → Prop} {vs : List V} {ds : List DV} (r : DReps K G vs ds) (h : Rq K rep W G H (asRange1 ds) Q) :
    ∃ j, vs = [.int j] ∧ rng62 j = true ∧ Rq K rep W G H (.ok (intsFrom 0 j.toNat)) Q := by
  unfold asRange1 at h
  split at h
  · cases r with
    | cons ra rb =>
      cases ra
      cases rb
      obtain ⟨c, q⟩ := rq_ifB h
      exact ⟨_, rfl, c, q⟩
  · exact h.elim
theorem asRange2_inv {K : PySem.W.Frag} {G H : Hp} {rep : Rel (List DV) It} {W : Value → Option Addr → Hp → Prop} {Q : It → Hp → Prop} {vs : List V} {ds : List DV} (r : DReps K G vs ds) (h : Rq K rep W G H (asRange2 ds) Q) :
    ∃ i j, vs = [.int i, .int j] ∧ rng62 i = true ∧ rng62 j = true ∧ Rq K rep W G H (.ok (intsFrom i (j - i).toNat)) Q := by
  unfold asRange2 at h
  split at h
  · cases r with
    | cons ra rb =>
      cases ra
      cases rb with
      | cons rc rd =>
        cases rc
        cases rd
        obtain ⟨c, q⟩ := rq_ifB h
        obtain ⟨c1, c2⟩ := Bool.and_eq_true_iff.mp c
        exact ⟨_, _, rfl, c1, c2, q⟩
  · exact h.elim
theorem di_range1 {p : Pos} (hm : X.mg "range" = none) (A : PDA X W [a] fes) (hg : Gl X "range" := by rfl) (hs : starEach [a] X.env = [(false, eval a X.env)] := by rfl) : PID X W tg (.Call (.Name "range" p) [a] [] pos) (fun δ => (fes δ).bind asRange1) := by
  obtain ⟨ta, pa, ha⟩ := A.ex
  refine ⟨_, pi_range1 hg hm pa hs, fun {B0 G H δ σ Q} S h => ?_⟩
  refine ha S (Rq.bind (rep := DReps X.K) h fun x ex v H1 G1 t1 r1 h1 => ?_)
  obtain ⟨j, rfl, c, q⟩ := asRange1_inv r1 h1
  exact ⟨j, rfl, (rng62_ok c).1, (rng62_ok c).2, q _ H1 G1 (Tr.refl t1.gh) (walks_range 0 j.toNat)⟩
theorem di_range2 {p : Pos} (hm : X.mg "range" = none) (A : PDA X W [a, b] fes) (hg : Gl X "range" := by rfl) (hs : starEach [a, b] X.env = [(false, eval a X.env), (false, eval b X.env)] := by rfl) (hs2 : starEach [b] X.env = [(false, eval b X.env)] := by rfl) : PID X W tg (.Call (.Name "range" p) [a, b] [] pos) (fun δ => (fes δ).bind asRange2) := by
  obtain ⟨ta, pa, ha⟩ := A.ex
  refine ⟨_, pi_range2 hg hm pa hs hs2, fun {B0 G H δ σ Q} S h => ?_⟩
  refine ha S (Rq.bind (rep := DReps X.K) h fun x ex v H1 G1 t1 r1 h1 => ?_)
  obtain ⟨i, j, rfl, c1, c2, q⟩ := asRange2_inv r1 h1
  exact ⟨i, j, rfl, ⟨(rng62_ok c1).1, (rng62_ok c1).2, (rng62_ok c2).1, (rng62_ok c2).2⟩, q _ H1 G1 (Tr.refl t1.gh) (walks_range i (j - i).toNat)⟩

/-! ### for -/
def forD (g : DV → Ev → R Ev) (F : Ev → SR) : List DV → Ev → SR
  | [], δ => .nx δ
  | d :: ds, δ => match g d δ with
    | .ok δ1 => match F δ1 with
      | .nx δ2 => forD g F ds δ2
      | .ct δ2 => forD g F ds δ2
      | .bk δ2 => .nx δ2
      | .rt d => .rt d
      | .ex c fs δ2 => .ex c fs δ2
      | .bad => .bad
    | _ => .bad
def sFor (fi : Ev → R (List DV)) (g : DV → Ev → R Ev) (F : Ev → SR) : Ev → SR := fun δ => xS (fi δ) δ fun ds => forD g F ds δ
theorem ds_for {ix : List Nat} {fi : Ev → R (List DV)} {g : DV → Ev → R Ev} (hp : PassesOwn (model X.prog X.w) X.A X.env X.xe) (hc : X.calm = true) (I : PID X W tg iter fi) (T : PGD X tg ix g) (B : PSSD X W sts F)
    (hs : ∀ x, foldedSetIterable iter X.env x = pure x := by intro _; rfl) : PSD X W (.For tg iter sts [] pos) (sFor fi g F) := by
  obtain ⟨wi, pw, hw⟩ := I.ex
  obtain ⟨tg', pg, hg⟩ := T.ex
  obtain ⟨tb, pb, hb⟩ := B.ex
  refine ⟨_, ps_for hp hc pw pg pb hs, fun {B0 G H δ σ D} S h => ?_⟩
  refine hw S (SRq.of S h fun ds e J H1 G1 t1 wk h1 => ?_)
  refine ⟨fun i m σ H => i ≤ ds.length ∧ m = ds.length - i ∧ ∃ δ' G', Same G1 G' ∧ SOk X.K B0 G' H δ' σ ∧ SRq X.K W D B0 G' (forD g F (ds.drop i) δ'), ⟨ds.length, Nat.zero_le _, by simp, δ, G1, Same.refl _, S.step t1, by simpa using h1⟩, ?_⟩
  rintro i m σ H ⟨hi, rfl, δ', G', gg, S', q⟩
  have sG : Same G1 H := gg.trans S'.gh
  by_cases hlt : i < ds.length
  · refine .inr ⟨wk.go i H sG hlt, fun σ2 H2 => ∃ δ2 G2, Same G1 G2 ∧ SOk X.K B0 G2 H2 δ2 σ2 ∧ SRq X.K W D B0 G2 (forD g F (ds.drop (i + 1)) δ2), fun σ2 H2 ⟨δ2, G2, z1, z2, z3⟩ => ⟨ds.length - (i + 1), by omega, hlt, rfl, δ2, G2, z1, z2, z3⟩, fun x H' y => ?_⟩
    obtain ⟨G2, d, t2, hd, rd⟩ := wk.yld i H x H' G' gg S'.gh hlt y
    have ed : ds.drop i = d :: ds.drop (i + 1) := by
      rw [List.drop_eq_getElem_cons hlt]
      rw [List.getElem?_eq_getElem hlt] at hd
      rw [Option.some.inj hd]
    rw [ed] at q
    have q' := q.gg t2.gg
    unfold forD at q'
    have S2 := S'.step t2
    cases eg : g d δ' with
    | ok δ1 =>
      rw [eg] at q'
      refine hg S2 rd eg fun σ3 S3 _ => hb S3 ?_
      dsimp only at q'
      cases eF : F δ1 with
      | nx δ2 => rw [eF] at q'; exact fun σ4 H4 G4 g4 S4 => ⟨δ2, G4, (gg.trans t2.gg).trans g4, S4, q'.gg g4⟩
      | ct δ2 => rw [eF] at q'; exact fun σ4 H4 G4 g4 S4 => ⟨δ2, G4, (gg.trans t2.gg).trans g4, S4, q'.gg g4⟩
      | bk δ2 => rw [eF] at q'; exact q'
      | rt d => rw [eF] at q'; exact q'
      | ex c fs δ2 => rw [eF] at q'; exact q'
      | bad => rw [eF] at q'; exact q'
    | exc _ _ => rw [eg] at q'; exact q'.elim
    | bad => rw [eg] at q'; exact q'.elim
  · have e : i = ds.length := by omega
    subst e
    refine .inl ⟨wk.stop H sG, ?_⟩
    rw [List.drop_length] at q
    exact q σ H G' (Same.refl _) S'

/-! ### raise -/
/-- what makes an exception -/
structure PMD (X : Cx) (W : WX) (e : Expr) (c : Str) (f : Ev → R (List (Str × DV))) : Prop where
  ex : ∃ t, PMk X e t ∧ ∀ {B : Bas} {G H : Hp} {δ : Ev} {σ : L2.St}, SOk X.K B G H δ σ → (match f δ with
    | .ok fs => ∀ H' G' dx, Tr G H G' H' → XRep X.K G' H' dx fs → W (.ref (He.ga X.K c)) dx σ H'
    | _ => False) → t σ H fun cls d H' => W cls d σ H'
def sRaise (c : Str) (f : Ev → R (List (Str × DV))) : Ev → SR := fun δ => match f δ with
  | .ok fs => .ex c fs δ
  | _ => .bad
theorem ds_raise {cn : Str} {f : Ev → R (List (Str × DV))} (hc : X.calm = true) (tk : Takes X W) (A : PMD X W a cn f) : PSD X W (.Raise (some a) none pos) (sRaise cn f) := by
  obtain ⟨t, pm, hm⟩ := A.ex
  refine ⟨_, ps_raise hc tk pm, fun {B0 G H δ σ D} S h => hm S ?_⟩
  unfold sRaise at h
  cases q : f δ with
  | ok fs => rw [q] at h; exact fun H' G' dx t x => h σ H' G' dx t.gg (S.step t) x
  | exc _ _ => rw [q] at h; exact h.elim
  | bad => rw [q] at h; exact h.elim
/-- C('text'), C a class of the program over ValueError without an own __init__ -/
theorem dm_own {x m : Str} {j : Nat} {p p2 : Pos} (q : PySem.W.excIn X.K (He.ga X.K x) He.veBase "ValueError.__new__" = true) (gC : X.mg x = some (.ref (He.ga X.K x))) (kC : PySem.W.keepIn X.K (.ref (He.ga X.K x)) = true)
    (h1 : PySem.W.subIn X.K (.ref (He.ga X.K x)) (.type "BaseException") = some true) (h2 : PySem.W.typeIn X.K (.ref (He.ga X.K x)) = some (.type "type")) (hg : Gl X x := by rfl) (hdb : (x == ("__debug__" : Str)) = false := by decide) :
    PMD X W (.Call (.Name x p) [.Constant (.str m) j p2] [] pos) x (fun _ => .ok []) :=
  ⟨_, pmk_own PySem.F.excBase_ValueError q gC kC (raises_own h1 h2) hg hdb, fun {B0 G H δ σ} S h => h H G none (Tr.refl S.gh) (.inl ⟨rfl, rfl⟩)⟩

/-! ### the def's own lists -/
/-- x = [..]: a list that only this name holds -/
def sNewL (i : Nat) (fes : Ev → R (List DV)) : Ev → SR := fun δ => xS (fes δ) δ fun ds => if small ds.length then .nx (δ.set i (.ol ds)) else .bad
theorem own_new {K : PySem.W.Frag} {B : Bas} {G H : Hp} {δ : Ev} {σ : L2.St} (S : SOk K B G H δ σ) (i : Nat) {p : Addr} {s : Sl} {o : HO} (hp : H p = none) (hs : isOwn s = true) (hme : ∀ c fs, s ≠ .oo c fs) (r : OwnAt K G (upd H p o) p s) : SOk K B G (upd H p o) (δ.set i s) (σ.set i (some (.ref p))) := by
  refine S.setOwn i hs (S.tr.trans (Tr.own S.gh o hp)) (S.tr.sm.free hp) (S.gh.none hp) r (fun b u hb e => by rw [upd_ne hb]; exact e) (fun j u hj e ou z => ?_) fun c fs z => absurd z (hme c fs)
  obtain ⟨a, es, _, _, oa⟩ := S.own e ou
  rw [z] at es
  have : p = a := by injection es with es; injection es with es; injection es
  subst this
  exact oa.there hp
theorem ds_newL (i : Nat) {x : Str} {pos' : Pos} {p2 : Pos} (hN : X.N.Nodup) (A : PDA X W es fes) (hi : X.N[i]? = some x := by rfl) (hx : Loc X.env.scope x := by first | exact Or.inl rfl | exact Or.inr rfl) (hs : swapsWith (.List es p2) (some (.Name x pos')) pos.line X.env = pure false := by rfl)
    (hf : X.fn x = true ∨ X.env.scope.names.lookup x = some .local := by first | exact .inl rfl | exact .inr rfl) : PSD X W (.Assign [.Name x pos'] (.List es p2) pos) (sNewL i fes) := by
  obtain ⟨ta, pa, ha⟩ := A.ex
  refine ⟨_, L2.ps_set hN hi hx (pe_lst pa) hs hf, fun {B0 G H δ σ D} S h => ?_⟩
  refine ha S (SRq.of S h fun ds e vs H1 G1 t1 r1 h1 => ?_)
  cases c : small ds.length with
  | false => rw [c] at h1; exact h1.elim
  | true =>
    rw [c, if_pos rfl] at h1
    refine ⟨by rw [r1.length]; exact small_le c, fun p hp => h1 _ _ _ (Same.refl _) (own_new (S.step t1) i hp rfl (fun _ _ z => nomatch z) ⟨vs, upd_same, r1⟩)⟩
/-- x.append(e), x's own list -/
def sApp (i : Nat) (f : Ev → R DV) : Ev → SR := fun δ => match δ[i]? with
  | some (.ol ds) => xS (f δ) δ fun d => if Nat.blt ds.length 16777216 then .nx (δ.set i (.ol (ds ++ [d]))) else .bad
  | _ => .bad
theorem tr_own_upd {H0 G0 G H : Hp} (t : Tr G0 H0 G H) {a : Addr} (o : HO) (h0 : H0 a = none) (hg : G a = none) : Tr G0 H0 G (upd H a o) := by
  refine ⟨fun b u e => ?_, t.gg, fun b u e => ?_, t.nw⟩
  · rw [upd_ne (fun z => by rw [z, h0] at e; cases e)]; exact t.sm b u e
  · rw [upd_ne (fun z => by rw [z, hg] at e; cases e)]; exact t.gh b u e
theorem own_upd {K : PySem.W.Frag} {B : Bas} {G H : Hp} {δ : Ev} {σ : L2.St} (S : SOk K B G H δ σ) {i : Nat} {a : Addr} {s s' : Sl} {o : HO} (e : δ[i]? = some s) (os : isOwn s = true) (es : σ[i]? = some (some (.ref a))) (h0 : B.H0 a = none) (hg : G a = none) (os' : isOwn s' = true)
    (hme : ∀ c fs, s' = .oo c fs → B.pa = some a) (r : OwnAt K G (upd H a o) a s') : SOk K B G (upd H a o) (δ.set i s') σ := by
  have S2 := S.setOwn i os' (tr_own_upd S.tr o h0 hg) h0 hg r (fun b u hb q => by rw [upd_ne hb]; exact q) (fun j u hj ej ou z => hj ((S.dj i j s u a e ej os ou es z).symm)) hme
  have es' : σ.set i (some (.ref a)) = σ := by
    apply List.ext_getElem?
    intro j
    by_cases q : i = j
    · subst q
      rw [List.getElem?_set_self (List.getElem?_eq_some_iff.mp es).1, es]
    · rw [List.getElem?_set_ne q]
  rw [es'] at S2
  exact S2
theorem ds_app (i : Nat) {x : Str} {pos' p3 p4 : Pos} (A : PD X W a fa) (hN : X.N[i]? = some x := by rfl) (hv : Vis X.env.scope x := by first | exact Or.inl rfl | exact Or.inr (Or.inl rfl) | exact Or.inr (Or.inr rfl)) (hd : (x == ("__debug__" : Str)) = false := by decide)
    (hcd : (x == ("__classdict__" : Str)) = false := by decide)
    (hs : starEach (a :: []) X.env = (false, eval a X.env) :: starEach [] X.env := by rfl) (hbase : attributeBase (.Name x pos') "append" X.env (eval (.Name x pos') X.env) = eval (.Name x pos') X.env := by rfl)
    (hfew : ((backTo p4 (starEach [a] X.env)).all (fun x => !x.1) && (backToKw p4 (keywordEach [] X.env)).all (fun x => x.1.isSome)
      && decide (([a] : List Expr).length + ([] : List Keyword).length + (if ([] : List Keyword).isEmpty then 0 else 1) < 30)) = true := by rfl)
    (hline : (p3.endLine == p4.line) = true := by rfl) (hsw : swapsWith (.Call (.Attribute (.Name x pos') "append" p3) [a] [] p4) none pos.line X.env = pure false := by rfl) :
    PSD X W (.Expr (.Call (.Attribute (.Name x pos') "append" p3) [a] [] p4) pos) (sApp i fa) := by
  obtain ⟨ta, pa, ha⟩ := A.ex
  have pv' : PE X (.Name x pos') (tVar i) := L2.pv i hN hv hd hcd
  refine ⟨_, ps_expr (pe_bm PySem.F.plainAttrs_list PySem.F.slot_list_append PySem.F.type_list_append mt_append pv' (pa_cons pa pa_nil hs) hbase hfew hline hs) hsw, fun {B0 G H δ σ D} S h => ?_⟩
  unfold sApp at h
  split at h
  · rename_i ds e
    obtain ⟨p, es, h0, hg, vs, hp, r⟩ := S.own e rfl
    refine ⟨_, es, .inl ⟨rfl, _, SqL.of hp⟩, ha S (SRq.of S h fun d ed v H1 G1 t1 r1 h1 => ?_)⟩
    cases c : Nat.blt ds.length 16777216 with
    | false => rw [c] at h1; exact h1.elim
    | true =>
      rw [c, if_pos rfl] at h1
      have S1 := S.step t1
      have hp1 := t1.sm _ _ hp
      have hg1 : G1 p = none := by rw [t1.nw p (by rw [hp]; simp)]; exact hg
      refine ⟨p, vs, v, rfl, rfl, hp1, ?_, ?_⟩
      · rw [r.length, sizeLine_eq]; exact Nat.le_of_ble_eq_true c
      · exact h1 _ _ _ (Same.refl _) (own_upd S1 e rfl es h0 hg1 rfl (fun _ _ z => nomatch z) ⟨vs ++ [v], upd_same, (r.mono t1.gg).append (.cons r1 .nil)⟩)
  · exact h.elim
/-- xs[k] where xs is the def's own list -/
def xIxO (i : Nat) (f : Ev → R DV) : Ev → R DV := fun δ => match δ[i]? with
  | some (.ol ds) => (f δ).bind fun k => oIx (.lst ds) k
  | _ => .bad
theorem d_ixO (i : Nat) {x : Str} {pos' : Pos} (A : PD X W a fa) (hN : X.N[i]? = some x := by rfl) (hv : Vis X.env.scope x := by first | exact Or.inl rfl | exact Or.inr (Or.inl rfl) | exact Or.inr (Or.inr rfl)) (hd : (x == ("__debug__" : Str)) = false := by decide)
    (hcd : (x == ("__classdict__" : Str)) = false := by decide) (hs : PlainIx a := by exact fun _ _ => rfl) : PD X W (.Subscript (.Name x pos') a pos) (xIxO i fa) := by
  obtain ⟨ta, pa, ha⟩ := A.ex
  have pv' : PE X (.Name x pos') (tVar i) := L2.pv i hN hv hd hcd
  refine ⟨_, pe_ix ix_list pv' pa hs, fun {B0 G H δ σ Q} S h => ?_⟩
  unfold xIxO at h
  split at h
  · rename_i ds e
    obtain ⟨p, es, h0, hg, vs, hp, r⟩ := S.own e rfl
    refine ⟨_, es, ha S (Rq.bind (rep := DRep X.K) h fun k ek v H1 G1 t1 r1 h1 => ?_)⟩
    cases r1 with
    | int j =>
      cases q : atI ds j with
      | none => rw [show oIx (.lst ds) (.int j) = R.ofO (atI ds j) from rfl, q] at h1; exact h1.elim
      | some d =>
        rw [show oIx (.lst ds) (.int j) = R.ofO (atI ds j) from rfl, q] at h1
        obtain ⟨w, hw, pw⟩ := atI_rep (r.mono t1.gg) q
        exact ⟨_, _, j, w, rfl, rfl, SqL.of (t1.sm _ _ hp), hw, Rq.ok_self (rep := DRep X.K) t1.gh h1 pw⟩
    | _ => exact h1.elim
  · exact h.elim
end
end LD

set_option maxHeartbeats 2000000
/-! Layer D, part E: defs, calls, instances, comprehensions. -/
namespace LD
open PySem PySem.Spec PyProof.Rows L2

/-! ### a def's mirror -/
abbrev Mir := List DV → R DV
def mir (n p : Nat) (F : Ev → SR) : Mir := fun ds => if Nat.beq ds.length p then (match F (ds.map Sl.pu ++ List.replicate (n - p) Sl.un) with
  | .nx _ => .ok .non
  | .rt d => .ok d
  | .ex c fs _ => .exc c fs
  | _ => .bad) else .bad
def spD (K : PySem.W.Frag) (m : Mir) : Sp := fun vs H Q E => ∃ G ds, Same G H ∧ DReps K G vs ds ∧ Rq K (DRep K) (fun c d H' => E c d H') G H (m ds) Q

section
variable {P : Program} {w : World} {K : PySem.W.Frag} {mg : Str → Option Value} {base : Heap}
theorem sok_args {G H : Hp} {vs : List V} {ds : List DV} {k m : Nat} (s : Same G H) (r : DReps K G vs ds) (hm : m = k) : SOk K ⟨H, G, none⟩ G H (ds.map Sl.pu ++ List.replicate k Sl.un) (vs.map some ++ List.replicate m none) := by
  subst hm
  have hl := r.length
  refine ⟨Tr.refl s, by simp [hl], fun i sl e => ?_, fun i j a b c e1 e2 o1 o2 => ?_, fun i c fs e => ?_⟩
  · by_cases hi : i < ds.length
    · rw [List.getElem?_append_left (by simpa using hi), List.getElem?_map] at e
      rw [List.getElem?_append_left (by simpa [hl] using hi), List.getElem?_map]
      cases q : ds[i]? with
      | none => rw [q] at e; cases e
      | some d =>
        rw [q] at e
        cases e
        obtain ⟨v, hv, p⟩ := r.get q
        rw [hv]
        exact ⟨v, rfl, p⟩
    · rw [List.getElem?_append_right (by simpa using Nat.le_of_not_lt hi), List.getElem?_replicate] at e
      split at e
      · cases e; trivial
      · cases e
  · have no : ∀ {i : Nat} {a : Sl}, (ds.map Sl.pu ++ List.replicate m Sl.un)[i]? = some a → isOwn a = false := fun {i a} e => by
      have h := List.mem_of_getElem? e
      rcases List.mem_append.mp h with h | h
      · obtain ⟨d, _, rfl⟩ := List.mem_map.mp h; rfl
      · rw [(List.mem_replicate.mp h).2]; rfl
    rw [no e1] at o1
    cases o1
  · have h := List.mem_of_getElem? e
    rcases List.mem_append.mp h with h | h
    · obtain ⟨d, _, z⟩ := List.mem_map.mp h; cases z
    · cases (List.mem_replicate.mp h).2
/-- THE RULE for a def: its body's functional reading -/
theorem fn_d {x qual : Str} {params : Arguments} {body : List Stmt} {scope : Scope} {dvs : List V} {kws : List (Str × V)} {f : Addr} {fd : FuncData} {N ps : List Str} {k : Nat} {F : Ev → SR}
    (D : FunD K x qual params body scope dvs kws f fd) (S : FnScope N ps scope) (hle : ps.length ≤ N.length)
    (hbody : ∀ (cdv : Value) (A : Around) (outer : List Env) (s : Shared) (H : Hp) (E : XK), Room k (A.deeper (envOfC qual scope s.heap.objs.size f cdv)) →
      PSSD (cxOf (L2.CX P w) P w K mg base N qual scope f cdv A outer s H E) (fun cls d _ H' => E cls d H') body F) : FnOk P w K mg base (L2.CX P w) (k + 1) f fd ps (spD K (mir N.length ps.length F)) := by
  have key : ∀ {G H : Hp} {ds : List DV} {Q : VK} {E : XK}, Rq K (DRep K) (fun c d H' => E c d H') G H (mir N.length ps.length F ds) Q → ds.length = ps.length := fun {G H ds Q E} h => by
    unfold mir at h
    cases c : Nat.beq ds.length ps.length with
    | true => exact Nat.eq_of_beq_eq_true c
    | false => rw [c] at h; exact h.elim
  refine D.ok S (fun vs H Q E h => ?_) fun cdv A outer s H vs Q E hr h => ?_
  · obtain ⟨G, ds, s, r, h⟩ := h
    rw [r.length]
    exact key h
  · obtain ⟨G, ds, s1, r, h⟩ := h
    have hl := key h
    obtain ⟨t, pt, ht⟩ := (hbody cdv A outer s H E hr).ex
    refine ⟨t, pt, ht (B := ⟨H, G, none⟩) (sok_args (k := N.length - ps.length) s1 r (by rw [r.length, hl])) ?_⟩
    unfold mir at h
    rw [show Nat.beq ds.length ps.length = true from (by rw [hl]; exact Nat.beq_refl _)] at h
    rw [if_pos rfl] at h
    cases q : F (ds.map Sl.pu ++ List.replicate (N.length - ps.length) Sl.un) with
    | nx δ => rw [q] at h; exact fun σ H' G' g S' => h .non H' G' S'.tr .non
    | rt d => rw [q] at h; exact fun v H' G' t p => h v H' G' t p
    | ex c fs δ => rw [q] at h; exact fun σ H' G' dx g S' x => h H' G' dx S'.tr x
    | bk δ => rw [q] at h; exact h.elim
    | ct δ => rw [q] at h; exact h.elim
    | bad => rw [q] at h; exact h.elim
/-- another mirror that is alike where it says something -/
theorem fn_as {f : Addr} {fd : FuncData} {ps : List Str} {k : Nat} {m m' : Mir} (F : FnOk P w K mg base (L2.CX P w) k f fd ps (spD K m)) (h : ∀ ds, m' ds ≠ .bad → m ds = m' ds) : FnOk P w K mg base (L2.CX P w) k f fd ps (spD K m') :=
  F.imp fun vs H Q E ⟨G, ds, s, r, q⟩ => ⟨G, ds, s, r, by
    have n : m' ds ≠ .bad := fun z => by rw [z] at q; exact q
    rw [h ds n]; exact q⟩
end

/-! ### calls of defs -/
def xCall (m : Mir) (fes : Ev → R (List DV)) : Ev → R DV := fun δ => (fes δ).bind m
section
variable {X : Cx} {W : WX} {a b c o : Expr} {es : List Expr} {fa fb fc : Ev → R DV} {fes : Ev → R (List DV)} {ga gb : Ev → R Bool} {pos : Pos} {k : Nat} {f C : Addr} {fd : FuncData} {ps : List Str} {m : Mir} {x : Str} {p : Pos}
theorem d_call (tk : Takes X W) (F : FnOk X.prog X.w X.K X.mg X.base (L2.CX X.prog X.w) k f fd ps (spD X.K m)) (hr : Room k X.A) (hm : X.mg x = some (.ref f)) (hk : PySem.W.keepIn X.K (.ref f) = true) (hb : Binds X.K fd ps []) (A : PDA X W (a :: es) fes) (hg : Gl X x := by rfl)
    (hdb : (x == ("__debug__" : Str)) = false := by decide) (he : starEach (a :: es) X.env = (false, eval a X.env) :: starEach es X.env := by rfl) (hpl : (backTo pos (starEach es X.env)).any (·.1) = false := by rfl) : PD X W (.Call (.Name x p) (a :: es) [] pos) (xCall m fes) := by
  obtain ⟨ta, pa, ha⟩ := A.ex
  refine ⟨_, pe_callS (E := WE W) F hr hg hm hk hb (fun σ => passAt tk σ) pa hdb he hpl, fun {B0 G H δ σ Q} S h => ?_⟩
  exact ha S (Rq.bind (rep := DReps X.K) h fun ds e vs H1 G1 t1 r1 h1 => ⟨G1, ds, t1.gh, r1, h1⟩)
theorem d_call0 (tk : Takes X W) (F : FnOk X.prog X.w X.K X.mg X.base (L2.CX X.prog X.w) k f fd ps (spD X.K m)) (hr : Room k X.A) (hm : X.mg x = some (.ref f)) (hk : PySem.W.keepIn X.K (.ref f) = true) (hb : Binds X.K fd ps []) (hg : Gl X x := by rfl)
    (hdb : (x == ("__debug__" : Str)) = false := by decide) : PD X W (.Call (.Name x p) [] [] pos) (fun _ => m []) := by
  refine ⟨fun σ H Q => spD X.K m [] H Q (WE W σ), ⟨fun pins s σ H Q I h => ?_⟩, fun {B0 G H δ σ Q} S h => ⟨G, [], S.gh, .nil, h⟩⟩
  refine wpAny_Call_Name_kw (ld_glob I hg hm ?_ hdb)
  exact PySem.W.callWith_K0 I.kIn hk (run_fnS (us := []) F hr hb (passAt tk σ) I .nil h)

/-! ### instances -/
/-- a class's facts -/
structure KC (K : PySem.W.Frag) (c : Str) : Prop where
  cl : Cls K (He.ga K c)
  ha : PySem.W.findIn K (.ref (He.ga K c)) "__class__" = some (some (.builtin "object.__class__"))
  hn : PySem.W.specialIn K (.builtin "object.__class__") "__get__" = some (some (.builtin "getset_descriptor.__get__"))
  htk : PySem.W.takesIn K (.builtin "object.__class__") = some true
  hm : PySem.W.mroIn K (He.ga K c) (.type "object") = some true
def xFld (cs : List Str) (f : Str) (fa : Ev → R DV) : Ev → R DV := fun δ => (fa δ).bind fun d => match d with
  | .obj c fs => if cs.contains c then R.ofO (fs.lookup f) else .bad
  | _ => .bad
theorem d_fld {cs : List Str} {f : Str} (A : PD X W a fa) (hf : ∀ c ∈ cs, KC X.K c ∧ NoAttr X.K (He.ga X.K c) f) (hb : attributeBase a f X.env (eval a X.env) = eval a X.env := by rfl) : PD X W (.Attribute a f pos) (xFld cs f fa) := by
  obtain ⟨ta, pa, ha⟩ := A.ex
  refine ⟨_, pe_fld pa hb, fun {B0 G H δ σ Q} S h => ?_⟩
  refine ha S (Rq.bind (rep := DRep X.K) h fun d e v H1 G1 t1 r1 h1 => ?_)
  cases r1 with
  | obj e1 r =>
    rename_i a1 dx c vs fs
    have h2 : Rq X.K (DRep X.K) (fun c d H' => W c d σ H') G1 H1 (if cs.contains c = true then R.ofO (fs.lookup f) else .bad) Q := h1
    obtain ⟨hc, h1⟩ : cs.contains c = true ∧ Rq X.K (DRep X.K) (fun c d H' => W c d σ H') G1 H1 (R.ofO (fs.lookup f)) Q := by
      by_cases q : cs.contains c = true
      · rw [if_pos q] at h2; exact ⟨q, h2⟩
      · rw [if_neg q] at h2; exact h2.elim
    obtain ⟨k1, k2⟩ := hf c (by simpa using hc)
    cases q : fs.lookup f with
    | none => rw [q] at h1; exact h1.elim
    | some d =>
      rw [q] at h1
      obtain ⟨y, hy, py⟩ := r.lookup q
      exact ⟨_, _, _, _, y, rfl, t1.gh _ _ e1, k1.cl, k2, hy, Rq.ok_self (rep := DRep X.K) t1.gh h1 py⟩
  | _ => exact h1.elim
/-- e.NAME, a constant of the class -/
def xCon (tab : List (Str × DV)) (f : Str) (fa : Ev → R DV) : Ev → R DV := fun δ => (fa δ).bind fun d => match d with
  | .obj c fs => (match fs.lookup f with
    | some _ => .bad
    | none => R.ofO (tab.lookup c))
  | _ => .bad
theorem d_con {tab : List (Str × DV)} {f : Str} (A : PD X W a fa) (hf : ∀ c d, tab.lookup c = some d → KC X.K c ∧ ∃ v u, Con X.K (He.ga X.K c) f v u ∧ ∀ G, DRep X.K G v d) (hb : attributeBase a f X.env (eval a X.env) = eval a X.env := by rfl) : PD X W (.Attribute a f pos) (xCon tab f fa) := by
  obtain ⟨ta, pa, ha⟩ := A.ex
  refine ⟨_, pe_con pa hb, fun {B0 G H δ σ Q} S h => ?_⟩
  refine ha S (Rq.bind (rep := DRep X.K) h fun d e v H1 G1 t1 r1 h1 => ?_)
  cases r1 with
  | obj e1 r =>
    rename_i a1 dx c vs fs
    have h2 : Rq X.K (DRep X.K) (fun c d H' => W c d σ H') G1 H1 (match fs.lookup f with
      | some _ => .bad
      | none => R.ofO (tab.lookup c)) Q := h1
    cases q : fs.lookup f with
    | some _ => rw [q] at h2; exact h2.elim
    | none =>
      rw [q] at h2
      dsimp only at h2
      cases q2 : tab.lookup c with
      | none => rw [q2] at h2; exact h2.elim
      | some d =>
        rw [q2] at h2
        obtain ⟨k1, y, u, k2, py⟩ := hf c d q2
        exact ⟨_, _, _, _, y, u, rfl, t1.gh _ _ e1, k1.cl, k2, r.none q, Rq.ok_self (rep := DRep X.K) t1.gh h2 (py _)⟩
  | _ => exact h1.elim
/-- e.NAME, a property of the class c -/
def xProp (c : Str) (m : Mir) (fa : Ev → R DV) : Ev → R DV := fun δ => (fa δ).bind fun d => match d with
  | .obj c' fs => if c' = c then m [.obj c' fs] else .bad
  | _ => .bad
theorem d_prop {cn f : Str} {pp g : Addr} (kc : KC X.K cn) (hp : PropOf X.K (He.ga X.K cn) f pp g) (F : FnOk X.prog X.w X.K X.mg X.base (L2.CX X.prog X.w) k g fd ps (spD X.K m)) (hr : Room (k + 1) X.A) (hb : Binds X.K fd ps []) (hnx : ∀ ds c fs, m ds ≠ .exc c fs)
    (A : PD X W a fa) (hab : attributeBase a f X.env (eval a X.env) = eval a X.env := by rfl) : PD X W (.Attribute a f pos) (xProp cn m fa) := by
  obtain ⟨ta, pa, ha⟩ := A.ex
  refine ⟨_, pe_prop (CX := L2.CX X.prog X.w) (E := E0) (dvs := []) pa kc.cl hp F hr hb .nil (passL (X := X.nox)) hab, fun {B0 G H δ σ Q} S h => ?_⟩
  refine ha S (Rq.bind (rep := DRep X.K) h fun d e v H1 G1 t1 r1 h1 => ?_)
  cases r1 with
  | obj e1 r =>
    rename_i a1 dx c vs fs
    have h2 : Rq X.K (DRep X.K) (fun c d H' => W c d σ H') G1 H1 (if c = cn then m [.obj c fs] else .bad) Q := h1
    by_cases q : c = cn
    · rw [if_pos q] at h2
      subst q
      refine ⟨_, _, _, rfl, t1.gh _ _ e1, G1, [.obj c fs], t1.gh, .cons (.obj e1 r) .nil, ?_⟩
      cases q2 : m [.obj c fs] with
      | ok d => rw [q2] at h2; exact h2
      | exc c' fs' => exact absurd q2 (hnx _ _ _)
      | bad => rw [q2] at h2; exact h2
    · rw [if_neg q] at h2; exact h2.elim
  | _ => exact h1.elim
/-- o.m(e, ..), a method of the class c -/
def xMeth (c mn : Str) (m : Mir) (fo : Ev → R DV) (fes : Ev → R (List DV)) : Ev → R DV := fun δ => (fo δ).bind fun d => match d with
  | .obj c' fs => if c' = c then (match fs.lookup mn with
    | none => (fes δ).bind fun ds => m (.obj c' fs :: ds)
    | some _ => .bad) else .bad
  | _ => .bad
def tMethS (C : Addr) (m : Str) (sp : Sp) (E : L2.St → XK) (ta : TE) (t : TA) : TE := fun σ H Q => ta σ H fun x H1 => ∃ a dx fs, x = .ref a ∧ H1 a = some (.ins C dx fs) ∧ fs.lookup m = none ∧ t σ H1 fun vs H2 => sp (x :: vs) H2 Q (E σ)
theorem d_meth {cn mn : Str} {apos : Pos} {pl : Sem Bool} (tk : Takes X W) (kc : KC X.K cn) (hm : Meth X.K (He.ga X.K cn) mn f) (F : FnOk X.prog X.w X.K X.mg X.base (L2.CX X.prog X.w) k f fd ps (spD X.K m)) (hr : Room k X.A) (hb : Binds X.K fd ps [])
    (O : PD X W o fa) (A : PDA X W (a :: es) fes) (hst : starEach (a :: es) X.env = (false, eval a X.env) :: starEach es X.env := by rfl) (hpl : (backTo pos (starEach es X.env)).any (·.1) = false := by rfl)
    (ht : eval (.Call (.Attribute o mn apos) (a :: es) [] pos) X.env = (do
      let ov ← eval o X.env
      standAt apos.atName
      let (f, first) ← holding [ov] (getMethod ov mn pl)
      callWith pos f first (backTo pos (starEach (a :: es) X.env)) (backToKw pos (keywordEach [] X.env))) := by rfl) : PD X W (.Call (.Attribute o mn apos) (a :: es) [] pos) (xMeth cn mn m fa fes) := by
  obtain ⟨to, po, ho⟩ := O.ex
  obtain ⟨ta, pa, ha⟩ := A.ex
  refine ⟨tMethS (He.ga X.K cn) mn (spD X.K m) (WE W) to ta, ⟨fun pins s σ H Q I h => ?_⟩, fun {B0 G H δ σ Q} S h => ?_⟩
  · refine PySem.W.methodCall_KW (pl := pl) (thn (po.run pins s σ H _ I h) fun u s1 ⟨x, H1, I1, rx, a, dx, fs, ex, ea, l, q⟩ => ?_) ht
    subst ex
    obtain rfl : u = Value.ref a := rx
    refine getmeth_ok I1 ea kc.cl hm l ?_
    refine PySem.W.callWith_K (first := [.ref a]) (h₀ := X.base) I.ok.mod.kin hm.kp (thn (pa.run pos pins s1 σ H1 _ I1 q) fun us s2 ⟨vs, H2, I2, r, q2⟩ => ⟨I2.kIn, ?_⟩) hst hpl
    exact run_fnS (us := .ref a :: us) (vs := .ref a :: vs) F hr hb (passAt tk σ) I2 (.cons rfl r) q2
  · refine ho S (Rq.bind (rep := DRep X.K) h fun d e v H1 G1 t1 r1 h1 => ?_)
    cases r1 with
    | obj e1 r =>
      rename_i a1 dx c vs fs
      have h2 : Rq X.K (DRep X.K) (fun c d H' => W c d σ H') G1 H1 (if c = cn then (match fs.lookup mn with
        | none => (fes δ).bind fun ds => m (.obj c fs :: ds)
        | some _ => .bad) else .bad) Q := h1
      by_cases q : c = cn
      · rw [if_pos q] at h2
        subst q
        cases q2 : fs.lookup mn with
        | some _ => rw [q2] at h2; exact h2.elim
        | none =>
          rw [q2] at h2
          refine ⟨a1, dx, vs, rfl, t1.gh _ _ e1, r.none q2, ?_⟩
          refine ha (S.step t1) (Rq.bind (rep := DReps X.K) h2 fun ds ed ws H2 G2 t2 r2 h3 => ?_)
          exact ⟨G2, .obj c fs :: ds, t2.gh, .cons (.obj (t2.gg _ _ e1) (r.mono t2.gg)) r2, h3⟩
      · rw [if_neg q] at h2; exact h2.elim
    | _ => exact h1.elim
theorem d_meth0 {cn mn : Str} {apos : Pos} {pl : Sem Bool} (tk : Takes X W) (kc : KC X.K cn) (hm : Meth X.K (He.ga X.K cn) mn f) (F : FnOk X.prog X.w X.K X.mg X.base (L2.CX X.prog X.w) k f fd ps (spD X.K m)) (hr : Room k X.A) (hb : Binds X.K fd ps [])
    (O : PD X W o fa)
    (ht : eval (.Call (.Attribute o mn apos) [] [] pos) X.env = (do
      let ov ← eval o X.env
      standAt apos.atName
      let (f, first) ← holding [ov] (getMethod ov mn pl)
      callWith pos f first (backTo pos (starEach [] X.env)) (backToKw pos (keywordEach [] X.env))) := by rfl) : PD X W (.Call (.Attribute o mn apos) [] [] pos) (xMeth cn mn m fa xNil) := by
  obtain ⟨to, po, ho⟩ := O.ex
  refine ⟨tMethS (He.ga X.K cn) mn (spD X.K m) (WE W) to tNil, ⟨fun pins s σ H Q I h => ?_⟩, fun {B0 G H δ σ Q} S h => ?_⟩
  · refine PySem.W.methodCall_KW (pl := pl) (thn (po.run pins s σ H _ I h) fun u s1 ⟨x, H1, I1, rx, a, dx, fs, ex, ea, l, q⟩ => ?_) ht
    subst ex
    obtain rfl : u = Value.ref a := rx
    refine getmeth_ok I1 ea kc.cl hm l ?_
    exact PySem.W.callWith_K0 (first := [.ref a]) I1.kIn hm.kp (run_fnS (us := [.ref a]) (vs := [.ref a]) F hr hb (passAt tk σ) I1 (.cons rfl .nil) q)
  · refine ho S (Rq.bind (rep := DRep X.K) h fun d e v H1 G1 t1 r1 h1 => ?_)
    cases r1 with
    | obj e1 r =>
      rename_i a1 dx c vs fs
      have h2 : Rq X.K (DRep X.K) (fun c d H' => W c d σ H') G1 H1 (if c = cn then (match fs.lookup mn with
        | none => (xNil δ).bind fun ds => m (.obj c fs :: ds)
        | some _ => .bad) else .bad) Q := h1
      by_cases q : c = cn
      · rw [if_pos q] at h2
        subst q
        cases q2 : fs.lookup mn with
        | some _ => rw [q2] at h2; exact h2.elim
        | none =>
          rw [q2] at h2
          exact ⟨a1, dx, vs, rfl, t1.gh _ _ e1, r.none q2, G1, [.obj c fs], t1.gh, .cons (.obj e1 r) .nil, h2⟩
      · rw [if_neg q] at h2; exact h2.elim
    | _ => exact h1.elim

/-! ### __init__ -/
/-- an __init__'s mirror: the class, the attributes so far, the arguments -> the attributes -/
abbrev Imi := Str → List (Str × DV) → List DV → R (List (Str × DV))
def dl (H : Hp) (a : Addr) : Hp := fun b => if b = a then none else H b
theorem dl_same {H : Hp} {a : Addr} : dl H a a = none := if_pos rfl
theorem dl_ne {H : Hp} {a b : Addr} (h : b ≠ a) : dl H a b = H b := if_neg h
theorem dl_sub {H : Hp} {a : Addr} : Same (dl H a) H := fun b o e => by
  by_cases q : b = a
  · rw [q, dl_same] at e; cases e
  · rw [dl_ne q] at e; exact e
theorem dl_of {G H : Hp} {a : Addr} (s : Same G H) (h : G a = none) : Same G (dl H a) := fun b o e => by
  rw [dl_ne (fun z => by rw [z, h] at e; cases e)]; exact s b o e
def RqI (K : PySem.W.Frag) (E : XK) (G H : Hp) (p : Addr) (c : Str) (r : R (List (Str × DV))) (Q : VK) : Prop := match r with
  | .ok fs => ∀ H' G' dx ws, Tr G (dl H p) G' H' → G' p = none → H' p = some (.ins (He.ga K c) dx ws) → FReps K G' ws fs → Q .non H'
  | .exc cn xs => ∀ H' G' d, Tr G (dl H p) G' H' → XRep K G' H' d xs → E (.ref (He.ga K cn)) d H'
  | .bad => False
def spI (K : PySem.W.Frag) (n : Nat) (mi : Imi) : Sp := fun vs H Q E => ∃ p dx c ws fs G vs' ds, vs = .ref p :: vs' ∧ vs'.length = n ∧ H p = some (.ins (He.ga K c) dx ws) ∧ G p = none ∧ Same G H ∧ FReps K G ws fs ∧ DReps K G vs' ds ∧ RqI K E G H p c (mi c fs ds) Q

/-- the callee of C(..), what is raised is wished for at the caller's slots -/
theorem run_makeS {ds : List Value} {sp : Sp} {E : L2.St → XK} {pins : List (Addr × Obj)} {σ : L2.St} {H : Hp} {s : Shared} {Q : VK} {us : List Value} {vs : List V} (M : Mk X.K C f) (F : FnOk X.prog X.w X.K X.mg X.base (L2.CX X.prog X.w) k f fd ps sp) (hr : Room (k + 1) X.A) (hb : Binds X.K fd ps [])
    (hx : PassesAt (L2.CX X.prog X.w) X σ (E σ)) (I : Inv X pins σ H s) (r : Vals vs us)
    (h : ∀ x dx, H x = none → H dx = none → dx ≠ x → sp (.ref x :: vs) (upd (upd H dx (.own x)) x (.ins C dx [])) (fun v H2 => v = .non ∧ Q (.ref x) H2) (E σ)) :
    wpAny (model X.prog X.w) X.A (call (.ref C) us) (EP X pins σ Q) X.xe s := by
  have hq := h (s.heap.objs.size + 1) s.heap.objs.size (I.hok.fresh (Nat.le_succ _)) (I.hok.fresh (Nat.le_refl _)) (Nat.ne_of_lt (Nat.lt_succ_self _))
  have I2 := Inv.made (C := C) I
  have r2 : Vals (V.ref (s.heap.objs.size + 1) :: vs) (Value.ref (s.heap.objs.size + 1) :: us) := .cons rfl r
  have hl : (Value.ref (s.heap.objs.size + 1) :: us ++ []).length = ps.length := by
    have e := r2.length
    rw [F.len _ _ _ _ hq] at e
    rw [List.append_nil]
    exact e.symm
  refine wpAny_call (make_map (f := f) I.kIn M.makes M.init (beq_iff_eq.mp M.fn) (codeAny_mono (F.run _ X.stack _ _ ⟨Value.ref (s.heap.objs.size + 1) :: us, []⟩ (Value.ref (s.heap.objs.size + 1) :: us) _ _ (E σ) (hr.make C us [])
    (I2.env0.make C us []) (by have z := hb _ (Value.ref (s.heap.objs.size + 1) :: us) I2.kIn hl; rw [List.append_nil] at z; exact z) r2 hq) fun r s' hq' => ?_))
  cases r with
  | error e => exact hx pins _ _ e s' I2 hq'
  | ok fl =>
    cases fl with
    | ret u =>
      obtain ⟨v, H', I3, rv, ev, q3⟩ := I2.after hq'
      subst ev
      exact ⟨rv, ⟨V.ref (s.heap.objs.size + 1), H', I3, rfl, q3⟩⟩
    | next => exact False.elim hq'
    | brk => exact False.elim hq'
    | cont => exact False.elim hq'
def xMake (c : Str) (n : Nat) (mi : Imi) (fes : Ev → R (List DV)) : Ev → R DV := fun δ => (fes δ).bind fun ds => if Nat.beq ds.length n then (mi c [] ds).bind fun fs => .ok (.obj c fs) else .bad
theorem made_req {K : PySem.W.Frag} {W : XK} {G H : Hp} {vs : List V} {ds : List DV} {n : Nat} {mi : Imi} {cn : Str} {Q : VK} (s : Same G H) (r : DReps K G vs ds) (h : Rq K (DRep K) (fun c d H' => W c d H') G H (if Nat.beq ds.length n = true then (mi cn [] ds).bind fun fs => .ok (.obj cn fs) else .bad) Q)
    (x dx : Addr) (hx : H x = none) (hd : H dx = none) (ne : dx ≠ x) : spI K n mi (.ref x :: vs) (upd (upd H dx (.own x)) x (.ins (He.ga K cn) dx [])) (fun v H2 => v = .non ∧ Q (.ref x) H2) W := by
  cases c : Nat.beq ds.length n with
  | false => rw [c] at h; exact h.elim
  | true =>
    rw [c, if_pos rfl] at h
    have hx2 : (upd H dx (.own x)) x = none := by rw [upd_ne (Ne.symm ne)]; exact hx
    have s2 : Same H (upd (upd H dx (.own x)) x (.ins (He.ga K cn) dx [])) := (Same.upd hd).trans (Same.upd hx2)
    have hgx : G x = none := s.none hx
    refine ⟨x, dx, cn, [], [], G, vs, ds, rfl, by rw [r.length]; exact Nat.eq_of_beq_eq_true c, upd_same, hgx, s.trans s2, .nil, r, ?_⟩
    have s3 : Same H (dl (upd (upd H dx (.own x)) x (.ins (He.ga K cn) dx [])) x) := fun b o e => by
      rw [dl_ne (fun z => by rw [z, hx] at e; cases e)]; exact s2 b o e
    have t0 : Tr G H G (dl (upd (upd H dx (.own x)) x (.ins (He.ga K cn) dx [])) x) := ⟨s3, Same.refl _, s.trans s3, fun _ _ => rfl⟩
    cases q : mi cn [] ds with
    | ok fs =>
      rw [q] at h
      intro H' G' dx' ws t hg' e' rf
      have t1 := t0.trans t
      refine ⟨rfl, h (.ref x) H' (upd G' x (.ins (He.ga K cn) dx' ws)) ⟨t1.sm, t1.gg.trans (Same.upd hg'), fun b o e => ?_, fun b hb => ?_⟩ (.obj upd_same (rf.mono (Same.upd hg')))⟩
      · by_cases z : b = x
        · subst z; rw [upd_same] at e; rw [← e]; exact e'
        · rw [upd_ne z] at e; exact t1.gh b o e
      · rw [upd_ne (fun z => hb (by rw [z]; exact hx))]; exact t1.nw b hb
    | exc cl xs => rw [q] at h; exact fun H' G' d t xr => h H' G' d (t0.trans t) xr
    | bad => rw [q] at h; exact h.elim
theorem d_make {cn : Str} {n : Nat} {mi : Imi} (tk : Takes X W) (M : Mk X.K (He.ga X.K cn) f) (F : FnOk X.prog X.w X.K X.mg X.base (L2.CX X.prog X.w) k f fd ps (spI X.K n mi)) (hr : Room (k + 1) X.A) (hm : X.mg cn = some (.ref (He.ga X.K cn))) (hb : Binds X.K fd ps []) (A : PDA X W (a :: es) fes) (hg : Gl X cn := by rfl)
    (hdb : (cn == ("__debug__" : Str)) = false := by decide) (he : starEach (a :: es) X.env = (false, eval a X.env) :: starEach es X.env := by rfl) (hpl : (backTo pos (starEach es X.env)).any (·.1) = false := by rfl) : PD X W (.Call (.Name cn p) (a :: es) [] pos) (xMake cn n mi fes) := by
  obtain ⟨ta, pa, ha⟩ := A.ex
  refine ⟨fun σ H Q => ta σ H fun vs H1 => ∀ x dx, H1 x = none → H1 dx = none → dx ≠ x → spI X.K n mi (.ref x :: vs) (upd (upd H1 dx (.own x)) x (.ins (He.ga X.K cn) dx [])) (fun v H2 => v = .non ∧ Q (.ref x) H2) (WE W σ), ⟨fun pins s σ H Q I h => ?_⟩, fun {B0 G H δ σ Q} S h => ?_⟩
  · refine wpAny_Call_Name_kw (ld_glob I hg hm ?_ hdb)
    refine PySem.W.callWith_K (h₀ := X.base) I.ok.mod.kin M.kp (thn (pa.run pos pins s σ H _ I h) fun us s1 ⟨vs, H1, I1, r, q⟩ => ⟨I1.kIn, ?_⟩) he hpl
    exact run_makeS (ds := []) (E := WE W) M F hr hb (passAt tk σ) I1 r q
  · exact ha S (Rq.bind (rep := DReps X.K) h fun ds e vs H1 G1 t1 r1 h1 => made_req t1.gh r1 h1)

/-! ### the body of an __init__ -/
/-- self.f = e, self the instance that is being made (slot i) -/
def putD (f : Str) (d : DV) : List (Str × DV) → List (Str × DV)
  | [] => [(f, d)]
  | (g, y) :: r => if g = f then (f, d) :: r else (g, y) :: putD f d r
def sFldD (cs : List Str) (i : Nat) (f : Str) (fa : Ev → R DV) : Ev → SR := fun δ => xS (fa δ) δ fun d => match δ[i]? with
  | some (.oo c fs) => if cs.contains c && Nat.blt fs.length 1000 then .nx (δ.set i (.oo c (putD f d fs))) else .bad
  | _ => .bad
theorem FReps.put {K : PySem.W.Frag} {G : Hp} {f : Str} {v : V} {d : DV} (p : DRep K G v d) : ∀ {vs : List (Str × V)} {ds : List (Str × DV)}, FReps K G vs ds → FReps K G (putF f v vs) (putD f d ds)
  | _, _, .nil => .cons p .nil
  | _, _, .cons (k := g) (vs := vs) (ds := ds) r t => by
    by_cases q : g = f
    · show FReps K G (if g = f then _ else _) (if g = f then _ else _)
      rw [if_pos q, if_pos q]
      subst q
      exact .cons p t
    · show FReps K G (if g = f then _ else _) (if g = f then _ else _)
      rw [if_neg q, if_neg q]
      exact .cons r (FReps.put p t)
theorem ds_fld (i : Nat) {cs : List Str} {x f : Str} {p1 p2 : Pos} (A : PD X W a fa) (hf : ∀ c ∈ cs, KC X.K c ∧ NoAttr X.K (He.ga X.K c) f) (hN : X.N[i]? = some x := by rfl) (hv : Vis X.env.scope x := by first | exact Or.inl rfl | exact Or.inr (Or.inl rfl) | exact Or.inr (Or.inr rfl))
    (hd : (x == ("__debug__" : Str)) = false := by decide) (hcd : (x == ("__classdict__" : Str)) = false := by decide) (hs : swapsWith a (some (.Attribute (.Name x p1) f p2)) pos.line X.env = pure false := by rfl) : PSD X W (.Assign [.Attribute (.Name x p1) f p2] a pos) (sFldD cs i f fa) := by
  obtain ⟨ta, pa, ha⟩ := A.ex
  have pv' : PE X (.Name x p1) (tVar i) := L2.pv i hN hv hd hcd
  refine ⟨_, ps_fld pv' pa hs, fun {B0 G H δ σ D} S h => ?_⟩
  refine ha S (SRq.of S h fun d e v H1 G1 t1 r1 h1 => ?_)
  have S1 := S.step t1
  split at h1
  · rename_i c fs e1
    cases q : (cs.contains c && Nat.blt fs.length 1000) with
    | false => rw [q] at h1; exact h1.elim
    | true =>
      rw [q, if_pos rfl] at h1
      obtain ⟨q1, q2⟩ := Bool.and_eq_true_iff.mp q
      obtain ⟨k1, k2⟩ := hf c (by simpa using q1)
      obtain ⟨pp, es, h0, hg, dx, vs, hp, r⟩ := S1.own e1 rfl
      obtain ⟨p', hpa, es'⟩ := S1.me i c fs e1
      have ep : pp = p' := by
        rw [es] at es'
        injection es' with z; injection z with z; injection z
      subst ep
      refine ⟨_, es, pp, He.ga X.K c, dx, vs, rfl, hp, k1.cl, k2, by rw [r.length]; exact Nat.le_of_ble_eq_true q2, ?_⟩
      exact h1 _ _ _ (Same.refl _) (own_upd S1 e1 rfl es h0 hg rfl (fun _ _ z => hpa) ⟨dx, _, upd_same, r.put r1⟩)
  · exact h1.elim
end

/-! ### an __init__ as a def -/
def imi (n p : Nat) (F : Ev → SR) : Imi := fun c fs ds => if Nat.beq ds.length p then (match F (Sl.oo c fs :: (ds.map Sl.pu ++ List.replicate (n - (p + 1)) Sl.un)) with
  | .nx δ => (match (δ[0]? : Option Sl) with
    | some (Sl.oo c' fs') => if c' = c then .ok fs' else .bad
    | _ => .bad)
  | .ex c fs _ => .exc c fs
  | _ => .bad) else .bad
section
variable {P : Program} {w : World} {K : PySem.W.Frag} {mg : Str → Option Value} {base : Heap}
theorem sok_init {G H : Hp} {p dx : Addr} {c : Str} {ws : List (Str × V)} {fs : List (Str × DV)} {vs : List V} {ds : List DV} {k m : Nat} (s : Same G H) (hp : H p = some (.ins (He.ga K c) dx ws)) (hg : G p = none) (rf : FReps K G ws fs) (r : DReps K G vs ds) (hm : m = k) :
    SOk K ⟨dl H p, G, some p⟩ G H (Sl.oo c fs :: (ds.map Sl.pu ++ List.replicate k Sl.un)) (some (.ref p) :: (vs.map some ++ List.replicate m none)) := by
  have S := sok_args (K := K) s r hm
  refine ⟨⟨dl_sub, Same.refl _, s, fun _ _ => rfl⟩, by have := S.len; simp only [List.length_cons]; omega, fun i sl e => ?_, fun i j a b q e1 e2 o1 o2 h1 h2 => ?_, fun i c' fs' e => ?_⟩
  · cases i with
    | zero =>
      simp at e
      subst e
      exact ⟨p, rfl, dl_same, hg, dx, ws, hp, rf⟩
    | succ i =>
      have z := S.sl i sl (by simpa using e)
      cases sl with
      | un => trivial
      | pu d => simpa [SlOk] using z
      | ol _ => obtain ⟨a, _, h0, _⟩ := z.own rfl; have h := List.mem_of_getElem? (show (ds.map Sl.pu ++ List.replicate k Sl.un)[i]? = _ from by simpa using e); rcases List.mem_append.mp h with h | h; (obtain ⟨_, _, z⟩ := List.mem_map.mp h; cases z); (cases (List.mem_replicate.mp h).2)
      | oo _ _ => have h := List.mem_of_getElem? (show (ds.map Sl.pu ++ List.replicate k Sl.un)[i]? = _ from by simpa using e); rcases List.mem_append.mp h with h | h; (obtain ⟨_, _, z⟩ := List.mem_map.mp h; cases z); (cases (List.mem_replicate.mp h).2)
      | od _ => have h := List.mem_of_getElem? (show (ds.map Sl.pu ++ List.replicate k Sl.un)[i]? = _ from by simpa using e); rcases List.mem_append.mp h with h | h; (obtain ⟨_, _, z⟩ := List.mem_map.mp h; cases z); (cases (List.mem_replicate.mp h).2)
  · have no : ∀ {i : Nat} {a : Sl}, (Sl.oo c fs :: (ds.map Sl.pu ++ List.replicate k Sl.un))[i]? = some a → isOwn a = true → i = 0 := fun {i a} e o => by
      cases i with
      | zero => rfl
      | succ i =>
        have h := List.mem_of_getElem? (show (ds.map Sl.pu ++ List.replicate k Sl.un)[i]? = some a from by simpa using e)
        rcases List.mem_append.mp h with h | h
        · obtain ⟨d, _, rfl⟩ := List.mem_map.mp h; cases o
        · rw [(List.mem_replicate.mp h).2] at o; cases o
    rw [no e1 o1, no e2 o2]
  · cases i with
    | zero => exact ⟨p, rfl, rfl⟩
    | succ i =>
      have h := List.mem_of_getElem? (show (ds.map Sl.pu ++ List.replicate k Sl.un)[i]? = _ from by simpa using e)
      rcases List.mem_append.mp h with h | h
      · obtain ⟨d, _, z⟩ := List.mem_map.mp h; cases z
      · cases (List.mem_replicate.mp h).2
theorem fn_init {x qual : Str} {params : Arguments} {body : List Stmt} {scope : Scope} {dvs : List V} {kws : List (Str × V)} {f : Addr} {fd : FuncData} {N ps : List Str} {k n : Nat} {F : Ev → SR}
    (D : FunD K x qual params body scope dvs kws f fd) (S : FnScope N ps scope) (hn : ps.length = n + 1) (hle : ps.length ≤ N.length)
    (hbody : ∀ (cdv : Value) (A : Around) (outer : List Env) (s : Shared) (H : Hp) (E : XK), Room k (A.deeper (envOfC qual scope s.heap.objs.size f cdv)) →
      PSSD (cxOf (L2.CX P w) P w K mg base N qual scope f cdv A outer s H E) (fun cls d _ H' => E cls d H') body F) : FnOk P w K mg base (L2.CX P w) (k + 1) f fd ps (spI K n (imi N.length n F)) := by
  refine D.ok S (fun vs H Q E h => ?_) fun cdv A outer s H vs Q E hr h => ?_
  · obtain ⟨p, dx, c, ws, fs, G, vs', ds, rfl, hl, _⟩ := h
    rw [List.length_cons, hl, hn]
  · obtain ⟨p, dx, c, ws, fs, G, vs', ds, rfl, hl, hp, hg, s1, rf, r, h⟩ := h
    obtain ⟨t, pt, ht⟩ := (hbody cdv A outer s H E hr).ex
    refine ⟨t, pt, ?_⟩
    have S0 := sok_init (k := N.length - (n + 1)) (m := N.length - (n + 1)) s1 hp hg rf r rfl
    have es : L2.start N (.ref p :: vs') = some (.ref p) :: (vs'.map some ++ List.replicate (N.length - (n + 1)) none) := by
      unfold L2.start
      rw [List.length_cons, hl]
      rfl
    rw [es]
    refine ht S0 ?_
    unfold imi at h
    rw [show Nat.beq ds.length n = true from (by rw [← r.length, hl]; exact Nat.beq_refl _), if_pos rfl] at h
    cases q : F (Sl.oo c fs :: (ds.map Sl.pu ++ List.replicate (N.length - (n + 1)) Sl.un)) with
    | nx δ =>
      rw [q] at h
      dsimp only at h
      intro σ H' G' g S'
      cases q0 : δ[0]? with
      | none => rw [q0] at h; exact h.elim
      | some sl =>
        rw [q0] at h
        cases sl with
        | oo c' fs' =>
          by_cases qc : c' = c
          · subst qc
            have h2 : RqI K E G H p c' (.ok fs') Q := by
              have z : RqI K E G H p c' (if c' = c' then .ok fs' else .bad) Q := h
              rw [if_pos rfl] at z; exact z
            obtain ⟨pp, es2, h0, hg2, dx2, vs2, hp2, r2⟩ := S'.own q0 rfl
            obtain ⟨p', hpa, es3⟩ := S'.me 0 c' fs' q0
            have e1 : p = p' := Option.some.inj hpa
            have e2 : pp = p' := by
              rw [es2] at es3
              injection es3 with z; injection z with z; injection z
            subst e1 e2
            exact h2 H' G' dx2 vs2 S'.tr hg2 hp2 r2
          · have z : RqI K E G H p c (if c' = c then .ok fs' else .bad) Q := h
            rw [if_neg qc] at z; exact z.elim
        | _ => exact h.elim
    | rt d => rw [q] at h; exact h.elim
    | ex cn xs δ => rw [q] at h; exact fun σ H' G' dx' g S' x => h H' G' dx' S'.tr x
    | bk δ => rw [q] at h; exact h.elim
    | ct δ => rw [q] at h; exact h.elim
    | bad => rw [q] at h; exact h.elim
end
end LD

set_option maxHeartbeats 2000000
/-! Layer D, part F: isinstance, built-ins, comprehensions. -/
namespace LD
open PySem PySem.Spec PyProof.Rows L2

/-! ### types -/
inductive Tg where
  | ty (n : String)
  | own (c : Str)
  deriving DecidableEq
def DV.tg : DV → Tg
  | .non => .ty "NoneType"
  | .bl _ => .ty "bool"
  | .int _ => .ty "int"
  | .str _ => .ty "str"
  | .tup _ => .ty "tuple"
  | .lst _ => .ty "list"
  | .ro _ => .ty "list"
  | .dic _ => .ty "dict"
  | .dit _ => .ty "dict"
  | .obj c _ => .own c
def Tg.v (K : PySem.W.Frag) : Tg → Value
  | .ty n => .type n
  | .own c => .ref (He.ga K c)
def Tg.w (K : PySem.W.Frag) : Tg → V
  | .ty n => .ty n
  | .own c => .ref (He.ga K c)
theorem Tg.cls (K : PySem.W.Frag) : ∀ t : Tg, ClsV (t.w K) (t.v K)
  | .ty n => .ty n
  | .own c => .own _
def isiB (K : PySem.W.Frag) (tab : List (Tg × Bool)) (cs : List Tg) : Bool := tab.all fun p => decide (PySem.W.kitAny K (p.1.v K) (cs.map (Tg.v K)) = some p.2)
theorem look_mem {α β : Type} [BEq α] [LawfulBEq α] {a : α} {b : β} : ∀ {l : List (α × β)}, l.lookup a = some b → (a, b) ∈ l
  | (c, d) :: l, h => by
    rw [List.lookup_cons] at h
    cases q : a == c with
    | true => rw [q] at h; simp at h; rw [eq_of_beq q, h]; exact List.mem_cons_self
    | false => rw [q] at h; exact List.mem_cons_of_mem _ (look_mem h)
theorem isiB_ok {K : PySem.W.Frag} {tab : List (Tg × Bool)} {cs : List Tg} (h : isiB K tab cs = true) {t : Tg} {b : Bool} (e : tab.lookup t = some b) : PySem.W.kitAny K (t.v K) (cs.map (Tg.v K)) = some b :=
  of_decide_eq_true (List.all_eq_true.mp h (t, b) (look_mem e))
theorem kitAny_one {K : PySem.W.Frag} {t c : Value} {b : Bool} (h : PySem.W.kitAny K t [c] = some b) : PySem.W.kitOne K t c = some b := by
  unfold PySem.W.kitAny at h
  cases q : PySem.W.kitOne K t c with
  | none => rw [q] at h; cases h
  | some r =>
    rw [q] at h
    cases r with
    | true => exact h
    | false => exact h
section
variable {K : PySem.W.Frag}
theorem tyx {G H : Hp} {v : V} {d : DV} (s : Same G H) (r : DRep K G v d) (hk : ∀ c, d.tg = .own c → KC K c) : TyX K H v (d.tg.v K) := by
  cases r with
  | non => exact .base .non
  | bl b => exact .base (.bl b)
  | int i => exact .base (.int i)
  | str x => exact .base (.str x)
  | tup e _ => exact .base (.tup (s _ _ e))
  | lst e _ => exact .base (.lst (s _ _ e))
  | ro e _ =>
    have e := Same.seq s e
    rcases e with (e | ⟨o, e⟩) | ⟨o, its, n, e, c, _⟩
    · exact .base (.lst e)
    · exact .base (.frz e)
    · exact .kList e c
  | dic e _ => exact .base (.dK (s _ _ e))
  | dit e _ => exact .base (.dT (s _ _ e))
  | obj e _ =>
    have k := hk _ rfl
    exact .base (.ins (s _ _ e) k.cl k.ha k.hn k.htk k.hm)
end
def oIsi (tab : List (Tg × Bool)) : DV → R DV := fun d => match tab.lookup d.tg with
  | some b => .ok (.bl b)
  | none => .bad
/-- class expressions: a name of a built-in type, of an own class -/
structure PCl (X : Cx) (e : Expr) (t : Tg) : Prop where
  pe : PE X e (tC (t.w X.K))
section
variable {X : Cx} {W : WX} {a b : Expr} {es : List Expr} {fa fb : Ev → R DV} {fes : Ev → R (List DV)} {pos : Pos}
theorem cl_ty {x : Str} {n : String} {p : Pos} (hm : X.mg x = none) (hv : bootBuiltins x = some (.type n)) (hg : Gl X x := by rfl) (hn : x ≠ "__name__" := by decide) (hd : (x == ("__debug__" : Str)) = false := by decide) : PCl X (.Name x p) (.ty n) :=
  ⟨pe_bltn hg hm hv rfl hn hd⟩
theorem cl_own {x : Str} {p : Pos} (hm : X.mg x = some (.ref (He.ga X.K x))) (hg : Gl X x := by rfl) (hd : (x == ("__debug__" : Str)) = false := by decide) : PCl X (.Name x p) (.own x) :=
  ⟨pe_glob hg hm rfl hd⟩
def xIsi (tab : List (Tg × Bool)) (fa : Ev → R DV) : Ev → R DV := fun δ => (fa δ).bind (oIsi tab)
theorem oIsi_rq {G H : Hp} {W : Value → Option Addr → Hp → Prop} {tab : List (Tg × Bool)} {d : DV} {Q : VK} (s : Same G H) (h : Rq X.K (DRep X.K) W G H (oIsi tab d) Q) : ∃ b, tab.lookup d.tg = some b ∧ Q (.bl b) H := by
  unfold oIsi at h
  cases q : tab.lookup d.tg with
  | none => rw [q] at h; exact h.elim
  | some b => rw [q] at h; exact ⟨b, rfl, Rq.ok_self (rep := DRep X.K) s h (.bl b)⟩
theorem d_isi {tab : List (Tg × Bool)} {t : Tg} {p : Pos} (hk : ∀ c b, tab.lookup (.own c) = some b → KC X.K c) (hB : isiB X.K tab [t] = true) (hm : X.mg "isinstance" = none) (A : PD X W a fa) (C : PCl X b t) (hg : Gl X "isinstance" := by rfl)
    (he : starEach [a, b] X.env = (false, eval a X.env) :: starEach [b] X.env := by rfl) (he2 : starEach [b] X.env = (false, eval b X.env) :: starEach [] X.env := by rfl) (hpl : (backTo pos (starEach [b] X.env)).any (·.1) = false := by rfl) :
    PD X W (.Call (.Name "isinstance" p) [a, b] [] pos) (xIsi tab fa) := by
  obtain ⟨ta, pa, ha⟩ := A.ex
  refine ⟨_, pe_callB call_isi hg hm (by decide +kernel) (pa_cons pa (pa_cons C.pe pa_nil he2) he) (by decide) (by decide) he hpl, fun {B0 G H δ σ Q} S h => ?_⟩
  refine ha S (Rq.bind (rep := DRep X.K) h fun d e v H1 G1 t1 r1 h1 => ?_)
  obtain ⟨bb, l, q⟩ := oIsi_rq t1.gh h1
  exact ⟨v, t.w X.K, d.tg.v X.K, t.v X.K, bb, rfl, t.cls X.K, tyx t1.gh r1 (fun c z => hk c bb (by rw [← z]; exact l)), kitAny_one (isiB_ok hB l), q⟩
/-- a tuple of classes -/
structure PCls (X : Cx) (es : List Expr) (ts : List Tg) : Prop where
  pa : ∃ t : TA, PA X es t ∧ ∀ σ H (Q : List V → Hp → Prop), Q (ts.map (Tg.w X.K)) H → t σ H Q
theorem cls_nil : PCls X [] [] := ⟨_, pa_nil, fun _ _ _ h => h⟩
theorem cls_cons {ts : List Tg} {t : Tg} (A : PCl X a t) (B : PCls X es ts) (he : starEach (a :: es) X.env = (false, eval a X.env) :: starEach es X.env := by rfl) : PCls X (a :: es) (t :: ts) := by
  obtain ⟨u, pu, hu⟩ := B.pa
  exact ⟨_, pa_cons A.pe pu he, fun σ H Q h => hu σ H _ h⟩
theorem paired_cls (K : PySem.W.Frag) : ∀ ts : List Tg, Paired ClsV (ts.map (Tg.w K)) (ts.map (Tg.v K))
  | [] => .nil
  | t :: ts => .cons (t.cls K) (paired_cls K ts)
theorem d_isiT {tab : List (Tg × Bool)} {ts : List Tg} {p p2 : Pos} {kk : Nat} (hk : ∀ c b, tab.lookup (.own c) = some b → KC X.K c) (hB : isiB X.K tab ts = true) (hz : ts.length ≤ 1000) (hm : X.mg "isinstance" = none) (A : PD X W a fa) (C : PCls X es ts) (hg : Gl X "isinstance" := by rfl)
    (he : starEach [a, .Tuple es kk p2] X.env = (false, eval a X.env) :: starEach [.Tuple es kk p2] X.env := by rfl) (he2 : starEach [.Tuple es kk p2] X.env = (false, eval (.Tuple es kk p2) X.env) :: starEach [] X.env := by rfl)
    (hpl : (backTo pos (starEach [.Tuple es kk p2] X.env)).any (·.1) = false := by rfl) : PD X W (.Call (.Name "isinstance" p) [a, .Tuple es kk p2] [] pos) (xIsi tab fa) := by
  obtain ⟨ta, pa, ha⟩ := A.ex
  obtain ⟨tc, pc, hc⟩ := C.pa
  refine ⟨_, pe_callB call_isiT hg hm (by decide +kernel) (pa_cons pa (pa_cons (pe_tup pc) pa_nil he2) he) (by decide) (by decide) he hpl, fun {B0 G H δ σ Q} S h => ?_⟩
  refine ha S (Rq.bind (rep := DRep X.K) h fun d e v H1 G1 t1 r1 h1 => ?_)
  refine hc σ H1 _ ⟨by rw [sizeLine_eq, List.length_map]; omega, fun tp hp => ?_⟩
  have t2 := Tr.own (t1.gh) (.tup (ts.map (Tg.w X.K))) hp
  obtain ⟨bb, l, q⟩ := oIsi_rq t2.gh (Rq.tr t2 h1)
  exact ⟨v, tp, ts.map (Tg.w X.K), d.tg.v X.K, ts.map (Tg.v X.K), bb, rfl, upd_same, paired_cls _ _, tyx t2.gh r1 (fun c z => hk c bb (by rw [← z]; exact l)), isiB_ok hB l, q⟩
end

/-! ### built-ins -/
section
variable {X : Cx}
def oLen : List DV → R DV
  | [.str z] => if small z.length then .ok (.int z.length) else .bad
  | [.tup xs] => .ok (.int xs.length)
  | [.lst xs] => .ok (.int xs.length)
  | [.ro xs] => .ok (.int xs.length)
  | _ => .bad
theorem cb_len : CbD X (fun xs H Q => ∃ x n, xs = [x] ∧ LenV X.K x H n ∧ Q (.int n) H) oLen := fun {G H vs ds Q W} s r h => by
  cases r with
  | nil => exact h.elim
  | cons r1 r2 =>
    cases r2 with
    | cons _ _ => rename_i d _ _ _ _ _ _; cases d <;> exact h.elim
    | nil =>
      cases r1 with
      | str z =>
        obtain ⟨c, q⟩ := rq_if h
        exact ⟨_, z.length, rfl, ⟨small_le c, rfl⟩, q.ok_self s (.int _)⟩
      | tup e r => exact ⟨_, _, rfl, .inr ⟨_, SqT.of (s _ _ e), rfl⟩, by rw [r.length]; exact Rq.ok_self (rep := DRep X.K) s h (.int _)⟩
      | lst e r => exact ⟨_, _, rfl, .inl ⟨_, SqL.of (s _ _ e), rfl⟩, by rw [r.length]; exact Rq.ok_self (rep := DRep X.K) s h (.int _)⟩
      | ro e r => exact ⟨_, _, rfl, .inl ⟨_, Same.seq s e, rfl⟩, by rw [r.length]; exact Rq.ok_self (rep := DRep X.K) s h (.int _)⟩
      | _ => exact h.elim
def oInt : List DV → R DV
  | [.int i] => .ok (.int i)
  | [.bl k] => .ok (.int (if k then 1 else 0))
  | _ => .bad
theorem cb_int : CbD X (fun xs H Q => (∃ i, xs = [.int i] ∧ Q (.int i) H) ∨ ∃ k, xs = [.bl k] ∧ Q (.int (if k then 1 else 0)) H) oInt := fun {G H vs ds Q W} s r h => by
  cases r with
  | nil => exact h.elim
  | cons r1 r2 =>
    cases r2 with
    | cons _ _ => rename_i d _ _ _ _ _ _; cases d <;> exact h.elim
    | nil =>
      cases r1 with
      | int i => exact .inl ⟨i, rfl, Rq.ok_self (rep := DRep X.K) s h (.int _)⟩
      | bl k => exact .inr ⟨k, rfl, Rq.ok_self (rep := DRep X.K) s h (.int _)⟩
      | _ => exact h.elim
def oAbs : List DV → R DV
  | [.int i] => .ok (.int (if i < 0 then -i else i))
  | _ => .bad
theorem cb_abs : CbD X (fun xs H Q => ∃ i, xs = [.int i] ∧ Q (.int (if i < 0 then -i else i)) H) oAbs := fun {G H vs ds Q W} s r h => by
  cases r with
  | nil => exact h.elim
  | cons r1 r2 =>
    cases r2 with
    | cons _ _ => rename_i d _ _ _ _ _ _; cases d <;> exact h.elim
    | nil =>
      cases r1 with
      | int i => exact ⟨i, rfl, Rq.ok_self (rep := DRep X.K) s h (.int _)⟩
      | _ => exact h.elim
/-- a list of ints, of bools -/
def asInts : List DV → Option (List Int)
  | [] => some []
  | .int i :: r => (asInts r).map (i :: ·)
  | _ => none
def asBls : List DV → Option (List Bool)
  | [] => some []
  | .bl i :: r => (asBls r).map (i :: ·)
  | _ => none
theorem asInts_rep {K : PySem.W.Frag} {G : Hp} : ∀ {vs : List V} {ds : List DV} {ns : List Int}, DReps K G vs ds → asInts ds = some ns → vs = ns.map V.int
  | _, _, _, .nil, e => by cases e; rfl
  | _, _, ns, .cons (d := d) (ds := ds) a b, e => by
    cases a with
    | int i =>
      unfold asInts at e
      cases q : asInts ds with
      | none => rw [q] at e; cases e
      | some r => rw [q] at e; cases e; rw [asInts_rep b q]; rfl
    | _ => cases e
theorem asBls_rep {K : PySem.W.Frag} {G : Hp} : ∀ {vs : List V} {ds : List DV} {ns : List Bool}, DReps K G vs ds → asBls ds = some ns → vs = ns.map V.bl
  | _, _, _, .nil, e => by cases e; rfl
  | _, _, ns, .cons (d := d) (ds := ds) a b, e => by
    cases a with
    | bl i =>
      unfold asBls at e
      cases q : asBls ds with
      | none => rw [q] at e; cases e
      | some r => rw [q] at e; cases e; rw [asBls_rep b q]; rfl
    | _ => cases e
def oLs {α : Type} (as : List DV → Option α) (k : α → R DV) : List DV → R DV
  | [.lst xs] => (R.ofO (as xs)).bind k
  | [.ro xs] => (R.ofO (as xs)).bind k
  | _ => .bad
theorem oLs_rq {α : Type} {as : List DV → Option α} {k : α → R DV} {G H : Hp} {vs : List V} {ds : List DV} {Q : VK} {W : Value → Option Addr → Hp → Prop} (s : Same G H) (r : DReps X.K G vs ds) (h : Rq X.K (DRep X.K) W G H (oLs as k ds) Q) :
    ∃ a ws xs n, vs = [.ref a] ∧ SqL X.K H a ws ∧ DReps X.K G ws xs ∧ as xs = some n ∧ Rq X.K (DRep X.K) W G H (k n) Q := by
  have go : ∀ {xs : List DV}, Rq X.K (DRep X.K) W G H ((R.ofO (as xs)).bind k) Q → ∃ n, as xs = some n ∧ Rq X.K (DRep X.K) W G H (k n) Q := fun {xs} h => by
    cases q : as xs with
    | none => rw [q] at h; exact h.elim
    | some n => rw [q] at h; exact ⟨n, rfl, h⟩
  cases r with
  | nil => exact h.elim
  | cons r1 r2 =>
    cases r2 with
    | cons _ _ => rename_i d _ _ _ _ _ _; cases d <;> exact h.elim
    | nil =>
      cases r1 with
      | lst e r => obtain ⟨n, e2, q⟩ := go h; exact ⟨_, _, _, n, rfl, SqL.of (s _ _ e), r, e2, q⟩
      | ro e r => obtain ⟨n, e2, q⟩ := go h; exact ⟨_, _, _, n, rfl, Same.seq s e, r, e2, q⟩
      | _ => exact h.elim
def oSum : List DV → R DV := oLs asInts fun ns => .ok (.int ns.sum)
def oAll : List DV → R DV := oLs asBls fun bs => .ok (.bl (bs.all id))
def oAny : List DV → R DV := oLs asBls fun bs => .ok (.bl (bs.any id))
def lmax : List Int → Option Int
  | [] => none
  | i :: r => some (r.foldl max i)
def lmin : List Int → Option Int
  | [] => none
  | i :: r => some (r.foldl min i)
def oMaxL : List DV → R DV := oLs asInts fun ns => (R.ofO (lmax ns)).bind fun i => .ok (.int i)
def oMinL : List DV → R DV := oLs asInts fun ns => (R.ofO (lmin ns)).bind fun i => .ok (.int i)
theorem cb_sum : CbD X (rSum X.K) oSum := fun {G H vs ds Q W} s r h => by
  obtain ⟨a, ws, xs, n, rfl, hs, r2, e, q⟩ := oLs_rq s r h
  rw [asInts_rep r2 e] at hs
  exact ⟨a, n, rfl, hs, q.ok_self s (.int _)⟩
theorem cb_all : CbD X (rAll X.K) oAll := fun {G H vs ds Q W} s r h => by
  obtain ⟨a, ws, xs, n, rfl, hs, r2, e, q⟩ := oLs_rq s r h
  rw [asBls_rep r2 e] at hs
  exact ⟨a, n, rfl, hs, q.ok_self s (.bl _)⟩
theorem cb_any : CbD X (rAny X.K) oAny := fun {G H vs ds Q W} s r h => by
  obtain ⟨a, ws, xs, n, rfl, hs, r2, e, q⟩ := oLs_rq s r h
  rw [asBls_rep r2 e] at hs
  exact ⟨a, n, rfl, hs, q.ok_self s (.bl _)⟩
theorem foldl_max : ∀ (r : List Int) (i : Int), r.foldl max i ∈ i :: r ∧ ∀ y ∈ i :: r, y ≤ r.foldl max i
  | [], i => ⟨by simp, fun y hy => by simp at hy; subst hy; exact Int.le_refl _⟩
  | j :: r, i => by
    obtain ⟨h1, h2⟩ := foldl_max r (max i j)
    have hx := h2 (max i j) List.mem_cons_self
    refine ⟨?_, fun y hy => ?_⟩
    · show r.foldl max (max i j) ∈ _
      rcases List.mem_cons.mp h1 with e | e
      · rw [e]; by_cases q : i ≤ j
        · rw [Int.max_eq_right q]; simp
        · rw [Int.max_eq_left (by omega)]; simp
      · simp [e]
    · show y ≤ r.foldl max (max i j)
      rcases List.mem_cons.mp hy with e | e
      · subst e; exact Int.le_trans (Int.le_max_left _ _) hx
      · rcases List.mem_cons.mp e with e | e
        · subst e; exact Int.le_trans (Int.le_max_right _ _) hx
        · exact h2 y (List.mem_cons_of_mem _ e)
theorem foldl_min : ∀ (r : List Int) (i : Int), r.foldl min i ∈ i :: r ∧ ∀ y ∈ i :: r, r.foldl min i ≤ y
  | [], i => ⟨by simp, fun y hy => by simp at hy; subst hy; exact Int.le_refl _⟩
  | j :: r, i => by
    obtain ⟨h1, h2⟩ := foldl_min r (min i j)
    have hx := h2 (min i j) List.mem_cons_self
    refine ⟨?_, fun y hy => ?_⟩
    · show r.foldl min (min i j) ∈ _
      rcases List.mem_cons.mp h1 with e | e
      · rw [e]; by_cases q : i ≤ j
        · rw [Int.min_eq_left q]; simp
        · rw [Int.min_eq_right (by omega)]; simp
      · simp [e]
    · show r.foldl min (min i j) ≤ y
      rcases List.mem_cons.mp hy with e | e
      · subst e; exact Int.le_trans hx (Int.min_le_left _ _)
      · rcases List.mem_cons.mp e with e | e
        · subst e; exact Int.le_trans hx (Int.min_le_right _ _)
        · exact h2 y (List.mem_cons_of_mem _ e)
theorem cb_max : CbD X (rMax X.K) oMaxL := fun {G H vs ds Q W} s r h => by
  obtain ⟨a, ws, xs, n, rfl, hs, r2, e, q⟩ := oLs_rq s r h
  rw [asInts_rep r2 e] at hs
  cases n with
  | nil => exact q.elim
  | cons i t =>
    refine ⟨a, i :: t, rfl, hs, by simp, fun m h1 h2 => ?_⟩
    obtain ⟨k1, k2⟩ := foldl_max t i
    have : m = t.foldl max i := Int.le_antisymm (k2 m h1) (h2 _ k1)
    subst this
    exact Rq.ok_self (rep := DRep X.K) s q (.int _)
theorem cb_min : CbD X (rMin X.K) oMinL := fun {G H vs ds Q W} s r h => by
  obtain ⟨a, ws, xs, n, rfl, hs, r2, e, q⟩ := oLs_rq s r h
  rw [asInts_rep r2 e] at hs
  cases n with
  | nil => exact q.elim
  | cons i t =>
    refine ⟨a, i :: t, rfl, hs, by simp, fun m h1 h2 => ?_⟩
    obtain ⟨k1, k2⟩ := foldl_min t i
    have : m = t.foldl min i := Int.le_antisymm (h2 _ k1) (k2 m h1)
    subst this
    exact Rq.ok_self (rep := DRep X.K) s q (.int _)
/-- list(xs), tuple(xs) -/
def oList : List DV → R DV
  | [.lst xs] => .ok (.lst xs)
  | [.ro xs] => .ok (.lst xs)
  | [.tup xs] => .ok (.lst xs)
  | _ => .bad
def oTuple : List DV → R DV
  | [.lst xs] => .ok (.tup xs)
  | [.ro xs] => .ok (.tup xs)
  | [.tup xs] => .ok (.tup xs)
  | _ => .bad
theorem cb_list : CbD X (fun xs H Q => ∃ p ys, xs = [.ref p] ∧ (SqL X.K H p ys ∨ SqT X.K H p ys) ∧ ∀ l, H l = none → Q (.ref l) (upd H l (.lst ys))) oList := fun {G H vs ds Q W} s r h => by
  cases r with
  | nil => exact h.elim
  | cons r1 r2 =>
    cases r2 with
    | cons _ _ => rename_i d _ _ _ _ _ _; cases d <;> exact h.elim
    | nil =>
      cases r1 with
      | lst e r => exact ⟨_, _, rfl, .inl (SqL.of (s _ _ e)), fun p hp => Rq.ok_new (rep := DRep X.K) s hp h (.lst upd_same (r.mono (Same.upd (s.none hp))))⟩
      | ro e r => exact ⟨_, _, rfl, .inl (Same.seq s e), fun p hp => Rq.ok_new (rep := DRep X.K) s hp h (.lst upd_same (r.mono (Same.upd (s.none hp))))⟩
      | tup e r => exact ⟨_, _, rfl, .inr (SqT.of (s _ _ e)), fun p hp => Rq.ok_new (rep := DRep X.K) s hp h (.lst upd_same (r.mono (Same.upd (s.none hp))))⟩
      | _ => exact h.elim
theorem cb_tuple : CbD X (fun xs H Q => ∃ p ys, xs = [.ref p] ∧ ((SqL X.K H p ys ∧ ∀ l, H l = none → Q (.ref l) (upd H l (.tup ys))) ∨ (SqT X.K H p ys ∧ Q (.ref p) H))) oTuple := fun {G H vs ds Q W} s r h => by
  cases r with
  | nil => exact h.elim
  | cons r1 r2 =>
    cases r2 with
    | cons _ _ => rename_i d _ _ _ _ _ _; cases d <;> exact h.elim
    | nil =>
      cases r1 with
      | lst e r => exact ⟨_, _, rfl, .inl ⟨SqL.of (s _ _ e), fun p hp => Rq.ok_new (rep := DRep X.K) s hp h (.tup upd_same (r.mono (Same.upd (s.none hp))))⟩⟩
      | ro e r => exact ⟨_, _, rfl, .inl ⟨Same.seq s e, fun p hp => Rq.ok_new (rep := DRep X.K) s hp h (.tup upd_same (r.mono (Same.upd (s.none hp))))⟩⟩
      | tup e r => exact ⟨_, _, rfl, .inr ⟨SqT.of (s _ _ e), Rq.ok_self (rep := DRep X.K) s h (.tup e r)⟩⟩
      | _ => exact h.elim
end
end LD

set_option maxHeartbeats 2000000
/-! Layer D, part G: what holds in every context; comprehensions; zip; try. -/
namespace LD
open PySem PySem.Spec PyProof.Rows L2

/-! ### readings that name no context -/
def cE (K : PySem.W.Frag) (W : WX) (f : Ev → R DV) : TE := fun σ H Q => ∃ B G δ, SOk K B G H δ σ ∧ Rq K (DRep K) (fun c d H' => W c d σ H') G H (f δ) Q
def cT (K : PySem.W.Frag) (W : WX) (f : Ev → R Bool) : TT := fun σ H Q => ∃ B G δ, SOk K B G H δ σ ∧ Rq K BRep (fun c d H' => W c d σ H') G H (f δ) Q
def cG (K : PySem.W.Frag) (ix : List Nat) (g : DV → Ev → R Ev) : TG := fun v σ H Q => ∃ B G δ δ' d, SOk K B G H δ σ ∧ DRep K G v d ∧ g d δ = .ok δ' ∧ ∀ σ', SOk K B G H δ' σ' → (∀ vs : List Nat, (∀ i ∈ ix, i ∈ vs) → wipe σ' vs = wipe σ vs) → Q σ' H
def cS (K : PySem.W.Frag) (W : WX) (F : Ev → SR) : TS := fun D σ H => ∃ B G δ, SOk K B G H δ σ ∧ SRq K W D B G (F δ)
section
variable {X : Cx} {W : WX} {a b c : Expr} {es : List Expr} {f : Ev → R DV} {ft : Ev → R Bool} {g : DV → Ev → R Ev} {ix : List Nat} {st : List Stmt} {F : Ev → SR}
theorem PD.can (A : PD X W a f) : PE X a (cE X.K W f) := by
  obtain ⟨t, p, h⟩ := A.ex
  exact ⟨fun pins s σ H Q I ⟨B, G, δ, S, q⟩ => p.run pins s σ H Q I (h S q)⟩
theorem PDT.can (A : PDT X W a ft) : PT X a (cT X.K W ft) := by
  obtain ⟨t, p, h⟩ := A.ex
  exact ⟨fun pins s σ H Q I ⟨B, G, δ, S, q⟩ => p.run pins s σ H Q I (h S q)⟩
theorem PGD.can (A : PGD X a ix g) : PG X a (cG X.K ix g) := by
  obtain ⟨t, p, h⟩ := A.ex
  exact ⟨fun pins s σ H v u Q I r ⟨B, G, δ, δ', d, S, rd, e, q⟩ => p.run pins s σ H v u Q I r (h S rd e q)⟩
theorem PSSD.can (A : PSSD X W st F) : PSs X st (cS X.K W F) := by
  obtain ⟨t, p, h⟩ := A.ex
  exact ⟨fun pins s σ H D I ⟨B, G, δ, S, q⟩ => p.run pins s σ H D I (h S q)⟩
end

/-! ### comprehensions -/
/-- what raises is not told -/
def noX {α : Type} : R α → R α
  | .ok a => .ok a
  | _ => .bad
theorem Rq.noX {α β : Type} {K : PySem.W.Frag} {rep : Rel α β} {W W' : Value → Option Addr → Hp → Prop} {G H : Hp} {r : R α} {Q : β → Hp → Prop} (h : Rq K rep W G H (noX r) Q) : Rq K rep W' G H r Q := by
  cases r with
  | ok a => exact h
  | exc _ _ => exact h.elim
  | bad => exact h.elim
theorem Rq.noX' {α β : Type} {K : PySem.W.Frag} {rep : Rel α β} {W W' : Value → Option Addr → Hp → Prop} {G H : Hp} {r : R α} {Q : β → Hp → Prop} (h : Rq K rep W G H (LD.noX r) Q) : Rq K rep W' G H (LD.noX r) Q := by
  cases r with
  | ok a => exact h
  | exc _ _ => exact h.elim
  | bad => exact h.elim
def wipeD (δ : Ev) : List Nat → Ev
  | [] => δ
  | v :: vs => (wipeD δ vs).set v .un
theorem SOk.wipe {K : PySem.W.Frag} {B : Bas} {G H : Hp} {δ : Ev} {σ : L2.St} (S : SOk K B G H δ σ) : ∀ vs : List Nat, SOk K B G H (wipeD δ vs) (L2.wipe σ vs)
  | [] => S
  | v :: vs => (SOk.wipe S vs).forget v none
/-- another new object is changed -/
theorem SOk.other {K : PySem.W.Frag} {B : Bas} {G H : Hp} {δ : Ev} {σ : L2.St} (S : SOk K B G H δ σ) {p : Addr} {o : HO} (h0 : B.H0 p = none) (hg : G p = none) (hne : ∀ (i : Nat) (s : Sl), δ[i]? = some s → isOwn s = true → σ[i]? ≠ some (some (V.ref p))) : SOk K B G (upd H p o) δ σ := by
  refine ⟨tr_own_upd S.tr o h0 hg, S.len, fun i s e => ?_, S.dj, S.me⟩
  refine (S.sl i s e).step (Same.refl _) (fun a ob os hv q => ?_) fun _ _ _ _ x => x
  have ne : a ≠ p := fun z => hne i s e os (by rw [← z]; exact join_some hv)
  rw [upd_ne ne]
  exact q
def lcD (g : DV → Ev → R Ev) (ft : Ev → R Bool) (fe : Ev → R DV) (δ : Ev) : List DV → R (List DV)
  | [] => .ok []
  | d :: ds => match g d δ with
    | .ok δ' => (noX (ft δ')).bind fun b => if b = true then (noX (fe δ')).bind fun y => (lcD g ft fe δ ds).bind fun ys => .ok (y :: ys) else lcD g ft fe δ ds
    | _ => .bad
/-- a comprehension's list -/
def xLcs (vs : List Nat) (fi : Ev → R (List DV)) (g : DV → Ev → R Ev) (ft : Ev → R Bool) (fe : Ev → R DV) : Ev → R (List DV) := fun δ => (fi δ).bind fun ds => (lcD g ft fe (wipeD δ vs) ds).bind fun ys => if small ys.length = true then .ok ys else .bad
def xLc (vs : List Nat) (fi : Ev → R (List DV)) (g : DV → Ev → R Ev) (ft : Ev → R Bool) (fe : Ev → R DV) : Ev → R DV := fun δ => (xLcs vs fi g ft fe δ).bind fun ys => .ok (.lst ys)
def xYes : Ev → R Bool := fun _ => .ok true
/-- a comprehension's tests -/
structure PDTs (X : Cx) (W : WX) (ifs : List Expr) (ft : Ev → R Bool) : Prop where
  can : PTs X ifs (cT X.K W ft)
theorem dts_nil {X : Cx} {W : WX} : PDTs X W [] xYes := ⟨⟨fun pins s σ H Q I ⟨B, G, δ, S, q⟩ => pts_nil.run pins s σ H Q I (Rq.ok_self (rep := BRep) S.gh q rfl)⟩⟩
theorem dts_one {X : Cx} {W : WX} {a : Expr} {ft : Ev → R Bool} (A : PDT X W a ft) : PDTs X W [a] ft := ⟨pts_one A.can⟩
theorem wipe_idem {σ : L2.St} : ∀ {vs : List Nat}, wipe (wipe σ vs) vs = wipe σ vs := by
  intro vs
  apply List.ext_getElem?
  intro j
  by_cases q : j ∈ vs
  · have key : ∀ (τ : L2.St) (ws : List Nat), j ∈ ws → (wipe τ ws)[j]? = if j < τ.length then some none else none := by
      intro τ ws
      induction ws with
      | nil => intro h; cases h
      | cons k ws ih =>
        intro h
        show ((wipe τ ws).set k none)[j]? = _
        by_cases e : k = j
        · subst e
          rw [List.getElem?_set_self']
          by_cases hl : k < τ.length
          · rw [if_pos hl, List.getElem?_eq_getElem (by rw [wipe_length]; exact hl)]; rfl
          · rw [if_neg hl, List.getElem?_eq_none (by rw [wipe_length]; omega)]; rfl
        · rw [List.getElem?_set_ne e]
          exact ih ((List.mem_cons.mp h).resolve_left (fun z => e z.symm))
    rw [key _ _ q, key _ _ q, wipe_length]
  · rw [wipe_out q, wipe_out q]
section
variable {X : Cx} {W : WX} {elt tg iter : Expr} {ifs : List Expr} {scope : Scope} {own : List (Str × Nat)} {pos : Pos} {fi : Ev → R (List DV)} {g : DV → Ev → R Ev} {ft : Ev → R Bool} {fe : Ev → R DV} {ix : List Nat}
abbrev W0 : WX := fun _ _ _ _ => False
/-- a new list at D, not yet frozen -/
def LRq (K : PySem.W.Frag) (W : Value → Option Addr → Hp → Prop) (G H : Hp) (r : R (List DV)) (Q : VK) : Prop := match r with
  | .ok ys => ∀ D ws H' G', Tr G H G' H' → H D = none → G' D = none → H' D = some (.lst ws) → DReps K G' ws ys → Q (.ref D) H'
  | .exc c fs => ∀ H' G' d, Tr G H G' H' → XRep K G' H' d fs → W (.ref (He.ga K c)) d H'
  | .bad => False
theorem LRq.tr {K : PySem.W.Frag} {W : Value → Option Addr → Hp → Prop} {G H G1 H1 : Hp} {r : R (List DV)} {Q : VK} (t : Tr G H G1 H1) (h : LRq K W G H r Q) : LRq K W G1 H1 r Q := by
  cases r with
  | ok ys => exact fun D ws H' G' t' hd => h D ws H' G' (t.trans t') (by
      cases q : H D with
      | none => rfl
      | some o => rw [t.sm _ _ q] at hd; cases hd)
  | exc c fs => exact fun H' G' d t' => h H' G' d (t.trans t')
  | bad => exact h
theorem LRq.bind {α β : Type} {K : PySem.W.Frag} {W : Value → Option Addr → Hp → Prop} {rep : Rel α β} {G H : Hp} {r : R α} {k : α → R (List DV)} {Q : β → Hp → Prop} {Q' : VK} (h : LRq K W G H (r.bind k) Q') (c : ∀ a, r = .ok a → ∀ b H1 G1, Tr G H G1 H1 → rep G1 b a → LRq K W G1 H1 (k a) Q' → Q b H1) : Rq K rep W G H r Q := by
  cases r with
  | ok a => exact fun b H1 G1 t p => c a rfl b H1 G1 t p (LRq.tr t h)
  | exc _ _ => exact h
  | bad => exact h
theorem LRq.of {K : PySem.W.Frag} {W : Value → Option Addr → Hp → Prop} {G H : Hp} {r : R (List DV)} {Q : VK} (h : Rq K (DRep K) W G H (r.bind fun ys => .ok (.lst ys)) Q) : LRq K W G H r Q := by
  cases r with
  | ok ys =>
    intro D ws H' G' t hd hg hh rp
    obtain ⟨tf, gf⟩ := t.freeze hd hg hh
    exact h (.ref D) H' _ tf (.lst upd_same (rp.mono gf))
  | exc c fs => exact h
  | bad => exact h
theorem rq_ifL {K : PySem.W.Frag} {G H : Hp} {W : Value → Option Addr → Hp → Prop} {Q : VK} {c : Bool} {a : List DV} (h : LRq K W G H (if c = true then .ok a else .bad) Q) : c = true ∧ LRq K W G H (.ok a) Q := by
  cases c with
  | true => exact ⟨rfl, h⟩
  | false => exact h.elim
theorem lc_req {wi : TI} {vs : List Nat} {B : Bas} {G H : Hp} {δ : Ev} {σ : L2.St} {Q : VK}
    (hw : ∀ {B : Bas} {G H : Hp} {δ : Ev} {σ : L2.St} {Q : It → Hp → Prop}, SOk X.K B G H δ σ → Rq X.K (fun G' J ds => Walks X.K J ds G') (fun c d H' => W c d σ H') G H (fi δ) Q → wi σ H Q)
    (hix : ∀ i ∈ ix, i ∈ vs) (S : SOk X.K B G H δ σ) (h : LRq X.K (fun c d H' => W c d σ H') G H (xLcs vs fi g ft fe δ) Q) : tLc wi (cG X.K ix g) (cT X.K W0 (fun δ => noX (ft δ))) (cE X.K W0 (fun δ => noX (fe δ))) vs σ H Q := by
  refine hw S (LRq.bind (rep := fun G' J ds => Walks X.K J ds G') h fun ds e J H1 G1 t1 wk h1 => ?_)
  intro D hD
  have S1 := S.step t1
  have hgD : G1 D = none := t1.gh.none hD
  have hbD : B.H0 D = none := S1.tr.sm.none hD
  cases ed : lcD g ft fe (wipeD δ vs) ds with
  | exc _ _ =>
    exfalso
    have key : ∀ ds c fs, lcD g ft fe (wipeD δ vs) ds ≠ .exc c fs := by
      intro ds
      induction ds with
      | nil => intro c fs z; cases z
      | cons d ds ih =>
        intro c fs z
        unfold lcD at z
        cases eg : g d (wipeD δ vs) with
        | ok δ' =>
          rw [eg] at z
          dsimp only at z
          cases et : ft δ' with
          | ok b =>
            rw [et] at z
            cases b with
            | true =>
              cases ee : fe δ' with
              | ok y =>
                rw [ee] at z
                cases er : lcD g ft fe (wipeD δ vs) ds with
                | ok ys => rw [er] at z; cases z
                | exc c' fs' => exact ih c' fs' er
                | bad => rw [er] at z; cases z
              | exc _ _ => rw [ee] at z; cases z
              | bad => rw [ee] at z; cases z
            | false => exact ih c fs z
          | exc _ _ => rw [et] at z; cases z
          | bad => rw [et] at z; cases z
        | exc _ _ => rw [eg] at z; cases z
        | bad => rw [eg] at z; cases z
    exact key _ _ _ ed
  | bad => rw [ed] at h1; exact h1.elim
  | ok ys =>
    rw [ed] at h1
    obtain ⟨hz, h1⟩ := rq_ifL h1
    have ltot : ys.length ≤ sizeLine := small_le hz
    have Sw := (S1.wipe vs)
    -- no own slot is the new list
    have hne : ∀ (i : Nat) (s : Sl), (wipeD δ vs)[i]? = some s → isOwn s = true → (wipe σ vs)[i]? ≠ some (some (V.ref D)) := fun i s e o z => by
      obtain ⟨a, es, _, _, oa⟩ := Sw.own e o
      rw [z] at es
      have : D = a := by injection es with es; injection es with es; injection es
      subst this
      exact oa.there hD
    have Sw0 : SOk X.K B G1 (upd H1 D (.lst [])) (wipeD δ vs) (wipe σ vs) := Sw.other hbD hgD hne
    have t0 : Tr G1 H1 G1 (upd H1 D (.lst [])) := Tr.own t1.gh _ hD
    refine ⟨fun i m H => i ≤ ds.length ∧ m = ds.length - i ∧ ∃ G' acc accV zs, Tr G1 H1 G' H ∧ G' D = none ∧ H D = some (.lst accV) ∧ DReps X.K G' accV acc ∧ SOk X.K B G' H (wipeD δ vs) (wipe σ vs) ∧ lcD g ft fe (wipeD δ vs) (ds.drop i) = .ok zs ∧ acc ++ zs = ys,
      ⟨ds.length, Nat.zero_le _, by simp, G1, [], [], ys, t0, hgD, upd_same, .nil, Sw0, by simpa using ed, rfl⟩, ?_⟩
    rintro i m H' ⟨hi, rfl, G', acc, accV, zs, t', hg', hH', rA, S', el, ea⟩
    by_cases hlt : i < ds.length
    · have sG : Same G1 H' := t'.gg.trans S'.gh
      refine .inr ⟨wk.go i H' sG hlt, fun H4 => ∃ G4 acc4 accV4 zs4, Tr G1 H1 G4 H4 ∧ G4 D = none ∧ H4 D = some (.lst accV4) ∧ DReps X.K G4 accV4 acc4 ∧ SOk X.K B G4 H4 (wipeD δ vs) (wipe σ vs) ∧ lcD g ft fe (wipeD δ vs) (ds.drop (i + 1)) = .ok zs4 ∧ acc4 ++ zs4 = ys,
        fun H4 z => ⟨ds.length - (i + 1), by omega, hlt, rfl, z⟩, fun x H2 y => ?_⟩
      obtain ⟨G2, d, t2, hd, rd⟩ := wk.yld i H' x H2 G' t'.gg S'.gh hlt y
      have edr : ds.drop i = d :: ds.drop (i + 1) := by
        rw [List.drop_eq_getElem_cons hlt]
        rw [List.getElem?_eq_getElem hlt] at hd
        rw [Option.some.inj hd]
      rw [edr] at el
      unfold lcD at el
      cases eg : g d (wipeD δ vs) with
      | exc _ _ => rw [eg] at el; cases el
      | bad => rw [eg] at el; cases el
      | ok δ' =>
        rw [eg] at el
        dsimp only at el
        refine ⟨B, G2, wipeD δ vs, δ', d, S'.step t2, rd, eg, fun σ' S2 w2 => ⟨by rw [w2 vs hix, wipe_idem], ?_⟩⟩
        cases et : ft δ' with
        | exc _ _ => rw [et] at el; cases el
        | bad => rw [et] at el; cases el
        | ok b =>
          rw [et] at el
          refine ⟨B, G2, δ', S2, ?_⟩
          show Rq X.K BRep _ G2 H2 (LD.noX (ft δ')) _
          rw [et]
          intro b' H3 G3 t3 eb
          cases eb
          cases b with
          | false =>
            rw [if_neg (by decide)]
            have el : lcD g ft fe (wipeD δ vs) (ds.drop (i + 1)) = .ok zs := el
            have tt := t2.trans t3
            refine ⟨G3, acc, accV, zs, t'.trans tt, by rw [tt.nw D (by rw [hH']; simp)]; exact hg', tt.sm _ _ hH', rA.mono tt.gg, S'.step tt, el, ea⟩
          | true =>
            rw [if_pos rfl]
            have el : ((LD.noX (fe δ')).bind fun y => (lcD g ft fe (wipeD δ vs) (ds.drop (i + 1))).bind fun ys => .ok (y :: ys)) = .ok zs := el
            cases ee : fe δ' with
            | exc _ _ => rw [ee] at el; cases el
            | bad => rw [ee] at el; cases el
            | ok yv =>
              rw [ee] at el
              refine ⟨B, G3, δ', S2.step t3, ?_⟩
              show Rq X.K (DRep X.K) _ G3 H3 (LD.noX (fe δ')) _
              rw [ee]
              intro u H4 G4 t4 ru
              have el : ((lcD g ft fe (wipeD δ vs) (ds.drop (i + 1))).bind fun ys => .ok (yv :: ys)) = .ok zs := el
              cases er : lcD g ft fe (wipeD δ vs) (ds.drop (i + 1)) with
              | exc _ _ => rw [er] at el; cases el
              | bad => rw [er] at el; cases el
              | ok ws =>
                rw [er] at el
                cases el
                have tt := (t2.trans t3).trans t4
                have hg4 : G4 D = none := by rw [tt.nw D (by rw [hH']; simp)]; exact hg'
                have hH4 := tt.sm _ _ hH'
                have S4 := S'.step tt
                have tg := (t'.trans tt)
                refine ⟨accV, hH4, ?_, G4, acc ++ [yv], accV ++ [u], ws, tr_own_upd tg _ hD hg4, hg4, upd_same, (rA.mono tt.gg).append (.cons ru .nil), S4.other hbD hg4 hne, rfl, by simpa using ea⟩
                rw [rA.length]
                have : acc.length + (yv :: ws).length = ys.length := by rw [← ea, List.length_append]
                rw [List.length_cons] at this
                omega
    · have e : i = ds.length := by omega
      subst e
      have sG : Same G1 H' := t'.gg.trans S'.gh
      refine .inl ⟨wk.stop H' sG, ?_⟩
      rw [List.drop_length] at el
      cases el
      rw [List.append_nil] at ea
      subst ea
      exact h1 D accV H' G' t' hD hg' hH' rA
theorem d_lc (hc : X.calm = true) (hN : X.N.Nodup) (ok : BlkOk X.N X.env.scope scope own) (hix : ∀ i ∈ ix, i ∈ own.map (·.2)) (I : PID X W tg iter fi)
    (hg : ∀ (s : Shared) (H : Hp) (C : Addr) (cl : List (Str × Addr)) (fp : List Addr), PGD (X.blk s H scope (compEnvC scope cl C X.env) fp) tg ix g) (ht : ∀ (s : Shared) (H : Hp) (C : Addr) (cl : List (Str × Addr)) (fp : List Addr), PDTs (X.blk s H scope (compEnvC scope cl C X.env) fp) W0 ifs ft)
    (he : ∀ (s : Shared) (H : Hp) (C : Addr) (cl : List (Str × Addr)) (fp : List Addr), PD (X.blk s H scope (compEnvC scope cl C X.env) fp) W0 elt fe) (hs : ∀ x, foldedSetIterable iter X.env x = pure x := by intro _; rfl) :
    PD X W (.ListComp elt [⟨tg, iter, ifs, 0⟩] scope pos) (xLc (own.map (·.2)) fi g ft fe) := by
  obtain ⟨wi, pw, hw⟩ := I.ex
  refine ⟨_, pe_lc (g := cG X.K ix g) (tt := cT X.K W0 (fun δ => noX (ft δ))) (te := cE X.K W0 (fun δ => noX (fe δ))) hc hN pw ok (fun s H C cl fp => (hg s H C cl fp).can) (fun s H C cl fp => ⟨fun pins s' σ H' Q I' ⟨B, G, δ, S, q⟩ => (ht s H C cl fp).can.run pins s' σ H' Q I' ⟨B, G, δ, S, Rq.noX q⟩⟩)
    (fun s H C cl fp => ⟨fun pins s' σ H' Q I' ⟨B, G, δ, S, q⟩ => (he s H C cl fp).can.run pins s' σ H' Q I' ⟨B, G, δ, S, Rq.noX q⟩⟩) hs, fun {B G H δ σ Q} S h => ?_⟩
  exact lc_req hw hix S (LRq.of h)
/-- name = [..] on one line -/
def sSetLc (i : Nat) (f : Ev → R (List DV)) : Ev → SR := fun δ => xS (f δ) δ fun ys => .nx (δ.set i (.pu (.lst ys)))
theorem ds_setLc (i : Nat) {y : Str} {py spos : Pos} (hc : X.calm = true) (hN : X.N.Nodup) (ok : BlkOk X.N X.env.scope scope own) (hix : ∀ i ∈ ix, i ∈ own.map (·.2)) (I : PID X W tg iter fi)
    (hg : ∀ (s : Shared) (H : Hp) (C : Addr) (cl : List (Str × Addr)) (fp : List Addr), PGD (X.blk s H scope (compEnvC scope cl C X.env) fp) tg ix g) (ht : ∀ (s : Shared) (H : Hp) (C : Addr) (cl : List (Str × Addr)) (fp : List Addr), PDTs (X.blk s H scope (compEnvC scope cl C X.env) fp) W0 ifs ft)
    (he : ∀ (s : Shared) (H : Hp) (C : Addr) (cl : List (Str × Addr)) (fp : List Addr), PD (X.blk s H scope (compEnvC scope cl C X.env) fp) W0 elt fe)
    (hy : X.N[i]? = some y := by rfl) (hyl : X.env.scope.names.lookup y = some .local := by rfl) (hsw : swapsWith (.ListComp elt [⟨tg, iter, ifs, 0⟩] scope pos) (some (.Name y py)) spos.line X.env = pure true := by exact sw_true rfl rfl rfl rfl) (hs : ∀ x, foldedSetIterable iter X.env x = pure x := by intro _; rfl) :
    PSD X W (.Assign [.Name y py] (.ListComp elt [⟨tg, iter, ifs, 0⟩] scope pos) spos) (sSetLc i (xLcs (own.map (·.2)) fi g ft fe)) := by
  obtain ⟨wi, pw, hw⟩ := I.ex
  refine ⟨_, ps_setLc (g := cG X.K ix g) (tt := cT X.K W0 (fun δ => noX (ft δ))) (te := cE X.K W0 (fun δ => noX (fe δ))) hc hN hy hyl hsw pw ok (fun s H C cl fp => (hg s H C cl fp).can) (fun s H C cl fp => ⟨fun pins s' σ H' Q I' ⟨B, G, δ, S, q⟩ => (ht s H C cl fp).can.run pins s' σ H' Q I' ⟨B, G, δ, S, Rq.noX q⟩⟩)
    (fun s H C cl fp => ⟨fun pins s' σ H' Q I' ⟨B, G, δ, S, q⟩ => (he s H C cl fp).can.run pins s' σ H' Q I' ⟨B, G, δ, S, Rq.noX q⟩⟩) hs, fun {B G H δ σ D} S h => ?_⟩
  show tLc wi (cG X.K ix g) _ _ (own.map (·.2)) σ H (fun x H1 => gName i x σ H1 D.nx)
  refine lc_req hw hix S ?_
  unfold sSetLc at h
  cases q : xLcs (own.map (·.2)) fi g ft fe δ with
  | ok ys =>
    rw [q] at h
    intro L ws H' G' t hd hgd hh rp
    obtain ⟨tf, gf⟩ := t.freeze hd hgd hh
    exact h _ _ _ tf.gg ((S.step tf).set i (.lst upd_same (rp.mono gf)))
  | exc c fs => rw [q] at h; exact fun H' G' d t x => h σ H' G' d t.gg (S.step t) x
  | bad => rw [q] at h; exact h.elim
/-- the name's own list -/
def sSetLcO (i : Nat) (f : Ev → R (List DV)) : Ev → SR := fun δ => xS (f δ) δ fun ys => .nx (δ.set i (.ol ys))
theorem own_laid {K : PySem.W.Frag} {B : Bas} {G H G' H' : Hp} {δ : Ev} {σ : L2.St} (S : SOk K B G H δ σ) (i : Nat) {p : Addr} {s : Sl} (t : Tr G H G' H') (hp : H p = none) (hg : G' p = none) (hs : isOwn s = true) (hme : ∀ c fs, s ≠ .oo c fs) (r : OwnAt K G' H' p s) : SOk K B G' H' (δ.set i s) (σ.set i (some (.ref p))) := by
  have S' := S.step t
  refine S'.setOwn i hs S'.tr (S.tr.sm.none hp) hg r (fun b u hb e => e) (fun j u hj e ou z => ?_) fun c fs z => absurd z (hme c fs)
  obtain ⟨a, es, _, _, oa⟩ := S.own e ou
  rw [z] at es
  have : p = a := by injection es with es; injection es with es; injection es
  subst this
  exact oa.there hp
theorem ds_setLcO (i : Nat) {y : Str} {py spos : Pos} (hc : X.calm = true) (hN : X.N.Nodup) (ok : BlkOk X.N X.env.scope scope own) (hix : ∀ i ∈ ix, i ∈ own.map (·.2)) (I : PID X W tg iter fi)
    (hg : ∀ (s : Shared) (H : Hp) (C : Addr) (cl : List (Str × Addr)) (fp : List Addr), PGD (X.blk s H scope (compEnvC scope cl C X.env) fp) tg ix g) (ht : ∀ (s : Shared) (H : Hp) (C : Addr) (cl : List (Str × Addr)) (fp : List Addr), PDTs (X.blk s H scope (compEnvC scope cl C X.env) fp) W0 ifs ft)
    (he : ∀ (s : Shared) (H : Hp) (C : Addr) (cl : List (Str × Addr)) (fp : List Addr), PD (X.blk s H scope (compEnvC scope cl C X.env) fp) W0 elt fe)
    (hy : X.N[i]? = some y := by rfl) (hyl : X.env.scope.names.lookup y = some .local := by rfl) (hsw : swapsWith (.ListComp elt [⟨tg, iter, ifs, 0⟩] scope pos) (some (.Name y py)) spos.line X.env = pure true := by exact sw_true rfl rfl rfl rfl) (hs : ∀ x, foldedSetIterable iter X.env x = pure x := by intro _; rfl) :
    PSD X W (.Assign [.Name y py] (.ListComp elt [⟨tg, iter, ifs, 0⟩] scope pos) spos) (sSetLcO i (xLcs (own.map (·.2)) fi g ft fe)) := by
  obtain ⟨wi, pw, hw⟩ := I.ex
  refine ⟨_, ps_setLc (g := cG X.K ix g) (tt := cT X.K W0 (fun δ => noX (ft δ))) (te := cE X.K W0 (fun δ => noX (fe δ))) hc hN hy hyl hsw pw ok (fun s H C cl fp => (hg s H C cl fp).can) (fun s H C cl fp => ⟨fun pins s' σ H' Q I' ⟨B, G, δ, S, q⟩ => (ht s H C cl fp).can.run pins s' σ H' Q I' ⟨B, G, δ, S, Rq.noX q⟩⟩)
    (fun s H C cl fp => ⟨fun pins s' σ H' Q I' ⟨B, G, δ, S, q⟩ => (he s H C cl fp).can.run pins s' σ H' Q I' ⟨B, G, δ, S, Rq.noX q⟩⟩) hs, fun {B G H δ σ D} S h => ?_⟩
  show tLc wi (cG X.K ix g) _ _ (own.map (·.2)) σ H (fun x H1 => gName i x σ H1 D.nx)
  refine lc_req hw hix S ?_
  unfold sSetLcO at h
  cases q : xLcs (own.map (·.2)) fi g ft fe δ with
  | ok ys =>
    rw [q] at h
    intro L ws H' G' t hd hgd hh rp
    exact h _ _ _ t.gg (own_laid S i t hd hgd rfl (fun _ _ z => nomatch z) ⟨ws, hh, rp⟩)
  | exc c fs => rw [q] at h; exact fun H' G' d t x => h σ H' G' d t.gg (S.step t) x
  | bad => rw [q] at h; exact h.elim
end

/-! ### what is walked, further -/
section
variable {X : Cx} {W : WX} {tg iter a b : Expr} {es : List Expr} {fa fb : Ev → R DV} {fes : Ev → R (List DV)} {pos : Pos}
theorem PI.or {t u : TI} (A : PI X tg iter t) (B : PI X tg iter u) : PI X tg iter (fun σ H R => t σ H R ∨ u σ H R) :=
  ⟨fun pins s σ H R I h => h.elim (fun z => A.run pins s σ H R I z) fun z => B.run pins s σ H R I z⟩
def asAny : DV → R (List DV)
  | .lst xs => .ok xs
  | .ro xs => .ok xs
  | .tup xs => .ok xs
  | .str z => .ok (z.cps.toList.map fun c => .str ⟨#[c]⟩)
  | _ => .bad
/-- a list, a tuple, a text -/
theorem di_any (A : PD X W iter fa) : PID X W tg iter (xSrc asAny fa) := by
  obtain ⟨wl, pl, hl⟩ := (di_list (tg := tg) A).ex
  obtain ⟨wt, pt, ht⟩ := (di_tup (tg := tg) A).ex
  obtain ⟨ws, ps, hs⟩ := (di_str (tg := tg) A).ex
  refine ⟨_, PI.or pl (PI.or pt ps), fun {B0 G H δ σ Q} S h => ?_⟩
  unfold xSrc at h
  cases q : fa δ with
  | bad => rw [q] at h; exact h.elim
  | exc c fs => exact .inl (hl S (by unfold xSrc; rw [q] at h ⊢; exact h))
  | ok d =>
    rw [q] at h
    cases d with
    | lst xs => exact .inl (hl S (by unfold xSrc; rw [q]; exact h))
    | ro xs => exact .inl (hl S (by unfold xSrc; rw [q]; exact h))
    | tup xs => exact .inr (.inl (ht S (by unfold xSrc; rw [q]; exact h)))
    | str z => exact .inr (.inr (hs S (by unfold xSrc; rw [q]; exact h)))
    | _ => exact h.elim
/-- zip -/
def zipD : List DV → List DV → List DV
  | x :: xs, y :: ys => .tup [x, y] :: zipD xs ys
  | _, _ => []
def asZip : List DV → R (List DV)
  | [.lst xs, .lst ys] => .ok (zipD xs ys)
  | [.lst xs, .ro ys] => .ok (zipD xs ys)
  | [.ro xs, .lst ys] => .ok (zipD xs ys)
  | [.ro xs, .ro ys] => .ok (zipD xs ys)
  | [.tup xs, .tup ys] => .ok (zipD xs ys)
  | _ => .bad
theorem zipD_get : ∀ {xs ys : List DV} {i : Nat} {x y : DV}, xs[i]? = some x → ys[i]? = some y → (zipD xs ys)[i]? = some (.tup [x, y])
  | [], _, _, _, _, h, _ => by simp at h
  | _ :: _, [], _, _, _, _, h => by simp at h
  | _ :: xs, _ :: ys, 0, _, _, h, h' => by simp at h h'; subst h h'; rfl
  | _ :: xs, _ :: ys, i + 1, _, _, h, h' => by simp at h h'; simpa [zipD] using zipD_get (xs := xs) (ys := ys) h h'
theorem zipD_len : ∀ {xs ys : List DV}, (zipD xs ys).length = min xs.length ys.length
  | [], ys => by simp [zipD]
  | _ :: _, [] => by simp [zipD]
  | _ :: xs, _ :: ys => by simp [zipD, zipD_len (xs := xs) (ys := ys)]
theorem walks_zip {K : PySem.W.Frag} {G : Hp} {J : It} {Sq : Hp → Addr → List V → Prop} {a b : Addr} {vs ws : List V} {ds es : List DV} (r : DReps K G vs ds) (r2 : DReps K G ws es) (h1 : ∀ H, Same G H → Sq H a vs) (h2 : ∀ H, Same G H → Sq H b ws)
    (hJ : J = ⟨fun i H => ∃ (xs ys : List V) (x y : V), Sq H a xs ∧ Sq H b ys ∧ xs[i]? = some x ∧ ys[i]? = some y,
    fun i H v H' => ∃ T x y, v = .ref T ∧ H T = none ∧ H' = upd H T (.tup [x, y]) ∧ (∀ xs, Sq H a xs → xs[i]? = some x) ∧ ∀ ys, Sq H b ys → ys[i]? = some y,
    fun i H => ∃ xs ys : List V, Sq H a xs ∧ Sq H b ys ∧ (xs.length ≤ i ∨ ys.length ≤ i)⟩) : Walks K J (zipD ds es) G := by
  subst hJ
  have l1 := r.length
  have l2 := r2.length
  refine ⟨fun H s => ⟨vs, ws, h1 H s, h2 H s, ?_⟩, fun i H s hi => ?_, fun i H x H' Gc g s hi y => ?_⟩
  · rw [zipD_len]; omega
  · rw [zipD_len] at hi
    exact ⟨vs, ws, vs[i]'(by omega), ws[i]'(by omega), h1 H s, h2 H s, List.getElem?_eq_getElem _, List.getElem?_eq_getElem _⟩
  · obtain ⟨T, x1, y1, rfl, hT, rfl, hx, hy⟩ := y
    have ex := hx vs (h1 H (g.trans s))
    have ey := hy ws (h2 H (g.trans s))
    obtain ⟨d, hd, pd⟩ := r.get' ex
    obtain ⟨e, he, pe⟩ := r2.get' ey
    have gn := Same.upd (o := .tup [x1, y1]) (s.none hT)
    exact ⟨upd Gc T (.tup [x1, y1]), .tup [d, e], Tr.new s _ hT, zipD_get hd he, .tup upd_same (.cons ((pd.mono g).mono gn) (.cons ((pe.mono g).mono gn) .nil))⟩
theorem asZip_inv {K : PySem.W.Frag} {G H : Hp} {rep : Rel (List DV) It} {W : Value → Option Addr → Hp → Prop} {Q : It → Hp → Prop} {vs : List V} {ds : List DV} (r : DReps K G vs ds) (h : Rq K rep W G H (asZip ds) Q) :
    ∃ a b xs ys as bs, vs = [.ref a, .ref b] ∧ DReps K G as xs ∧ DReps K G bs ys ∧ ((SqL K G a as ∧ SqL K G b bs) ∨ (SqT K G a as ∧ SqT K G b bs)) ∧ Rq K rep W G H (.ok (zipD xs ys)) Q := by
  unfold asZip at h
  split at h
  · cases r with
    | cons ra rb => cases rb with
      | cons rb rc => cases rc; cases ra with
        | lst e1 r1 => cases rb with
          | lst e2 r2 => exact ⟨_, _, _, _, _, _, rfl, r1, r2, .inl ⟨SqL.of e1, SqL.of e2⟩, h⟩
  · cases r with
    | cons ra rb => cases rb with
      | cons rb rc => cases rc; cases ra with
        | lst e1 r1 => cases rb with
          | ro e2 r2 => exact ⟨_, _, _, _, _, _, rfl, r1, r2, .inl ⟨SqL.of e1, e2⟩, h⟩
  · cases r with
    | cons ra rb => cases rb with
      | cons rb rc => cases rc; cases ra with
        | ro e1 r1 => cases rb with
          | lst e2 r2 => exact ⟨_, _, _, _, _, _, rfl, r1, r2, .inl ⟨e1, SqL.of e2⟩, h⟩
  · cases r with
    | cons ra rb => cases rb with
      | cons rb rc => cases rc; cases ra with
        | ro e1 r1 => cases rb with
          | ro e2 r2 => exact ⟨_, _, _, _, _, _, rfl, r1, r2, .inl ⟨e1, e2⟩, h⟩
  · cases r with
    | cons ra rb => cases rb with
      | cons rb rc => cases rc; cases ra with
        | tup e1 r1 => cases rb with
          | tup e2 r2 => exact ⟨_, _, _, _, _, _, rfl, r1, r2, .inr ⟨SqT.of e1, SqT.of e2⟩, h⟩
  · exact h.elim
theorem di_zip {p tpos : Pos} {elts : List Expr} {kk : Nat} (hm : X.mg "zip" = none) (A : PDA X W [a, b] fes) (hg : Gl X "zip" := by rfl) (hs : starEach [a, b] X.env = (false, eval a X.env) :: starEach [b] X.env := by rfl) (hpl : (backTo pos (starEach [b] X.env)).any (·.1) = false := by rfl) :
    PID X W (.Tuple elts kk tpos) (.Call (.Name "zip" p) [a, b] [] pos) (fun δ => (fes δ).bind asZip) := by
  obtain ⟨ta, pa, ha⟩ := A.ex
  refine ⟨_, RZ.pi_zipA hg hm pa hs hpl, fun {B0 G H δ σ Q} S h => ?_⟩
  refine ha S (Rq.bind (rep := DReps X.K) h fun x ex v H1 G1 t1 r1 h1 => ?_)
  obtain ⟨a1, b1, xs, ys, as, bs, rfl, r2, r3, q, h2⟩ := asZip_inv r1 h1
  refine ⟨a1, b1, as, bs, rfl, ?_⟩
  rcases q with ⟨q1, q2⟩ | ⟨q1, q2⟩
  · exact .inl ⟨Same.seq t1.gh q1, Same.seq t1.gh q2, h2 _ H1 G1 (Tr.refl t1.gh) (walks_zip (Sq := fun H a xs => SqL X.K H a xs) r2 r3 (fun H s => Same.seq s q1) (fun H s => Same.seq s q2) rfl)⟩
  · exact .inr ⟨SqT.same t1.gh q1, SqT.same t1.gh q2, h2 _ H1 G1 (Tr.refl t1.gh) (walks_zip (Sq := fun H a xs => SqT X.K H a xs) r2 r3 (fun H s => SqT.same s q1) (fun H s => SqT.same s q2) rfl)⟩
end
end LD

set_option maxHeartbeats 2000000
/-! Layer D, part H: try, the own ==, super().__init__(..). -/
namespace LD
open PySem PySem.Spec PyProof.Rows L2

/-! ### try .. except -/
def noXS : SR → SR
  | .ex _ _ _ => .bad
  | r => r
theorem SRq.noX {K : PySem.W.Frag} {W W' : WX} {D : Ends} {B : Bas} {G : Hp} {r : SR} (h : SRq K W D B G (noXS r)) : SRq K W' D B G r := by
  cases r with
  | ex _ _ _ => exact h.elim
  | _ => exact h
def sTry (tab : List (Str × Bool)) (F F2 : Ev → SR) : Ev → SR := fun δ => match F δ with
  | .ex c fs δ' => (match tab.lookup c with
    | some true => noXS (F2 δ')
    | some false => .ex c fs δ'
    | none => .bad)
  | r => r
def exmB (K : PySem.W.Frag) (tab : List (Str × Bool)) (x : Str) : Bool := tab.all fun p => decide (PySem.W.exmOne K (.ref (He.ga K p.1)) (.ref (He.ga K x)) = some p.2)
section
variable {X : Cx} {W : WX} {a b o : Expr} {fa fb : Ev → R DV} {pos np pos' : Pos} {body suite : List Stmt} {b₀ : Stmt} {F F2 : Ev → SR}
theorem ds_try {x : Str} {tab : List (Str × Bool)} (tk : Takes X W) (hm : X.mg x = some (.ref (He.ga X.K x))) (htab : exmB X.K tab x = true)
    (A : ∀ (W' : WX) (pn : List (Addr × Obj)) (xe : Value → Shared → Prop), Takes (X.tr pn xe) W' → PassesOwn (model X.prog X.w) X.A X.env xe → PSSD (X.tr pn xe) W' body F) (S2 : ∀ (a : Addr) (pn : List (Addr × Obj)), PSSD (X.suite a pn) W0 (b₀ :: suite) F2)
    (hst : X.stack = X.env :: X.outer := by rfl) (hf : X.env.frame = some X.env.locals := by rfl) (hg : Gl X x := by rfl) (hd : (x == ("__debug__" : Str)) = false := by decide) :
    PSD X W (.Try body [.ExceptHandler (some (.Name x np)) none (b₀ :: suite) pos'] [] [] pos) (sTry tab F F2) := by
  refine ⟨_, ps_try_only (c := .ref (He.ga X.K x)) (tb := fun W' => cS X.K W' F) (ts := fun _ _ _ => cS X.K W0 (fun δ => noXS (F2 δ))) (Wout := W) hst hf ⟨hg, hd, .inl hm⟩ tk (fun W' pn xe tk' po => (A W' pn xe tk' po).can)
    (fun a oe cls d pn _ _ => ⟨fun pins s σ H D I ⟨B, G, δ, S, q⟩ => (S2 a ((a, oe) :: pn)).can.run pins s σ H D I ⟨B, G, δ, S, SRq.noX q⟩⟩), fun {B G H δ σ D} S h => ⟨B, G, δ, S, ?_⟩⟩
  unfold sTry at h
  cases q : F δ with
  | ex c fs δ' =>
    rw [q] at h
    dsimp only at h
    intro σ' H' G' dx g S' x'
    cases l : tab.lookup c with
    | none => rw [l] at h; exact h.elim
    | some k =>
      rw [l] at h
      refine ⟨k, of_decide_eq_true (List.all_eq_true.mp htab (c, k) (look_mem l)), fun e a _ => ?_, fun e => ?_⟩
      · subst e
        have h2 : SRq X.K W D B G (noXS (F2 δ')) := h
        refine ⟨B, G', δ', S', SRq.noX (W := W) ?_⟩
        have h3 := SRq.gg g h2
        revert h3
        show SRq X.K W D B G' (noXS (F2 δ')) → SRq X.K W D B G' (noXS (noXS (F2 δ')))
        cases F2 δ' <;> exact fun z => z
      · subst e
        exact h σ' H' G' dx g S' x'
  | nx _ => rw [q] at h; exact h
  | rt _ => rw [q] at h; exact h
  | bk _ => rw [q] at h; exact h
  | ct _ => rw [q] at h; exact h
  | bad => rw [q] at h; exact h

/-! ### the text's own == -/
/-- cs: the classes of the left, of the right -/
def oEqO (cs : List Str) (m : Mir) : DV → DV → R DV := fun x y => match x, y with
  | .obj c fs, .obj c' fs' => if cs.contains c && cs.contains c' then (match m [.obj c fs, .obj c' fs'] with
    | .ok (.bl b) => .ok (.bl b)
    | _ => .bad) else .bad
  | _, _ => .bad
def eqB (K : PySem.W.Frag) (cs : List Str) (f : Addr) : Bool := cs.all fun c => decide (PySem.W.findIn K (.ref (He.ga K c)) "__eq__" = some (some (.ref f))) && cs.all fun c' => PySem.W.notFirst K (He.ga K c) (.ref (He.ga K c'))
def rOwn (sp : Sp) (K : PySem.W.Frag) (cs : List Str) : R2 := fun x y H Q => ∃ a b dx dy c c' fs gs, x = .ref a ∧ y = .ref b ∧ cs.contains c = true ∧ cs.contains c' = true ∧ H a = some (.ins (He.ga K c) dx fs) ∧ H b = some (.ins (He.ga K c') dy gs) ∧ sp [x, y] H (fun v H' => (∃ k, v = .bl k) ∧ Q v H') E0
theorem or_own {f : Addr} {fd : FuncData} {ps : List Str} {k : Nat} {sp : Sp} {cs : List Str} (F : FnOk X.prog X.w X.K X.mg X.base (L2.CX X.prog X.w) k f fd ps sp) (hr : Room k X.A) (hb : Binds X.K fd ps []) (hB : eqB X.K cs f = true) (hf : PySem.W.isFn X.K (.ref f) = true) : OpR X (compareOp .Eq) (rOwn sp X.K cs) := by
  intro pins s σ H x y v u Q I rx ry h
  obtain ⟨a, b, dx, dy, c, c', fs, gs, rfl, rfl, hc, hc', ha, hbb, hsp⟩ := h
  cases rx
  cases ry
  show wpAny (model X.prog X.w) X.A (richCompare .Eq (.ref a) (.ref b)) (EP X pins σ Q) X.xe s
  obtain ⟨mA, J, _⟩ := ins_get I.hok ha
  obtain ⟨mB, J', _⟩ := ins_get I.hok hbb
  obtain ⟨od, J, _⟩ := J.look
  obtain ⟨od', J', _⟩ := J'.look
  obtain ⟨m, hF⟩ := I.fr
  obtain ⟨k1, k2⟩ := He.ba (List.all_eq_true.mp hB c (by simpa using hc))
  have k3 := List.all_eq_true.mp k2 c' (by simpa using hc')
  refine PySem.W.cmp_K (op := .Eq) (tb := .ref (He.ga X.K c')) hr.units0 hF I.ok.mod.kin J J'.type k3 (of_decide_eq_true k1) hf ?_
  have hl := F.len _ _ _ _ hsp
  have r2 : Vals [V.ref a, V.ref b] [Value.ref a, Value.ref b] := .cons rfl (.cons rfl .nil)
  refine wpAny_mono (run_fn (Q := fun v H' => (∃ k, v = V.bl k) ∧ Q v H') (E := E0) F hr hb .nil passL I r2 (by simpa using hsp)) (fun r s' hq => ?_) fun _ _ z => z
  obtain ⟨z, H', I', rz, hz, q⟩ := hq
  obtain ⟨kk, ek⟩ := hz
  subst ek
  cases (show r = Value.bool kk from rz)
  exact ⟨.bl kk, H', I', rfl, q⟩
theorem od_own {f : Addr} {fd : FuncData} {ps : List Str} {k : Nat} {cs : List Str} {m : Mir} : OpD X (rOwn (spD X.K m) X.K cs) (oEqO cs m) := fun {G H x y dx dy Q W} s rx ry h => by
  cases rx with
  | obj e1 r1 =>
    cases ry with
    | obj e2 r2 =>
      rename_i a1 x1 c1 v1 f1 a2 x2 c2 v2 f2
      have h2 : Rq X.K (DRep X.K) W G H (if (cs.contains c1 && cs.contains c2) = true then (match m [.obj c1 f1, .obj c2 f2] with
        | .ok (.bl b) => .ok (.bl b)
        | _ => .bad) else .bad) Q := h
      by_cases q : (cs.contains c1 && cs.contains c2) = true
      · rw [if_pos q] at h2
        obtain ⟨q1, q2⟩ := Bool.and_eq_true_iff.mp q
        refine ⟨a1, a2, x1, x2, c1, c2, v1, v2, rfl, rfl, q1, q2, s _ _ e1, s _ _ e2, G, [.obj c1 f1, .obj c2 f2], s, .cons (.obj e1 r1) (.cons (.obj e2 r2) .nil), ?_⟩
        split at h2
        · rename_i b eb
          rw [eb]
          intro v H' G' t rv
          cases rv
          exact ⟨⟨b, rfl⟩, h2 (.bl b) H' G' t (.bl b)⟩
        · exact h2.elim
      · rw [if_neg q] at h2; exact h2.elim
    | _ => exact h.elim
  | _ => cases ry <;> exact h.elim
end
end LD

set_option maxHeartbeats 2000000
/-! Layer D, part I: an __init__ that begins by super().__init__(..). -/
namespace LD
open PySem PySem.Spec PyProof.Rows L2

/-- what stands of such an __init__: the class cn, its def at f, the base's __init__ at f2 -/
structure SupK (P : Program) (K : PySem.W.Frag) (cn name qual : Str) (params : Arguments) (body : List Stmt) (scope : Scope) (f : Addr) (fd : FuncData) (f2 : Addr) : Prop where
  ex : ∃ (oc : Value) (od : Option Addr) (kV doc pm : Value) (an : Option Addr) (cda cc : Addr) (ct : Value) (osl : Array (Option Value)),
    fd = PySem.W.fnX name qual params body scope [("__class__", cc)] .none kV doc pm an (.ref cda) ct ∧ K.lookup f = some ⟨oc, od, .func fd, osl⟩ ∧ PySem.W.codeIn K (.ref cda) qual = true ∧
    (∃ (ccl : Value) (cdd : Option Addr) (vs : Array Value) (ccs : Array (Option Value)) (file : Str) (tf : Tok), K.lookup cda = some ⟨ccl, cdd, .fields vs, ccs⟩ ∧ vs[2]? = some (.str file tf) ∧ ((P.main.file : Str) == file) = true) ∧
    ∃ (cl : Value) (cld : Option Addr) (csl : Array (Option Value)), K.lookup cc = some ⟨cl, cld, .cell (some (.ref (He.ga K cn))), csl⟩
  clsD : ∃ cd, PySem.W.clsIn K (He.ga K cn) = some cd
  mro : PySem.W.mroIn K (He.ga K cn) (.ref (He.ga K cn)) = some true
  sup : PySem.W.ks_superIn K (He.ga K cn) (He.ga K cn) "__init__" = some (some (.ref f2))
  ty : PySem.W.typeIn K (.ref f2) = some (.type "function")
  fn : PySem.W.fnIn K f2 = true
  st : PySem.W.nsIn K cStatics "thirdparty.any" = some none

section
variable {X : Cx} {pins : List (Addr × Obj)} {σ : L2.St} {H : Hp} {s : Shared}
theorem clsIn_obj {K : PySem.W.Frag} {D : Addr} {cd : ClassData} (e : PySem.W.clsIn K D = some cd) : ∃ oD, K.lookup D = some oD ∧ oD.data = .cls cd := by
  unfold PySem.W.clsIn at e
  split at e
  · rename_i c d cd' sl ho
    cases e
    exact ⟨_, ho, rfl⟩
  · cases e
/-- the statement super().__init__(e, ..) -/
theorem super_stmt {body : List Stmt} {cn name qual : Str} {params : Arguments} {scope : Scope} {f f2 cda cc x dx : Addr} {fd fd2 : FuncData} {ps2 : List Str} {k : Nat} {sp : Sp} {E : L2.St → XK} {fs : List (Str × V)} {ar : Arg}
    {e : Expr} {es : List Expr} {t : TA} {p0 p1 p2 p3 p4 : Pos} {Q' : Hp → Prop} {oc ccl cl : Value} {od cdd cld : Option Addr} {osl ccs csl : Array (Option Value)} {vs : Array Value} {file : Str} {tf : Tok} {cd : ClassData}
    (lk : X.K.lookup f = some ⟨oc, od, .func fd, osl⟩) (hp : (fd.params.posonlyargs ++ fd.params.args).head? = some ar)
    (hcode : X.K.lookup cda = some ⟨ccl, cdd, .fields vs, ccs⟩) (hvs : vs[2]? = some (.str file tf)) (hfile : ((X.prog.main.file : Str) == file) = true) (hcell : X.K.lookup cc = some ⟨cl, cld, .cell (some (.ref (He.ga X.K cn))), csl⟩)
    (clsD : PySem.W.clsIn X.K (He.ga X.K cn) = some cd) (mro : PySem.W.mroIn X.K (He.ga X.K cn) (.ref (He.ga X.K cn)) = some true) (sup : PySem.W.ks_superIn X.K (He.ga X.K cn) (He.ga X.K cn) "__init__" = some (some (.ref f2)))
    (ty : PySem.W.typeIn X.K (.ref f2) = some (.type "function")) (hfn : PySem.W.fnIn X.K f2 = true) (hstc : PySem.W.nsIn X.K cStatics "thirdparty.any" = some none) (hsup : X.mg "super" = none)
    (hks : X.env.kindOf "super" = some .globalImplicit) (hkc : X.env.kindOf "__class__" = some .free) (hka : X.env.kindOf ar.arg = some .local) (hfu : X.env.func = some f) (hco : X.env.code = .ref cda) (hcc : X.env.cells.lookup ("__class__" : Str) = some cc)
    (htop : (X.prog.main.scope.names.lookup ("super" : Str)).isSome = false)
    (hx0 : σ[0]? = some (some (.ref x))) (hN0 : X.N[0]? = some ar.arg) (hH : H x = some (.ins (He.ga X.K cn) dx fs))
    (F2 : FnOk X.prog X.w X.K X.mg X.base (L2.CX X.prog X.w) k f2 fd2 ps2 sp) (hb2 : Binds X.K fd2 ps2 []) (hr : Room k X.A) (hpass : PassesAt (L2.CX X.prog X.w) X σ (E σ))
    (A : PA X (e :: es) t) (I : Inv X pins σ H s) (h : t σ H fun vs' H1 => sp (.ref x :: vs') H1 (fun _ H2 => Q' H2) (E σ))
    (hi : interactive X.env = false := by rfl) (hs : swapsWith (.Call (.Attribute (.Call (.Name "super" p0) [] [] p1) "__init__" p2) (e :: es) [] p3) none p4.line X.env = pure false := by rfl)
    (he : starEach (e :: es) X.env = (false, eval e X.env) :: starEach es X.env := by rfl) (hpl : (backTo p3 (starEach es X.env)).any (·.1) = false := by rfl)
    {pl : Sem Bool} (hev : eval (.Call (.Attribute (.Call (.Name "super" p0) [] [] p1) "__init__" p2) (e :: es) [] p3) X.env = (do
      let ov ← attributeBase (.Call (.Name "super" p0) [] [] p1) "__init__" X.env (eval (.Call (.Name "super" p0) [] [] p1) X.env)
      standAt p2.atName
      let (f, first) ← holding [ov] (getMethod ov "__init__" pl)
      callWith p3 f first (backTo p3 (starEach (e :: es) X.env)) []) := by rfl) :
    _root_.PySem.wpAt (model X.prog X.w) X.A (.func body X.env) (exec (.Expr (.Call (.Attribute (.Call (.Name "super" p0) [] [] p1) "__init__" p2) (e :: es) [] p3) p4) X.env) (fun fl s' => fl = .next ∧ ∃ H', Inv X pins σ H' s' ∧ Q' H') X.xe s := by
  have KX := I.kIn
  obtain ⟨mA, J, _⟩ := ins_get I.hok hH
  obtain ⟨odx, J, _⟩ := J.look
  obtain ⟨m, hns, hlk⟩ := I.loc
  obtain ⟨u, ru, hl⟩ := hlk 0 ar.arg (.ref x) hN0 hx0 (.inl hka)
  obtain rfl : u = Value.ref x := ru
  have hv : m ar.arg = some (.ref x) := by
    rcases hl with ⟨_, z⟩ | ⟨z, _⟩
    · exact z
    · rw [hka] at z
      rcases z with z | z <;> cases z
  obtain ⟨oD, lD, hD2⟩ := clsIn_obj clsD
  refine PySem.ks_wpAt_Expr_any (PySem.ks_wpAt_MethodCall (pl := pl) ?_ hev) hi hs
  refine PySem.ks_wpAt_super_base hks hkc (by decide) hfu (KX _ _ lk) rfl hp hco (KX _ _ hcode) rfl hvs hfile htop ?_
  obtain ⟨mb, h1, h2⟩ := I.mod.blt
  refine PySem.W.ks_loadName_global I.ok.kind hks (Calls.loadGlobal_builtin (by rw [I.ok.glob]; exact I.mod.glob.keeps I.bk) hsup (by rw [I.ok.blt]; exact h1.keeps I.bk) ((h2 _ (by decide)).trans (by decide +kernel : bootBuiltins "super" = some (.type "super"))) ⟨rfl, ?_⟩)
  refine wpAny_loadName_free I.ok.kind hkc hcc ⟨_, KX _ _ hcell, rfl⟩ ?_
  refine wpAny_loadName_local I.ok.kind hka hns hv ?_
  obtain ⟨hh, g, d, tk, os⟩ := s
  refine PySem.ks_wpAny_isType_cls (KX _ _ lD) hD2 ⟨rfl, ?_⟩
  refine PySem.ks_wpAny_call_super (KX _ _ lD) hD2 J.at_ J.cls (fun c e => ?_) (PySem.W.looks_mroIn KX mro) (fun h' e1 k1 => ?_)
  · have := J.no
    unfold PySem.W.notCls at this
    rw [e] at this
    exact Bool.noConfusion this
  have I1 : Inv X pins σ H ⟨h', g, d, tk, os⟩ := I.kept (t' := tk) k1
  have KX1 := I1.kIn
  -- the bound method
  cases hc : PySem.W.clsIn X.K (He.ga X.K cn) with
  | none => rw [hc] at clsD; cases clsD
  | some cd =>
    have sup2 := sup
    unfold PySem.W.ks_superIn at sup2
    rw [hc] at sup2
    obtain ⟨of, hof, hofc⟩ : ∃ of, X.K.lookup f2 = some of ∧ of.cls = .type "function" := by
      have ht' : (X.K.lookup f2).map (·.cls) = some (.type "function") := ty
      cases z : X.K.lookup f2 with
      | none => rw [z] at ht'; cases ht'
      | some of => rw [z] at ht'; exact ⟨of, rfl, Option.some.inj ht'⟩
    have hxC : x ≠ He.ga X.K cn := PySem.W.ks_ne KX J hc
    refine PySem.ks_wpAny_getMethod_super e1 (PySem.W.looks_opaque KX1 hstc) (l₀ := cd.mro) ?_ rfl KX1 sup2 (KX1 _ _ hof) hofc hxC (by decide) ?_
    · exact fun A Q E s k q => wpAny_bind ((PySem.W.looks_clsIn KX1 hc) A _ E s k (wpAny_pure q))
    have I2 : Inv X pins σ H ⟨h'.push { cls := .type "method", data := .fields #[.ref f2, .ref x] }, g, d, tk + 1, os⟩ := I1.kept (t' := tk + 1) fun b o e => Heap.get?_push_of_some _ e
    have hq : (h'.push { cls := .type "method", data := .fields #[.ref f2, .ref x] }).get? h'.objs.size = some (PySem.W.methodObj (.ref f2) (.ref x)) := Heap.get?_push_at rfl rfl
    have fpo : FpOk X pins H h'.objs.size := I1.fpOk (Nat.le_refl _) (I1.hok.fresh (Nat.le_refl _))
    have I3 := I2.pinned (fp := [h'.objs.size]) (fun b hb => by rw [List.mem_singleton.mp hb]; exact fpo) fun b hb => by rw [List.mem_singleton.mp hb]; exact ⟨_, hq, fun v z => nomatch z⟩
    have hmem : (h'.objs.size, PySem.W.methodObj (.ref f2) (.ref x)) ∈ pinsAt [h'.objs.size] (h'.push { cls := .type "method", data := .fields #[.ref f2, .ref x] }) := mem_pinsAt (List.mem_singleton.mpr rfl) hq
    show wpAny _ _ (callWith p3 (.ref h'.objs.size) [] (backTo p3 (starEach (e :: es) X.env)) []) _ _ _
    rw [he]
    refine PySem.W.callWith_of (P := PySem.W.MethP X.K h'.objs.size f2 (.ref x)) (by show ((false || (backTo p3 (starEach es X.env)).any (·.1)) || false) = false; rw [hpl]; rfl) (PySem.W.keeps_M hfn) (Calls.evalArgs_plain ?_)
    have ar := A.run p3 _ _ σ H _ I3 h
    rw [he] at ar
    refine thn ar fun us s1 ⟨vs', H1, I4, r, q⟩ => ?_
    have hq4 := (I4.pin _ (List.mem_append_right _ (List.mem_append_right _ hmem))).1
    refine ⟨⟨hq4, I4.kIn⟩, ?_⟩
    show wpAny _ _ (call (.ref h'.objs.size) us) _ _ _
    have hl := F2.len _ _ _ _ q
    have r2 : Vals (V.ref x :: vs') (Value.ref x :: us) := .cons rfl r
    have b2 := hb2 s1 (.ref x :: us) I4.kIn (by rw [List.append_nil, ← r2.length]; exact hl)
    rw [List.append_nil] at b2
    refine wpAny_call (PySem.ks_codeAny_call_bound hq4 (codeAny_mono (F2.run X.A X.stack s1 H1 ⟨.ref x :: us, []⟩ (.ref x :: us) (.ref x :: vs') _ (E σ) hr I4.env0 b2 r2 q) fun r' s' hq' => ?_))
    cases r' with
    | error er => exact hpass _ _ s1 er s' I4 hq'
    | ok fl =>
      cases fl with
      | ret w =>
        obtain ⟨_, H', I5, _, q5⟩ := I4.after hq'
        exact ⟨rfl, H', I5.unpinned, q5⟩
      | next => exact False.elim hq'
      | brk => exact False.elim hq'
      | cont => exact False.elim hq'
end

/-! ### the def -/
theorem sok_at {K : PySem.W.Frag} {B : Bas} {G H : Hp} {p dx : Addr} {c : Str} {ws : List (Str × V)} {fs : List (Str × DV)} {vs : List V} {ds : List DV} {k m : Nat} (t : Tr B.G0 B.H0 G H) (h0 : B.H0 p = none) (hpa : B.pa = some p) (hp : H p = some (.ins (He.ga K c) dx ws)) (hg : G p = none)
    (rf : FReps K G ws fs) (r : DReps K G vs ds) (hm : m = k) : SOk K B G H (Sl.oo c fs :: (ds.map Sl.pu ++ List.replicate k Sl.un)) (some (.ref p) :: (vs.map some ++ List.replicate m none)) := by
  have S := sok_args (K := K) t.gh r hm
  have mem : ∀ {i : Nat} {a : Sl}, (Sl.oo c fs :: (ds.map Sl.pu ++ List.replicate k Sl.un))[i + 1]? = some a → (∃ d, a = .pu d) ∨ a = .un := fun {i a} e => by
    have h := List.mem_of_getElem? (show (ds.map Sl.pu ++ List.replicate k Sl.un)[i]? = some a from by simpa using e)
    rcases List.mem_append.mp h with h | h
    · obtain ⟨d, _, z⟩ := List.mem_map.mp h; exact .inl ⟨d, z.symm⟩
    · exact .inr (List.mem_replicate.mp h).2
  refine ⟨t, by have := S.len; simp only [List.length_cons]; omega, fun i sl e => ?_, fun i j a b q e1 e2 o1 o2 h1 h2 => ?_, fun i c' fs' e => ?_⟩
  · cases i with
    | zero =>
      simp at e
      subst e
      exact ⟨p, rfl, h0, hg, dx, ws, hp, rf⟩
    | succ i =>
      have z := S.sl i sl (by simpa using e)
      rcases mem e with ⟨d, rfl⟩ | rfl
      · simpa [SlOk] using z
      · trivial
  · have no : ∀ {i : Nat} {a : Sl}, (Sl.oo c fs :: (ds.map Sl.pu ++ List.replicate k Sl.un))[i]? = some a → isOwn a = true → i = 0 := fun {i a} e o => by
      cases i with
      | zero => rfl
      | succ i => rcases mem e with ⟨d, rfl⟩ | rfl <;> cases o
    rw [no e1 o1, no e2 o2]
  · cases i with
    | zero => exact ⟨p, hpa, rfl⟩
    | succ i => rcases mem e with ⟨d, z⟩ | z <;> cases z
theorem Tr.dlp {G0 H0 G H : Hp} {p : Addr} (t : Tr G0 (dl H0 p) G H) (hg : G p = none) : Tr G0 (dl H0 p) G (dl H p) := by
  refine ⟨fun a o e => ?_, t.gg, fun a o e => ?_, t.nw⟩
  · have ne : a ≠ p := fun z => by rw [z, dl_same] at e; cases e
    rw [dl_ne ne]; exact t.sm a o e
  · have ne : a ≠ p := fun z => by rw [z, hg] at e; cases e
    rw [dl_ne ne]; exact t.gh a o e
/-- the mirror of an __init__ that begins by super().__init__(es) -/
def imS (cn : Str) (n p : Nat) (fes : Ev → R (List DV)) (mi : Imi) (n2 : Nat) (F : Ev → SR) : Imi := fun c fs ds => if (c == cn && Nat.beq ds.length p) = true then
  (fes (Sl.oo c fs :: (ds.map Sl.pu ++ List.replicate (n - (p + 1)) Sl.un))).bind fun ds2 => if Nat.beq ds2.length n2 = true then (mi c fs ds2).bind fun fs2 =>
    match F (Sl.oo c fs2 :: (ds.map Sl.pu ++ List.replicate (n - (p + 1)) Sl.un)) with
    | .nx δ => (match (δ[0]? : Option Sl) with
      | some (Sl.oo c' fs') => if c' = c then .ok fs' else .bad
      | _ => .bad)
    | .ex c fs _ => .exc c fs
    | _ => .bad
  else .bad else .bad
section
variable {P : Program} {w : World} {K : PySem.W.Frag} {mg : Str → Option Value} {base : Heap}
theorem fn_initS {cn name qual : Str} {params : Arguments} {scope : Scope} {f f2 : Addr} {fd fd2 : FuncData} {N ps ps2 : List Str} {k n n2 : Nat} {mi : Imi} {fes : Ev → R (List DV)} {F : Ev → SR} {e : Expr} {es : List Expr} {rest : List Stmt} {p0 p1 p2 p3 p4 : Pos} {a0 : Str} {ar : Arg}
    (D : SupK P K cn name qual params (.Expr (.Call (.Attribute (.Call (.Name "super" p0) [] [] p1) "__init__" p2) (e :: es) [] p3) p4 :: rest) scope f fd f2) (S : NdefX.NScope N ps ["__class__"] scope) (hn : ps.length = n + 1) (hps : ps[0]? = some a0)
    (hp : (params.posonlyargs ++ params.args).head? = some ar) (har : ar.arg = a0) (hks : scope.names.lookup ("super" : Str) = some .globalImplicit)
    (htop : (P.main.scope.names.lookup ("super" : Str)).isSome = false) (hsup : mg "super" = none)
    (F2 : FnOk P w K mg base (L2.CX P w) k f2 fd2 ps2 (spI K n2 mi)) (hb2 : Binds K fd2 ps2 [])
    (hargs : ∀ (NF : NdefX.NF) (A : Around) (outer : List Env) (s : Shared) (H : Hp) (E : XK), NF.scope = scope → NF.qual = qual → Room k (A.deeper (NdefX.envF NF f s.heap.objs.size)) →
      PDA (NdefX.ncx (L2.CX P w) P w K mg base N NF f A outer s H E) (fun cls d _ H' => E cls d H') (e :: es) fes)
    (hrest : ∀ (NF : NdefX.NF) (A : Around) (outer : List Env) (s : Shared) (H : Hp) (E : XK), NF.scope = scope → NF.qual = qual → Room k (A.deeper (NdefX.envF NF f s.heap.objs.size)) →
      PSSD (NdefX.ncx (L2.CX P w) P w K mg base N NF f A outer s H E) (fun cls d _ H' => E cls d H') rest F)
    (hint : ∀ env : Env, env.scope = scope → interactive env = false := by intro env h; unfold interactive; rw [h]; rfl)
    (hs : ∀ env, swapsWith (.Call (.Attribute (.Call (.Name "super" p0) [] [] p1) "__init__" p2) (e :: es) [] p3) none p4.line env = pure false := by intro _; rfl)
    (he : ∀ env, starEach (e :: es) env = (false, eval e env) :: starEach es env := by intro _; rfl) (hpl : ∀ env, (backTo p3 (starEach es env)).any (·.1) = false := by intro _; rfl)
    (hev : ∀ env, ∃ pl : Sem Bool, eval (.Call (.Attribute (.Call (.Name "super" p0) [] [] p1) "__init__" p2) (e :: es) [] p3) env = (do
      let ov ← attributeBase (.Call (.Name "super" p0) [] [] p1) "__init__" env (eval (.Call (.Name "super" p0) [] [] p1) env)
      standAt p2.atName
      let (f, first) ← holding [ov] (getMethod ov "__init__" pl)
      callWith p3 f first (backTo p3 (starEach (e :: es) env)) []) := by intro _; exact ⟨_, rfl⟩) :
    FnOk P w K mg base (L2.CX P w) (k + 1) f fd ps (spI K n (imS cn N.length n fes mi n2 F)) := by
  obtain ⟨oc, od, kV, doc, pm, an, cda, cc, ct, osl, rfl, lk, hcd, ⟨ccl, cdd, vs0, ccs, file, tf, hcode, hvs, hfile⟩, cl, cld, csl, hcell⟩ := D.ex
  obtain ⟨cd, clsD⟩ := D.clsD
  refine ⟨fun vs H Q E h => ?_, fun A outer s H args us vs Q E hr e0 hb r hsp => ?_⟩
  · obtain ⟨p, dx, c, ws, fs, G, vs', ds, rfl, hl, _⟩ := h
    rw [List.length_cons, hl, hn]
  · obtain ⟨p, dx, c, ws, fs, G, vs', ds, rfl, hl, hpp, hg, s1, rf, rd, h⟩ := hsp
    have KX : K.In s.heap := e0.mod.kin.keeps fun b o e => (e0.bs b o e).1
    have lim : s.heap.NoLimit := e0.mod.nolimit.keeps fun b o e => (e0.bs b o e).1
    have hlen : (V.ref p :: vs').length = ps.length := by rw [List.length_cons, hl, hn]
    have hN : ps.length + 1 ≤ N.length := by
      have q := congrArg List.length S.pre
      rw [List.length_take, List.length_append, List.length_singleton] at q
      omega
    unfold imS at h
    by_cases qc : (c == cn && Nat.beq ds.length n) = true
    · rw [if_pos qc] at h
      obtain ⟨qc1, qc2⟩ := Bool.and_eq_true_iff.mp qc
      have ec : c = cn := eq_of_beq qc1
      subst ec
      -- the entry's slots
      have es0 : NdefX.startF N (V.ref p :: vs') [none] = some (.ref p) :: (vs'.map some ++ List.replicate (N.length - (n + 1)) none) := by
        unfold NdefX.startF
        rw [List.length_cons, hl, List.length_singleton]
        have : N.length - (n + 1) = (N.length - (n + 1) - 1) + 1 := by omega
        rw [this, List.replicate_succ]
        rfl
      generalize hδ : (Sl.oo c fs :: (ds.map Sl.pu ++ List.replicate (N.length - (n + 1)) Sl.un)) = δ0 at h
      have S0 : SOk K ⟨dl H p, G, some p⟩ G H δ0 (some (.ref p) :: (vs'.map some ++ List.replicate (N.length - (n + 1)) none)) := by
        rw [← hδ]
        exact sok_init s1 hpp hg rf rd rfl
      have t0 : Tr G (dl H p) G H := ⟨dl_sub, Same.refl _, s1, fun _ _ => rfl⟩
      let NF : NdefX.NF := ⟨name, qual, params, (.Expr (.Call (.Attribute (.Call (.Name "super" p0) [] [] p1) "__init__" p2) (e :: es) [] p3) p4 :: rest), scope, [("__class__", cc)], cda⟩
      let Q' : Hp → Prop := fun H2 => ∃ ds2 fs2 G' dx' ws', fes δ0 = .ok ds2 ∧ Nat.beq ds2.length n2 = true ∧ mi c fs ds2 = .ok fs2 ∧ Tr G (dl H p) G' H2 ∧ G' p = none ∧ H2 p = some (.ins (He.ga K c) dx' ws') ∧ FReps K G' ws' fs2
      have hA : Rq K (DReps K) (fun c d H' => E c d H') G H (fes δ0) (fun vs2 H1 => spI K n2 mi (.ref p :: vs2) H1 (fun _ H2 => Q' H2) E) := by
        cases q1 : fes δ0 with
        | bad => rw [q1] at h; exact h.elim
        | exc c' xs => rw [q1] at h; exact fun H' G' d t x => h H' G' d (t0.trans t) x
        | ok ds2 =>
          rw [q1] at h
          intro vs2 H1 G1 t1 r1
          have h3 : RqI K E G H p c (if Nat.beq ds2.length n2 = true then (mi c fs ds2).bind _ else .bad) Q := h
          by_cases qn : Nat.beq ds2.length n2 = true
          · rw [if_pos qn] at h3
            have hH1 := t1.sm _ _ hpp
            have hG1 : G1 p = none := by rw [t1.nw p (by rw [hpp]; simp)]; exact hg
            have td := Tr.dlp (t0.trans t1) hG1
            refine ⟨p, dx, c, ws, fs, G1, vs2, ds2, rfl, by rw [r1.length]; exact Nat.eq_of_beq_eq_true qn, hH1, hG1, t1.gh, rf.mono t1.gg, r1, ?_⟩
            cases q2 : mi c fs ds2 with
            | bad => rw [q2] at h3; exact h3.elim
            | exc c' xs => rw [q2] at h3; exact fun H' G' d t x => h3 H' G' d (td.trans t) x
            | ok fs2 => exact fun H' G' dx' ws' t hg' e' rf' => ⟨ds2, fs2, G', dx', ws', q1, qn, q2, td.trans t, hg', e', rf'⟩
          · rw [if_neg qn] at h3; exact h3.elim
      refine PySem.ks_codeAny_call_defAt (fd := PySem.W.fnX name qual params (.Expr (.Call (.Attribute (.Call (.Name "super" p0) [] [] p1) "__init__" p2) (e :: es) [] p3) p4 :: rest) scope [("__class__", cc)] .none kV doc pm an (.ref cda) ct)
        (body := .Expr (.Call (.Attribute (.Call (.Name "super" p0) [] [] p1) "__init__" p2) (e :: es) [] p3) p4 :: rest) (binds := ps.zip us) hr.depth (KX _ _ lk) rfl lim (PySem.W.codeRec_of KX hcd) rfl hb S.nocell (fun ⟨y, v⟩ hy => S.par y (List.of_mem_zip hy).1) (fun h₁ hns hk₁ => ?_) S.co S.gen S.kind
      have C : NdefX.CellsAt [(("__class__" : Str), cc)] ["__class__"] [none] s.heap H := by
        have key : ∀ {y : Str} {c' : Addr}, List.lookup y [(("__class__" : Str), cc)] = some c' → y = "__class__" ∧ c' = cc := fun {y c'} e => by
          rw [List.lookup_cons] at e
          cases q : y == ("__class__" : Str) with
          | true => rw [q] at e; exact ⟨eq_of_beq q, (Option.some.inj e).symm⟩
          | false => rw [q] at e; cases e
        refine ⟨rfl, fun y c' e => ?_, fun x y c' e1 e2 => ?_, fun i y e => ?_⟩
        · obtain ⟨rfl, rfl⟩ := key e
          exact ⟨(e0.bs _ _ (e0.mod.kin _ _ hcell)).2, ⟨_, _, KX _ _ hcell, rfl⟩⟩
        · rw [(key e1).1, (key e2).1]
        · cases i with
          | zero =>
            simp at e
            subst e
            exact ⟨cc, rfl, fun v z => by simp at z⟩
          | succ i => simp at e
      have I : Inv (NdefX.ncx (L2.CX P w) P w K mg base N NF f A outer s H E) [] (NdefX.startF N (V.ref p :: vs') [none]) H { s with heap := h₁, toks := s.toks + (ps.zip us).length } :=
        NdefX.inv_startN (F := NF) S hr.hd e0 hlen r C hns hk₁
      rw [es0] at I
      obtain ⟨ta, pa, ha⟩ := (hargs NF A outer s H E rfl rfl (hr.deeper _)).ex
      obtain ⟨pl, hev'⟩ := hev (NdefX.ncx (L2.CX P w) P w K mg base N NF f A outer s H E).env
      have hN0 : (NdefX.ncx (L2.CX P w) P w K mg base N NF f A outer s H E).N[0]? = some ar.arg := by
        show N[0]? = some ar.arg
        have z : (N.take (ps.length + 1))[0]? = (ps ++ [("__class__" : Str)])[0]? := congrArg (fun l : List Str => l[0]?) S.pre
        rw [List.getElem?_take_of_lt (by omega), List.getElem?_append_left (by omega), hps] at z
        rw [z, har]
      refine PySem.ks_wpAt_execs_cons (PySem.ks_wpAt_mono (super_stmt (X := NdefX.ncx (L2.CX P w) P w K mg base N NF f A outer s H E) (E := fun _ => E) (Q' := Q') (sp := spI K n2 mi) (name := name) (qual := qual) (params := params) (scope := scope) (cn := c) (fd2 := fd2) (ps2 := ps2) (k := k) (f2 := f2) (ar := ar) (t := ta) (dx := dx) (fs := ws) (pl := pl)
        (body := .Expr (.Call (.Attribute (.Call (.Name "super" p0) [] [] p1) "__init__" p2) (e :: es) [] p3) p4 :: rest)
        lk hp hcode hvs hfile hcell clsD D.mro D.sup D.ty D.fn D.st hsup hks (S.frk _ (List.mem_singleton.mpr rfl)) (S.par _ (List.mem_of_getElem? (by rw [har]; exact hps))) rfl rfl rfl htop rfl hN0 hpp F2 hb2 (hr.deeper _)
        (passAt (W := fun cls d _ H' => E cls d H') (takes_of (X := NdefX.ncx (L2.CX P w) P w K mg base N NF f A outer s H E) rfl rfl rfl rfl) _) pa I (ha S0 hA) (hint _ rfl) (hs _) (he _) (hpl _) hev') (fun fl s' z => ?_) (fun _ _ z => z))
      obtain ⟨rfl, H2, I2, ds2, fs2, G', dx', ws', q1, qn, q2, t, hg', e', rf'⟩ := z
      rw [q1] at h
      have h3 : RqI K E G H p c (if Nat.beq ds2.length n2 = true then (mi c fs ds2).bind fun fs2 => (match F (Sl.oo c fs2 :: (ds.map Sl.pu ++ List.replicate (N.length - (n + 1)) Sl.un)) with
        | .nx δ => (match (δ[0]? : Option Sl) with
          | some (Sl.oo c' fs') => if c' = c then .ok fs' else .bad
          | _ => .bad)
        | .ex c fs _ => .exc c fs
        | _ => .bad) else .bad) Q := h
      rw [if_pos qn, q2] at h3
      obtain ⟨tr, pr, hr2⟩ := (hrest NF A outer s H E rfl rfl (hr.deeper _)).ex
      have S1 : SOk K ⟨dl H p, G, some p⟩ G' H2 (Sl.oo c fs2 :: (ds.map Sl.pu ++ List.replicate (N.length - (n + 1)) Sl.un)) (some (.ref p) :: (vs'.map some ++ List.replicate (N.length - (n + 1)) none)) :=
        sok_at (B := ⟨dl H p, G, some p⟩) t dl_same rfl e' hg' rf' (rd.mono t.gg) rfl
      refine wpAt_of_wpAny (wpAny_mono (pr.run [] s' _ H2 { nx := fun _ H' => Q .non H', rt := Q } I2 (hr2 S1 ?_)) (fun fl s3 hs3 => ?_) fun er s3 hs3 => hs3)
      · have h4 : RqI K E G H p c (match F (Sl.oo c fs2 :: (ds.map Sl.pu ++ List.replicate (N.length - (n + 1)) Sl.un)) with
          | .nx δ => (match (δ[0]? : Option Sl) with
            | some (Sl.oo c' fs') => if c' = c then .ok fs' else .bad
            | _ => .bad)
          | .ex c fs _ => .exc c fs
          | _ => .bad) Q := h3
        cases q : F (Sl.oo c fs2 :: (ds.map Sl.pu ++ List.replicate (N.length - (n + 1)) Sl.un)) with
        | nx δ =>
          rw [q] at h4
          intro σ H3 G3 g S'
          cases q0 : (δ[0]? : Option Sl) with
          | none =>
            have h5 : RqI K E G H p c (match (δ[0]? : Option Sl) with
              | some (Sl.oo c' fs') => if c' = c then .ok fs' else .bad
              | _ => .bad) Q := h4
            rw [q0] at h5; exact h5.elim
          | some sl =>
            have h5 : RqI K E G H p c (match (δ[0]? : Option Sl) with
              | some (Sl.oo c' fs') => if c' = c then .ok fs' else .bad
              | _ => .bad) Q := h4
            rw [q0] at h5
            cases sl with
            | oo c' fs' =>
              by_cases qc : c' = c
              · subst qc
                have h6 : RqI K E G H p c' (.ok fs') Q := by
                  have z : RqI K E G H p c' (if c' = c' then .ok fs' else .bad) Q := h5
                  rw [if_pos rfl] at z; exact z
                obtain ⟨pp, es2, h0, hg2, dx2, vs2, hp2, r2⟩ := S'.own q0 rfl
                obtain ⟨p', hpa, es3⟩ := S'.me 0 c' fs' q0
                have e1 : p = p' := Option.some.inj hpa
                have e2 : pp = p' := by
                  rw [es2] at es3
                  injection es3 with z; injection z with z; injection z
                subst e1 e2
                exact h6 H3 G3 dx2 vs2 S'.tr hg2 hp2 r2
              · have z : RqI K E G H p c (if c' = c then .ok fs' else .bad) Q := h5
                rw [if_neg qc] at z; exact z.elim
            | _ => exact h5.elim
        | rt d => rw [q] at h4; exact h4.elim
        | ex cn xs δ => rw [q] at h4; exact fun σ H3 G3 dx' g S' x => h4 H3 G3 dx' S'.tr x
        | bk δ => rw [q] at h4; exact h4.elim
        | ct δ => rw [q] at h4; exact h4.elim
        | bad => rw [q] at h4; exact h4.elim
      · have fin : ∀ {σ' : L2.St} {H' : Hp} {v : V} {u : Value}, Inv (NdefX.ncx (L2.CX P w) P w K mg base N NF f A outer s H E) [] σ' H' s3 → L2.RelV v u → Q v H' → CE outer P w H s Q u s3 :=
          fun {σ' H' v u} J rv q => ⟨v, H', J.os, J.bare, J.base, J.hok, rv, q⟩
        cases fl with
        | ret u =>
          obtain ⟨v, σ', H', J, rv, q⟩ := hs3
          exact fin J rv q
        | next =>
          obtain ⟨σ', H', J, q⟩ := hs3
          exact fin (v := V.non) (u := Value.none) J rfl q
        | brk =>
          obtain ⟨_, _, _, q⟩ := hs3
          exact False.elim q
        | cont =>
          obtain ⟨_, _, _, q⟩ := hs3
          exact False.elim q
    · rw [if_neg qc] at h; exact h.elim
end
end LD

set_option maxHeartbeats 2000000
/-! Layer D, part J: the head's facts. -/
namespace LD
open PySem PySem.Spec PyProof.Rows L2

/-! ### where a def stands -/
inductive Wh where
  | glo (x : Str)
  | meth (c m : Str)
  /-- a property's getter -/
  | prop (c f : Str)
def pgA (K : PySem.W.Frag) (p : Addr) : Addr := match PySem.W.recIn K p "property" with
  | some (.ref g :: _) => g
  | _ => 0
def Wh.adr (K : PySem.W.Frag) : Wh → Addr
  | .glo x => He.ga K x
  | .meth c m => He.ma K (He.ga K c) m
  | .prop c f => pgA K (He.ma K (He.ga K c) f)
abbrev FnW : Type := Option (Str × Str × Arguments × FuncBody × Scope × Addr × List Str × Addr)
def fnW (K : PySem.W.Frag) (a : Addr) : FnW := match K.lookup a with
  | some ⟨_, _, .func fd, _⟩ => some (fd.name, fd.qualname, fd.params, fd.body, fd.scope, fd.globals, fd.closure.map (·.1), fd.builtins)
  | _ => none
/-- one def; sup: its own class and the next one's name, where it says super() -/
structure DefE where
  at_ : Wh
  name : Str
  qual : Str
  params : Arguments
  body : List Stmt
  scope : Scope
  dfl : List He.Dv := []
  kwd : List (Str × He.Dv) := []
  sup : Option (Str × Str) := none
def DefE.val (d : DefE) : FnW := some (d.name, d.qual, d.params, .stmts d.body, d.scope, mainGlobals, (match d.sup with
  | some _ => ["__class__"]
  | none => []), builtinsNs)
def DefE.dvs (K : PySem.W.Frag) (d : DefE) : List V := d.dfl.map (He.Dv.v K)
def DefE.kws (K : PySem.W.Frag) (d : DefE) : List (Str × V) := d.kwd.map fun q => (q.1, q.2.v K)
def DefE.ok (K : PySem.W.Frag) (d : DefE) : Bool := PySem.W.keepIn K (.ref (d.at_.adr K)) && (match K.lookup (d.at_.adr K) with
  | some ⟨_, _, .func fd, _⟩ => PySem.W.codeIn K fd.code d.qual && (He.dflB K fd.defaults (d.dvs K) && He.kwdB K fd.kwdefaults (d.kws K))
  | _ => false)
theorem DefE.funD {K : PySem.W.Frag} {d : DefE} (e : fnW K (d.at_.adr K) = d.val) (c : d.ok K = true) (hs : d.sup = none) : ∃ fd, FunD K d.name d.qual d.params d.body d.scope (d.dvs K) (d.kws K) (d.at_.adr K) fd := by
  obtain ⟨kp, c2⟩ := He.ba c
  unfold fnW at e
  unfold DefE.val at e
  rw [hs] at e
  cases q : K.lookup (d.at_.adr K) with
  | none => rw [q] at c2; cases c2
  | some o =>
    obtain ⟨oc, od, dt, osl⟩ := o
    rw [q] at c2 e
    cases dt with
    | func fd =>
      obtain ⟨n1, n2, n3, n4, n5, n6, n7, n8, n9, n10, n11, n12, n13, n14, n15⟩ := fd
      have e2 : (some (n1, n2, n3, n4, n5, n6, n7.map (·.1), n15) : FnW) = some (d.name, d.qual, d.params, .stmts d.body, d.scope, mainGlobals, [], builtinsNs) := e
      simp only [Option.some.injEq, Prod.mk.injEq, List.map_eq_nil_iff] at e2
      obtain ⟨h1, h2, h3, h4, h5, h6, h7, h8⟩ := e2
      subst h1 h2 h3 h4 h5 h6 h7 h8
      have c3 : (PySem.W.codeIn K n13 d.qual && (He.dflB K n8 (d.dvs K) && He.kwdB K n9 (d.kws K))) = true := c2
      obtain ⟨k1, k2⟩ := He.ba c3
      obtain ⟨k3, k4⟩ := He.ba k2
      exact ⟨_, ⟨oc, od, n8, n9, n10, n11, n12, n13, n14, osl, rfl, q, k1, He.dflB_ok k3, He.kwdB_ok k4⟩, kp⟩
    | _ => cases c2
/-! ### super().__init__ -/
def supB (P : Program) (K : PySem.W.Frag) (d : DefE) : Bool := match d.sup with
  | none => true
  | some (cn, bn) => d.dfl.isEmpty && ((match K.lookup (d.at_.adr K) with
    | some ⟨_, _, .func fd, _⟩ => (match fd.closure, fd.code with
      | [(_, cc)], .ref cda => (match K.lookup cda with
        | some ⟨_, _, .fields vs, _⟩ => (match (vs[2]? : Option Value) with
          | some (Value.str file _) => ((P.main.file : Str) == file)
          | _ => false)
        | _ => false) && (match K.lookup cc with
        | some ⟨_, _, .cell (some (.ref D)), _⟩ => decide (D = He.ga K cn)
        | _ => false)
      | _, _ => false)
    | _ => false) && ((PySem.W.clsIn K (He.ga K cn)).isSome && (decide (PySem.W.mroIn K (He.ga K cn) (.ref (He.ga K cn)) = some true) && (He.eqO (PySem.W.ks_superIn K (He.ga K cn) (He.ga K cn) "__init__") (some (some (.ref (He.ma K (He.ga K bn) "__init__")))) &&
      (decide (PySem.W.typeIn K (.ref (He.ma K (He.ga K bn) "__init__")) = some (.type "function")) && (PySem.W.fnIn K (He.ma K (He.ga K bn) "__init__") && He.eqO (PySem.W.nsIn K cStatics "thirdparty.any") (some none)))))))
theorem supK_of {P : Program} {K : PySem.W.Frag} {d : DefE} {cn bn : Str} (e : fnW K (d.at_.adr K) = d.val) (c : d.ok K = true) (hs : d.sup = some (cn, bn)) (b : supB P K d = true) :
    ∃ fd, SupK P K cn d.name d.qual d.params d.body d.scope (d.at_.adr K) fd (He.ma K (He.ga K bn) "__init__") := by
  obtain ⟨kp, c2⟩ := He.ba c
  unfold supB at b
  rw [hs] at b
  obtain ⟨b0, b⟩ := He.ba b
  obtain ⟨b1, b2⟩ := He.ba b
  obtain ⟨b2, b3⟩ := He.ba b2
  obtain ⟨b3, b4⟩ := He.ba b3
  obtain ⟨b4, b5⟩ := He.ba b4
  obtain ⟨b5, b6⟩ := He.ba b5
  obtain ⟨b6, b7⟩ := He.ba b6
  unfold fnW at e
  unfold DefE.val at e
  rw [hs] at e
  cases q : K.lookup (d.at_.adr K) with
  | none => rw [q] at c2; cases c2
  | some o =>
    obtain ⟨oc, od, dt, osl⟩ := o
    rw [q] at c2 e b1
    cases dt with
    | func fd =>
      obtain ⟨n1, n2, n3, n4, n5, n6, n7, n8, n9, n10, n11, n12, n13, n14, n15⟩ := fd
      have e2 : (some (n1, n2, n3, n4, n5, n6, n7.map (·.1), n15) : FnW) = some (d.name, d.qual, d.params, FuncBody.stmts d.body, d.scope, mainGlobals, (["__class__"] : List Str), builtinsNs) := e
      simp only [Option.some.injEq, Prod.mk.injEq] at e2
      obtain ⟨h1, h2, h3, h4, h5, h6, h7, h8⟩ := e2
      subst h1 h2 h3 h4 h5 h6 h8
      have c3 : (PySem.W.codeIn K n13 d.qual && (He.dflB K n8 (d.dvs K) && He.kwdB K n9 (d.kws K))) = true := c2
      obtain ⟨k1, k2⟩ := He.ba c3
      have e8 : n8 = .none := by
        have z := (He.ba k2).1
        have y : d.dvs K = [] := by unfold DefE.dvs; rw [List.isEmpty_iff.mp b0]; rfl
        rw [y] at z
        cases n8 with
        | none => rfl
        | _ => cases z
      subst e8
      dsimp only at b1
      cases n7 with
      | nil => cases h7
      | cons z r =>
        obtain ⟨y, cc⟩ := z
        cases r with
        | cons _ _ => cases h7
        | nil =>
          cases n13 with
          | ref cda =>
            obtain ⟨b11, b12⟩ := He.ba b1
            have ey : y = "__class__" := by
              have : [y] = [("__class__" : Str)] := h7
              injection this
            subst ey
            refine ⟨_, ⟨oc, od, n9, n10, n11, n12, cda, cc, n14, osl, rfl, q, k1, ?_, ?_⟩, Option.isSome_iff_exists.mp b2, of_decide_eq_true b3, He.eqO_ok b4, of_decide_eq_true b5, b6, He.eqO_ok b7⟩
            · split at b11
              · rename_i ccl cdd vs ccs hq
                split at b11
                · rename_i file tf hv
                  exact ⟨ccl, cdd, vs, ccs, file, tf, hq, hv, b11⟩
                · cases b11
              · cases b11
            · split at b12
              · rename_i cl cld D csl hq
                have : D = He.ga K cn := of_decide_eq_true b12
                subst this
                exact ⟨cl, cld, csl, hq⟩
              · cases b12
          | _ => cases b1
    | _ => cases c2
/-! ### single facts -/
abbrev Fk := PySem.W.Frag → Bool
def kcB (c : Str) : Fk := fun K => (He.Fa.cls c).ok K && (He.eqO (PySem.W.findIn K (.ref (He.ga K c)) "__class__") (some (some (.builtin "object.__class__"))) && (He.eqO (PySem.W.specialIn K (.builtin "object.__class__") "__get__") (some (some (.builtin "getset_descriptor.__get__"))) &&
  (decide (PySem.W.takesIn K (.builtin "object.__class__") = some true) && decide (PySem.W.mroIn K (He.ga K c) (.type "object") = some true))))
theorem kcB_ok {K : PySem.W.Frag} {c : Str} (h : kcB c K = true) : KC K c := by
  obtain ⟨h1, h⟩ := He.ba h
  obtain ⟨h2, h⟩ := He.ba h
  obtain ⟨h3, h⟩ := He.ba h
  obtain ⟨h4, h5⟩ := He.ba h
  exact ⟨He.cls_ok h1, He.eqO_ok h2, He.eqO_ok h3, of_decide_eq_true h4, of_decide_eq_true h5⟩
/-- the class's constant f is the value v -/
def conB (c f : Str) (v : V) : Fk := fun K => match PySem.W.findIn K (.ref (He.ga K c)) f with
  | some (some u) => He.relB v u && (He.eqO (PySem.W.specialIn K u "__get__") (some none) && !(PySem.W.copiedNames.contains f))
  | _ => false
theorem conB_ok {K : PySem.W.Frag} {c f : Str} {v : V} (h : conB c f v K = true) : ∃ u, Con K (He.ga K c) f v u := by
  unfold conB at h
  cases q : PySem.W.findIn K (.ref (He.ga K c)) f with
  | none => rw [q] at h; cases h
  | some o =>
    cases o with
    | none => rw [q] at h; cases h
    | some u =>
      rw [q] at h
      obtain ⟨h1, h⟩ := He.ba h
      obtain ⟨h2, h3⟩ := He.ba h
      exact ⟨u, q, He.relB_ok h1, He.eqO_ok h2, by simpa using h3⟩
def propB (c f : Str) : Fk := fun K => He.eqO (PySem.W.findIn K (.ref (He.ga K c)) f) (some (some (.ref (He.ma K (He.ga K c) f)))) && (He.eqO (PySem.W.specialIn K (.ref (He.ma K (He.ga K c) f)) "__get__") (some (some (.builtin "property.__get__"))) &&
  (decide (PySem.W.takesIn K (.ref (He.ma K (He.ga K c) f)) = some true) && (match PySem.W.recIn K (He.ma K (He.ga K c) f) "property" with
    | some (.ref _ :: _) => true
    | _ => false)))
theorem propB_ok {K : PySem.W.Frag} {c f : Str} (h : propB c f K = true) : PropOf K (He.ga K c) f (He.ma K (He.ga K c) f) ((Wh.prop c f).adr K) := by
  obtain ⟨h1, h⟩ := He.ba h
  obtain ⟨h2, h⟩ := He.ba h
  obtain ⟨h3, h4⟩ := He.ba h
  refine ⟨He.eqO_ok h1, He.eqO_ok h2, of_decide_eq_true h3, ?_⟩
  show ∃ rest, PySem.W.recIn K (He.ma K (He.ga K c) f) "property" = some (.ref (pgA K (He.ma K (He.ga K c) f)) :: rest)
  unfold pgA
  split at h4
  · rename_i g r e
    rw [e]
    exact ⟨r, rfl⟩
  · cases h4
/-- the class c finds its method m at the same place as the class b -/
def methAtB (c m b : Str) : Fk := fun K => decide (He.ma K (He.ga K c) m = He.ma K (He.ga K b) m)
/-! ### the Hook -/
abbrev AlL : Type := Bool × List FnW
def obsL (P : Program) (fa : List Fk) (fn : List DefE) (K : PySem.W.Frag) : AlL := ((fa.all fun f => f K) && fn.all fun d => d.ok K && supB P K d, fn.map fun d => fnW K (d.at_.adr K))
def valL (fn : List DefE) : AlL := (true, fn.map DefE.val)
def SaysL (P : Program) (fa : List Fk) (fn : List DefE) (K : PySem.W.Frag) : Prop := obsL P fa fn K = valL fn
def obsLG (P : Program) (n : Nat) (fa : List Fk) (fn : List DefE) (g : Addr → Option Obj) : AlL := obsL P fa fn (He.frG g (cStatics :: He.asD g n))
def hookL (P : Program) (n : Nat) (fa : List Fk) (fn : List DefE) : PySem.W.Hook where
  α := AlL
  obs := fun s => obsLG P n fa fn s.heap.get?
  val := fun _ => valL fn
  says := fun _ h => ∃ K : PySem.W.Frag, K.In h ∧ SaysL P fa fn K
  of := fun _ _ e => ⟨_, He.frG_in, e⟩
  keeps := fun _ _ _ ⟨K, hK, c⟩ k => ⟨K, PySem.W.Frag.In.keeps hK k, c⟩
theorem obsLG_eq {P : Program} {n : Nat} {fa : List Fk} {fn : List DefE} {g : Addr → Option Obj} {s : Shared} (h : ∀ a, g a = s.heap.get? a) : obsLG P n fa fn g = (hookL P n fa fn).obs s := by
  have e : g = s.heap.get? := funext h
  rw [e] <;> rfl
section
variable {P : Program} {fa : List Fk} {fn : List DefE} {K : PySem.W.Frag}
theorem SaysL.fact (c : SaysL P fa fn K) (i : Nat) {f : Fk} (h : fa[i]? = some f := by rfl) : f K = true := by
  have c1 := (He.ba (show ((fa.all fun f => f K) && fn.all fun d => d.ok K && supB P K d) = true from congrArg (fun z : AlL => z.1) c)).1
  exact List.all_eq_true.mp c1 f (List.mem_of_getElem? h)
theorem SaysL.both (c : SaysL P fa fn K) {i : Nat} {d : DefE} (h : fn[i]? = some d) : fnW K (d.at_.adr K) = d.val ∧ d.ok K = true ∧ supB P K d = true := by
  have c2 := (He.ba (show ((fa.all fun f => f K) && fn.all fun d => d.ok K && supB P K d) = true from congrArg (fun z : AlL => z.1) c)).2
  have e : fn.map (fun d => fnW K (d.at_.adr K)) = fn.map DefE.val := congrArg (fun z : AlL => z.2) c
  have e2 : (fn.map fun d => fnW K (d.at_.adr K))[i]? = (fn.map DefE.val)[i]? := by rw [e]
  rw [List.getElem?_map, List.getElem?_map, h] at e2
  have k := List.all_eq_true.mp c2 d (List.mem_of_getElem? h)
  obtain ⟨k1, k2⟩ := He.ba k
  exact ⟨Option.some.inj e2, k1, k2⟩
theorem SaysL.def_ (c : SaysL P fa fn K) (i : Nat) {d : DefE} (h : fn[i]? = some d := by rfl) (hs : d.sup = none := by rfl) : ∃ fd, FunD K d.name d.qual d.params d.body d.scope (d.dvs K) (d.kws K) (d.at_.adr K) fd :=
  let ⟨a, b, _⟩ := c.both h
  DefE.funD a b hs
theorem SaysL.sup_ (c : SaysL P fa fn K) (i : Nat) {d : DefE} {cn bn : Str} (h : fn[i]? = some d := by rfl) (hs : d.sup = some (cn, bn) := by rfl) : ∃ fd, SupK P K cn d.name d.qual d.params d.body d.scope (d.at_.adr K) fd (He.ma K (He.ga K bn) "__init__") :=
  let ⟨a, b, e⟩ := c.both h
  supK_of a b hs e
end
end LD

set_option maxHeartbeats 2000000
/-! Layer D, part K: the rules over the head's facts, as a printer writes them. -/
namespace LD
open PySem PySem.Spec PyProof.Rows L2

/-! ### facts -/
def glB (x : Str) : Fk := fun K => (He.Fa.glo x).ok K
def frB (x : Str) : Fk := fun K => (He.Fa.free x).ok K
def itB (x : Str) (i : Int) : Fk := fun K => (He.Fa.int x i).ok K
def stB (x z : Str) : Fk := fun K => (He.Fa.str x z).ok K
def fldB (cs : List Str) (f : Str) : Fk := fun K => cs.all fun c => kcB c K && (He.Fa.noat c f).ok K
def DV.fl : DV → Option V
  | .non => some .non
  | .bl b => some (.bl b)
  | .int i => some (.int i)
  | .str x => some (.str x)
  | _ => none
theorem DV.fl_rep {K : PySem.W.Frag} {d : DV} {v : V} (h : d.fl = some v) (G : Hp) : DRep K G v d := by
  cases d with
  | non => cases h; exact .non
  | bl b => cases h; exact .bl b
  | int i => cases h; exact .int i
  | str x => cases h; exact .str x
  | _ => cases h
def cnB (tab : List (Str × DV)) (f : Str) : Fk := fun K => tab.all fun p => kcB p.1 K && (match p.2.fl with
  | some v => conB p.1 f v K
  | none => false)
def isB (tab : List (Tg × Bool)) (cs : List Tg) : Fk := fun K => isiB K tab cs && tab.all fun p => match p.1 with
  | .own c => kcB c K
  | _ => true
def exB (tab : List (Str × Bool)) (x : Str) : Fk := fun K => exmB K tab x
def ecB (x : Str) : Fk := fun K => (He.Fa.exc x).ok K
def mkB (x : Str) : Fk := fun K => (He.Fa.mkr x).ok K
def mtB (c m : Str) : Fk := fun K => kcB c K && (He.Fa.meth c m).ok K
def ppB (c f : Str) : Fk := fun K => kcB c K && propB c f K
/-- == of instances of the classes cs is the def at b.__eq__ -/
def ewB (cs : List Str) (b : Str) : Fk := fun K => eqB K cs (He.ma K (He.ga K b) "__eq__") && PySem.W.isFn K (.ref (He.ma K (He.ga K b) "__eq__"))
/-- c.m is b.m -/
def saB (c m b : Str) : Fk := methAtB c m b

structure Fx (P : Program) (fa : List Fk) (fn : List DefE) (K : PySem.W.Frag) (mg : Str → Option Value) : Prop where
  h : ∃ h : Heap, K.In h ∧ h.Ns mainGlobals mg
  c : SaysL P fa fn K
section
variable {P : Program} {fa : List Fk} {fn : List DefE} {K : PySem.W.Frag} {mg : Str → Option Value}
theorem Fx.f (x : Fx P fa fn K mg) (i : Nat) {f : Fk} (e : fa[i]? = some f := by rfl) : f K = true := x.c.fact i e
theorem Fx.gl (x : Fx P fa fn K mg) {n : Str} (e : glB n K = true) : mg n = some (.ref (He.ga K n)) := let ⟨_, X, G⟩ := x.h; He.glo_ok X G e
theorem Fx.fr (x : Fx P fa fn K mg) {n : Str} (e : frB n K = true) : mg n = none := let ⟨_, X, G⟩ := x.h; He.free_ok X G e
theorem Fx.it (x : Fx P fa fn K mg) {n : Str} {i : Int} (e : itB n i K = true) : ∃ t, mg n = some (.int i t) := let ⟨_, X, G⟩ := x.h; He.int_ok X G e
theorem Fx.st (x : Fx P fa fn K mg) {n z : Str} (e : stB n z K = true) : ∃ t, mg n = some (.str z t) := let ⟨_, X, G⟩ := x.h; He.str_ok X G e
end

/-! ### promises -/
def FO (P : Program) (w : World) (K : PySem.W.Frag) (mg : Str → Option Value) (base : Heap) (k : Nat) (f : Addr) (ps : List Str) (sp : Sp) : Prop := ∃ fd, FnOk P w K mg base (L2.CX P w) k f fd ps sp ∧ Binds K fd ps []
section
variable {P : Program} {w : World} {K : PySem.W.Frag} {mg : Str → Option Value} {base : Heap} {k : Nat} {f : Addr} {ps : List Str} {sp : Sp}
theorem FO.as {m m' : Mir} (F : FO P w K mg base k f ps (spD K m)) (h : ∀ ds, m' ds ≠ .bad → m ds = m' ds) : FO P w K mg base k f ps (spD K m') :=
  let ⟨fd, a, b⟩ := F
  ⟨fd, fn_as a h, b⟩
theorem FO.eq {m m' : Mir} (F : FO P w K mg base k f ps (spD K m)) (h : m = m') : FO P w K mg base k f ps (spD K m') := h ▸ F
theorem SupK.bindsN {cn name qual : Str} {params : Arguments} {body : List Stmt} {scope : Scope} {fd : FuncData} {f2 : Addr} (D : SupK P K cn name qual params body scope f fd f2)
    (h : ∀ (cc : Addr) (kV doc pm : Value) (an : Option Addr) (cdv ct : Value) (us : List Value), us.length = ps.length → bindArgs (PySem.W.fnX name qual params body scope [("__class__", cc)] .none kV doc pm an cdv ct) ⟨us, []⟩ = pure (ps.zip us)) : Binds K fd ps [] := by
  obtain ⟨oc, od, kV, doc, pm, an, cda, cc, ct, osl, rfl, _⟩ := D.ex
  exact .all (h cc kV doc pm an (.ref cda) ct)
end

/-! ### rules -/
section
variable {X : Cx} {W : WX} {a b c o : Expr} {es : List Expr} {fa fb fc fo : Ev → R DV} {fes : Ev → R (List DV)} {pos p : Pos} {k j : Nat} {ps : List Str} {m : Mir} {x : Str}
theorem k_call (tk : Takes X W) (F : FO X.prog X.w X.K X.mg X.base k (He.ga X.K x) ps (spD X.K m)) (hr : Room j X.A) (hj : k ≤ j) (hm : X.mg x = some (.ref (He.ga X.K x))) (hk : PySem.W.keepIn X.K (.ref (He.ga X.K x)) = true) (A : PDA X W (a :: es) fes) (hg : Gl X x := by rfl)
    (hdb : (x == ("__debug__" : Str)) = false := by decide) (he : starEach (a :: es) X.env = (false, eval a X.env) :: starEach es X.env := by rfl) (hpl : (backTo pos (starEach es X.env)).any (·.1) = false := by rfl) : PD X W (.Call (.Name x p) (a :: es) [] pos) (xCall m fes) :=
  let ⟨fd, F, hb⟩ := F
  d_call tk F (hr.mono hj) hm hk hb A hg hdb he hpl
theorem k_call0 (tk : Takes X W) (F : FO X.prog X.w X.K X.mg X.base k (He.ga X.K x) ps (spD X.K m)) (hr : Room j X.A) (hj : k ≤ j) (hm : X.mg x = some (.ref (He.ga X.K x))) (hk : PySem.W.keepIn X.K (.ref (He.ga X.K x)) = true) (hg : Gl X x := by rfl)
    (hdb : (x == ("__debug__" : Str)) = false := by decide) : PD X W (.Call (.Name x p) [] [] pos) (fun _ => m []) :=
  let ⟨fd, F, hb⟩ := F
  d_call0 tk F (hr.mono hj) hm hk hb hg hdb
theorem k_make {n : Nat} {mi : Imi} (tk : Takes X W) (F : FO X.prog X.w X.K X.mg X.base k (He.ma X.K (He.ga X.K x) "__init__") ps (spI X.K n mi)) (hr : Room j X.A) (hj : k + 1 ≤ j) (hm : X.mg x = some (.ref (He.ga X.K x))) (M : mkB x X.K = true) (A : PDA X W (a :: es) fes) (hg : Gl X x := by rfl)
    (hdb : (x == ("__debug__" : Str)) = false := by decide) (he : starEach (a :: es) X.env = (false, eval a X.env) :: starEach es X.env := by rfl) (hpl : (backTo pos (starEach es X.env)).any (·.1) = false := by rfl) : PD X W (.Call (.Name x p) (a :: es) [] pos) (xMake x n mi fes) :=
  let ⟨fd, F, hb⟩ := F
  d_make tk (He.mkr_ok M) F (hr.mono hj) hm hb A hg hdb he hpl
theorem fldB_ok {K : PySem.W.Frag} {cs : List Str} {f : Str} (h : fldB cs f K = true) : ∀ c ∈ cs, KC K c ∧ NoAttr K (He.ga K c) f := fun c hc =>
  let ⟨a, b⟩ := He.ba (List.all_eq_true.mp h c hc)
  ⟨kcB_ok a, He.noat_ok b⟩
theorem k_fld {cs : List Str} {f : Str} (hf : fldB cs f X.K = true) (A : PD X W a fa) (hb : attributeBase a f X.env (eval a X.env) = eval a X.env := by rfl) : PD X W (.Attribute a f pos) (xFld cs f fa) := d_fld A (fldB_ok hf) hb
theorem k_con {tab : List (Str × DV)} {f : Str} (hf : cnB tab f X.K = true) (A : PD X W a fa) (hb : attributeBase a f X.env (eval a X.env) = eval a X.env := by rfl) : PD X W (.Attribute a f pos) (xCon tab f fa) := d_con A (fun c d e => by
  obtain ⟨h1, h2⟩ := He.ba (List.all_eq_true.mp hf (c, d) (look_mem e))
  dsimp only at h1 h2
  cases q : d.fl with
  | none => rw [q] at h2; cases h2
  | some v =>
    rw [q] at h2
    obtain ⟨u, hu⟩ := conB_ok h2
    exact ⟨kcB_ok h1, v, u, hu, fun G => DV.fl_rep q G⟩) hb
theorem k_prop {cn f : Str} (hp : ppB cn f X.K = true) (F : FO X.prog X.w X.K X.mg X.base k ((Wh.prop cn f).adr X.K) ps (spD X.K m)) (hr : Room j X.A) (hj : k + 1 ≤ j) (hnx : ∀ ds c fs, m ds ≠ .exc c fs)
    (A : PD X W a fa) (hab : attributeBase a f X.env (eval a X.env) = eval a X.env := by rfl) : PD X W (.Attribute a f pos) (xProp cn m fa) :=
  let ⟨fd, F, hb⟩ := F
  let ⟨h1, h2⟩ := He.ba hp
  d_prop (kcB_ok h1) (propB_ok h2) F (hr.mono hj) hb hnx A hab
theorem k_meth {cn mn : Str} {apos : Pos} {pl : Sem Bool} (tk : Takes X W) (hm : mtB cn mn X.K = true) (F : FO X.prog X.w X.K X.mg X.base k (He.ma X.K (He.ga X.K cn) mn) ps (spD X.K m)) (hr : Room j X.A) (hj : k ≤ j)
    (O : PD X W o fo) (A : PDA X W (a :: es) fes) (hst : starEach (a :: es) X.env = (false, eval a X.env) :: starEach es X.env := by rfl) (hpl : (backTo pos (starEach es X.env)).any (·.1) = false := by rfl)
    (ht : eval (.Call (.Attribute o mn apos) (a :: es) [] pos) X.env = (do
      let ov ← eval o X.env
      standAt apos.atName
      let (f, first) ← holding [ov] (getMethod ov mn pl)
      callWith pos f first (backTo pos (starEach (a :: es) X.env)) (backToKw pos (keywordEach [] X.env))) := by rfl) : PD X W (.Call (.Attribute o mn apos) (a :: es) [] pos) (xMeth cn mn m fo fes) :=
  let ⟨fd, F, hb⟩ := F
  let ⟨h1, h2⟩ := He.ba hm
  d_meth tk (kcB_ok h1) (He.meth_ok h2) F (hr.mono hj) hb O A hst hpl ht
theorem k_meth0 {cn mn : Str} {apos : Pos} {pl : Sem Bool} (tk : Takes X W) (hm : mtB cn mn X.K = true) (F : FO X.prog X.w X.K X.mg X.base k (He.ma X.K (He.ga X.K cn) mn) ps (spD X.K m)) (hr : Room j X.A) (hj : k ≤ j)
    (O : PD X W o fo)
    (ht : eval (.Call (.Attribute o mn apos) [] [] pos) X.env = (do
      let ov ← eval o X.env
      standAt apos.atName
      let (f, first) ← holding [ov] (getMethod ov mn pl)
      callWith pos f first (backTo pos (starEach [] X.env)) (backToKw pos (keywordEach [] X.env))) := by rfl) : PD X W (.Call (.Attribute o mn apos) [] [] pos) (xMeth cn mn m fo xNil) :=
  let ⟨fd, F, hb⟩ := F
  let ⟨h1, h2⟩ := He.ba hm
  d_meth0 tk (kcB_ok h1) (He.meth_ok h2) F (hr.mono hj) hb O ht
theorem isB_ok {K : PySem.W.Frag} {tab : List (Tg × Bool)} {cs : List Tg} (h : isB tab cs K = true) : isiB K tab cs = true ∧ ∀ c b, tab.lookup (.own c) = some b → KC K c :=
  let ⟨h1, h2⟩ := He.ba h
  ⟨h1, fun c b e => kcB_ok (List.all_eq_true.mp h2 (.own c, b) (look_mem e))⟩
theorem k_isi {tab : List (Tg × Bool)} {t : Tg} (hB : isB tab [t] X.K = true) (hm : X.mg "isinstance" = none) (A : PD X W a fa) (C : PCl X b t) (hg : Gl X "isinstance" := by rfl)
    (he : starEach [a, b] X.env = (false, eval a X.env) :: starEach [b] X.env := by rfl) (he2 : starEach [b] X.env = (false, eval b X.env) :: starEach [] X.env := by rfl) (hpl : (backTo pos (starEach [b] X.env)).any (·.1) = false := by rfl) :
    PD X W (.Call (.Name "isinstance" p) [a, b] [] pos) (xIsi tab fa) := d_isi (isB_ok hB).2 (isB_ok hB).1 hm A C hg he he2 hpl
theorem k_isiT {tab : List (Tg × Bool)} {ts : List Tg} {p2 : Pos} {kk : Nat} (hB : isB tab ts X.K = true) (hz : ts.length ≤ 1000) (hm : X.mg "isinstance" = none) (A : PD X W a fa) (C : PCls X es ts) (hg : Gl X "isinstance" := by rfl)
    (he : starEach [a, .Tuple es kk p2] X.env = (false, eval a X.env) :: starEach [.Tuple es kk p2] X.env := by rfl) (he2 : starEach [.Tuple es kk p2] X.env = (false, eval (.Tuple es kk p2) X.env) :: starEach [] X.env := by rfl)
    (hpl : (backTo pos (starEach [.Tuple es kk p2] X.env)).any (·.1) = false := by rfl) : PD X W (.Call (.Name "isinstance" p) [a, .Tuple es kk p2] [] pos) (xIsi tab fa) := d_isiT (isB_ok hB).2 (isB_ok hB).1 hz hm A C hg he he2 hpl
/-- x == y of instances -/
theorem k_eqO {cs : List Str} {bn : Str} (hB : ewB cs bn X.K = true) (F : FO X.prog X.w X.K X.mg X.base k (He.ma X.K (He.ga X.K bn) "__eq__") ps (spD X.K m)) (hr : Room j X.A) (hj : k ≤ j) (A : PD X W a fa) (B : PD X W b fb) (hm : behindInMarks .Eq b = false := by first | exact nomark _ | rfl) :
    PD X W (.Compare a [.Eq] [b] pos) (xOp (oEqO cs m) fa fb) := by
  obtain ⟨fd, F, hb⟩ := F
  obtain ⟨h1, h2⟩ := He.ba hB
  exact d_cmp (or_own F (hr.mono hj) hb h1 h2) (od_own (f := 0) (fd := fd) (ps := []) (k := 0)) A B hm
/-- raise C('text') -/
theorem k_raise {cn mg_ : Str} {jj : Nat} {p2 p3 : Pos} (hc : X.calm = true) (tk : Takes X W) (gC : X.mg cn = some (.ref (He.ga X.K cn))) (hE : ecB cn X.K = true) (hg : Gl X cn := by rfl) (hdb : (cn == ("__debug__" : Str)) = false := by decide) :
    PSD X W (.Raise (some (.Call (.Name cn p) [.Constant (.str mg_) jj p2] [] p3)) none pos) (sRaise cn fun _ => .ok []) :=
  let ⟨q, kC, h1, h2⟩ := He.exc_ok hE
  ds_raise hc tk (dm_own q gC kC h1 h2 hg hdb)
theorem k_sfld (i : Nat) {cs : List Str} {x f : Str} {p1 p2 : Pos} (hf : fldB cs f X.K = true) (A : PD X W a fa) (hN : X.N[i]? = some x := by rfl) (hv : Vis X.env.scope x := by first | exact Or.inl rfl | exact Or.inr (Or.inl rfl) | exact Or.inr (Or.inr rfl))
    (hd : (x == ("__debug__" : Str)) = false := by decide) (hcd : (x == ("__classdict__" : Str)) = false := by decide) (hs : swapsWith a (some (.Attribute (.Name x p1) f p2)) pos.line X.env = pure false := by rfl) : PSD X W (.Assign [.Attribute (.Name x p1) f p2] a pos) (sFldD cs i f fa) :=
  ds_fld i A (fldB_ok hf) hN hv hd hcd hs
end
end LD
namespace LD
open PySem PySem.Spec PyProof.Rows L2
theorem tk0 {X : Cx} : Takes X W0 := takes0
def kpB (x : Str) : Fk := fun K => PySem.W.keepIn K (.ref (He.ga K x))
def xChainT (o o' : DV → DV → R DV) (a b c : Ev → R DV) : Ev → R Bool := xTest (xChain o o' a b c)
theorem dt_chain {X : Cx} {W : WX} {a b c : Expr} {fa fb fc : Ev → R DV} {pos : Pos} {o o' : CmpOp} {r r' : R2} {op op' : DV → DV → R DV} (ho : OpR X (compareOp o) r) (ho' : OpR X (compareOp o') r') (od : OpD X r op) (od' : OpD X r' op') (A : PD X W a fa) (B : PD X W b fb) (C : PD X W c fc) (hm : lastMarks [o, o'] [b, c] = false := by with_unfolding_all rfl) :
    PDT X W (.Compare a [o, o'] [b, c] pos) (xTest (xChain op op' fa fb fc)) := by
  obtain ⟨ta, pa, ha⟩ := A.ex
  obtain ⟨tb, pb, hb⟩ := B.ex
  obtain ⟨tc, pc, hc⟩ := C.ex
  refine ⟨_, pt_chain ho ho' pa pb pc hm, fun {B0 G H δ σ Q} S h => ?_⟩
  have e : xTest (xChain op op' fa fb fc) δ = ((fa δ).bind fun x => (fb δ).bind fun y => (op x y).bind fun z => (asB z).bind fun k => if k = true then (fc δ).bind fun w => (op' y w).bind asB else .ok false) := by
    unfold xTest xChain
    cases fa δ with
    | ok x =>
      cases fb δ with
      | ok y =>
        show ((op x y).bind _).bind asB = (op x y).bind _
        cases op x y with
        | ok z =>
          show ((asB z).bind _).bind asB = (asB z).bind _
          cases asB z with
          | ok k => cases k with
            | true => show ((fc δ).bind _).bind asB = (fc δ).bind _; cases fc δ <;> rfl
            | false => rfl
          | _ => rfl
        | _ => rfl
      | _ => rfl
    | _ => rfl
  rw [e] at h
  refine ha S (Rq.bind (rep := DRep X.K) h fun x ex v H1 G1 t1 r1 h1 => ?_)
  refine hb (S.step t1) (Rq.bind (rep := DRep X.K) h1 fun y ey w H2 G2 t2 r2 h2 => ?_)
  refine od t2.gh (r1.mono t2.gg) r2 (Rq.bind (rep := DRep X.K) h2 fun z ez u H3 G3 t3 r3 h3 => ?_)
  cases q : asB z with
  | ok k =>
    rw [q] at h3
    refine ⟨k, asB_rep r3 q, ?_⟩
    cases k with
    | true =>
      rw [if_pos rfl]
      refine hc ((S.step t1).step (t2.trans t3)) (Rq.bind (rep := DRep X.K) h3 fun y' ey' w' H4 G4 t4 r4 h4 => ?_)
      refine od' t4.gh (r2.mono (t3.gg.trans t4.gg)) r4 (Rq.bind (rep := DRep X.K) h4 fun z' ez' u' H5 G5 t5 r5 h5 => ?_)
      cases q2 : asB z' with
      | ok k2 => rw [q2] at h5; exact ⟨k2, asB_rep r5 q2, Rq.ok_self (rep := BRep) t5.gh h5 rfl⟩
      | exc c fs => exact absurd q2 asB_no
      | bad => rw [q2] at h5; exact h5.elim
    | false =>
      rw [if_neg (by decide)]
      exact ⟨false, rfl, Rq.ok_self (rep := BRep) t3.gh h3 rfl⟩
  | exc c fs => exact absurd q asB_no
  | bad => rw [q] at h3; exact h3.elim
end LD
namespace LD
open PySem PySem.Spec PyProof.Rows L2
/-! ### defs, as printed -/
section
variable {P : Program} {w : World} {K : PySem.W.Frag} {mg : Str → Option Value} {base : Heap}
abbrev Own (X : Cx) : Prop := PassesOwn (model X.prog X.w) X.A X.env X.xe
theorem fn_k {x qual : Str} {params : Arguments} {body : List Stmt} {scope : Scope} {dvs : List V} {kws : List (Str × V)} {f : Addr} {fd : FuncData} {N ps : List Str} {k : Nat} {F : Ev → SR}
    (D : FunD K x qual params body scope dvs kws f fd) (S : FnScope N ps scope) (hle : ps.length ≤ N.length) (hb : Binds K fd ps [])
    (hbody : ∀ (cdv : Value) (A : Around) (outer : List Env) (s : Shared) (H : Hp) (E : XK), Room k (cxOf (L2.CX P w) P w K mg base N qual scope f cdv A outer s H E).A → Takes (cxOf (L2.CX P w) P w K mg base N qual scope f cdv A outer s H E) (fun cls d _ H' => E cls d H') →
      Own (cxOf (L2.CX P w) P w K mg base N qual scope f cdv A outer s H E) → PSSD (cxOf (L2.CX P w) P w K mg base N qual scope f cdv A outer s H E) (fun cls d _ H' => E cls d H') body F) : FO P w K mg base (k + 1) f ps (spD K (mir N.length ps.length F)) :=
  ⟨fd, fn_d D S hle fun cdv A outer s H E hr => hbody cdv A outer s H E hr (takes_of rfl rfl rfl rfl) (passes_of rfl), hb⟩
theorem fn_ki {x qual : Str} {params : Arguments} {body : List Stmt} {scope : Scope} {dvs : List V} {kws : List (Str × V)} {f : Addr} {fd : FuncData} {N ps : List Str} {k n : Nat} {F : Ev → SR}
    (D : FunD K x qual params body scope dvs kws f fd) (S : FnScope N ps scope) (hn : ps.length = n + 1) (hle : ps.length ≤ N.length) (hb : Binds K fd ps [])
    (hbody : ∀ (cdv : Value) (A : Around) (outer : List Env) (s : Shared) (H : Hp) (E : XK), Room k (cxOf (L2.CX P w) P w K mg base N qual scope f cdv A outer s H E).A → Takes (cxOf (L2.CX P w) P w K mg base N qual scope f cdv A outer s H E) (fun cls d _ H' => E cls d H') →
      Own (cxOf (L2.CX P w) P w K mg base N qual scope f cdv A outer s H E) → PSSD (cxOf (L2.CX P w) P w K mg base N qual scope f cdv A outer s H E) (fun cls d _ H' => E cls d H') body F) : FO P w K mg base (k + 1) f ps (spI K n (imi N.length n F)) :=
  ⟨fd, fn_init D S hn hle fun cdv A outer s H E hr => hbody cdv A outer s H E hr (takes_of rfl rfl rfl rfl) (passes_of rfl), hb⟩
theorem fn_ks {cn name qual : Str} {params : Arguments} {scope : Scope} {f f2 : Addr} {fd : FuncData} {N ps ps2 : List Str} {k n n2 : Nat} {mi : Imi} {fes : Ev → R (List DV)} {F : Ev → SR} {e : Expr} {es : List Expr} {rest : List Stmt} {p0 p1 p2 p3 p4 : Pos} {a0 : Str} {ar : Arg}
    (D : SupK P K cn name qual params (.Expr (.Call (.Attribute (.Call (.Name "super" p0) [] [] p1) "__init__" p2) (e :: es) [] p3) p4 :: rest) scope f fd f2) (S : NdefX.NScope N ps ["__class__"] scope) (hn : ps.length = n + 1) (hps : ps[0]? = some a0)
    (hp : (params.posonlyargs ++ params.args).head? = some ar) (har : ar.arg = a0) (hks : scope.names.lookup ("super" : Str) = some .globalImplicit)
    (htop : (P.main.scope.names.lookup ("super" : Str)).isSome = false) (hsup : mg "super" = none) (hb : Binds K fd ps [])
    (F2 : FO P w K mg base k f2 ps2 (spI K n2 mi))
    (hargs : ∀ (NF : NdefX.NF) (A : Around) (outer : List Env) (s : Shared) (H : Hp) (E : XK), NF.scope = scope → NF.qual = qual → Room k (NdefX.ncx (L2.CX P w) P w K mg base N NF f A outer s H E).A → Takes (NdefX.ncx (L2.CX P w) P w K mg base N NF f A outer s H E) (fun cls d _ H' => E cls d H') →
      PDA (NdefX.ncx (L2.CX P w) P w K mg base N NF f A outer s H E) (fun cls d _ H' => E cls d H') (e :: es) fes)
    (hrest : ∀ (NF : NdefX.NF) (A : Around) (outer : List Env) (s : Shared) (H : Hp) (E : XK), NF.scope = scope → NF.qual = qual → Room k (NdefX.ncx (L2.CX P w) P w K mg base N NF f A outer s H E).A → Takes (NdefX.ncx (L2.CX P w) P w K mg base N NF f A outer s H E) (fun cls d _ H' => E cls d H') →
      PSSD (NdefX.ncx (L2.CX P w) P w K mg base N NF f A outer s H E) (fun cls d _ H' => E cls d H') rest F)
    (hint : ∀ env : Env, env.scope = scope → interactive env = false := by intro env h; unfold interactive; rw [h]; rfl)
    (hs : ∀ env, swapsWith (.Call (.Attribute (.Call (.Name "super" p0) [] [] p1) "__init__" p2) (e :: es) [] p3) none p4.line env = pure false := by intro _; rfl)
    (he : ∀ env, starEach (e :: es) env = (false, eval e env) :: starEach es env := by intro _; rfl) (hpl : ∀ env, (backTo p3 (starEach es env)).any (·.1) = false := by intro _; rfl)
    (hev : ∀ env, ∃ pl : Sem Bool, eval (.Call (.Attribute (.Call (.Name "super" p0) [] [] p1) "__init__" p2) (e :: es) [] p3) env = (do
      let ov ← attributeBase (.Call (.Name "super" p0) [] [] p1) "__init__" env (eval (.Call (.Name "super" p0) [] [] p1) env)
      standAt p2.atName
      let (f, first) ← holding [ov] (getMethod ov "__init__" pl)
      callWith p3 f first (backTo p3 (starEach (e :: es) env)) []) := by intro _; exact ⟨_, rfl⟩) :
    FO P w K mg base (k + 1) f ps (spI K n (imS cn N.length n fes mi n2 F)) := by
  obtain ⟨fd2, F2, hb2⟩ := F2
  exact ⟨fd, fn_initS D S hn hps hp har hks htop hsup F2 hb2 (fun NF A outer s H E h1 h2 hr => hargs NF A outer s H E h1 h2 hr (takes_of rfl rfl rfl rfl)) (fun NF A outer s H E h1 h2 hr => hrest NF A outer s H E h1 h2 hr (takes_of rfl rfl rfl rfl)) hint hs he hpl hev, hb⟩
end
/-! ### a property of several classes -/
def ppsB (cs : List Str) (f bn : Str) : Fk := fun K => cs.all fun c => kcB c K && (propB c f K && decide ((Wh.prop c f).adr K = (Wh.prop bn f).adr K))
def xProps (cs : List Str) (m : Mir) (fa : Ev → R DV) : Ev → R DV := fun δ => (fa δ).bind fun d => match d with
  | .obj c fs => if cs.contains c then noX (m [.obj c fs]) else .bad
  | _ => .bad
theorem k_props {X : Cx} {W : WX} {a : Expr} {fa : Ev → R DV} {pos : Pos} {k j : Nat} {ps : List Str} {m : Mir} {cs : List Str} {bn f : Str} (hp : ppsB cs f bn X.K = true) (F : FO X.prog X.w X.K X.mg X.base k ((Wh.prop bn f).adr X.K) ps (spD X.K m)) (hr : Room j X.A) (hj : k + 1 ≤ j)
    (A : PD X W a fa) (hab : attributeBase a f X.env (eval a X.env) = eval a X.env := by rfl) : PD X W (.Attribute a f pos) (xProps cs m fa) := by
  obtain ⟨fd, F, hb⟩ := F
  obtain ⟨ta, pa, ha⟩ := A.ex
  refine ⟨fun σ H Q => ta σ H fun x H1 => ∃ c, cs.contains c = true ∧ ∃ a dx fs, x = .ref a ∧ H1 a = some (.ins (He.ga X.K c) dx fs) ∧ spD X.K m [.ref a] H1 Q E0, ⟨fun pins s σ H Q I h => ?_⟩, fun {B0 G H δ σ Q} S h => ?_⟩
  · have h' : ta σ H fun x H1 => ∃ c, cs.contains c = true ∧ ∃ a dx fs, x = .ref a ∧ H1 a = some (.ins (He.ga X.K c) dx fs) ∧ spD X.K m [.ref a] H1 Q E0 := h
    refine attr_of hab (thn (pa.run pins s σ H _ I h') fun u s1 ⟨v, H1, I1, r1, c, hc, a1, dx, fs, ev, ea, q⟩ => ?_)
    subst ev
    obtain rfl : u = Value.ref a1 := r1
    obtain ⟨k1, k2⟩ := He.ba (List.all_eq_true.mp hp c (by simpa using hc))
    obtain ⟨k2, k3⟩ := He.ba k2
    have po := propB_ok k2
    rw [of_decide_eq_true k3] at po
    exact getprop_ok (dvs := []) (ds := []) (E := E0) I1 ea (kcB_ok k1).cl po F (hr.mono hj) hb .nil passL q
  · refine ha S (Rq.bind (rep := DRep X.K) h fun d e v H1 G1 t1 r1 h1 => ?_)
    cases r1 with
    | obj e1 r =>
      rename_i a1 dx c vs fs
      have h2 : Rq X.K (DRep X.K) (fun c d H' => W c d σ H') G1 H1 (if cs.contains c = true then noX (m [.obj c fs]) else .bad) Q := h1
      by_cases q : cs.contains c = true
      · rw [if_pos q] at h2
        exact ⟨c, q, _, _, _, rfl, t1.gh _ _ e1, G1, [.obj c fs], t1.gh, .cons (.obj e1 r) .nil, Rq.noX h2⟩
      · rw [if_neg q] at h2; exact h2.elim
    | _ => exact h1.elim
end LD
namespace LD
def sFz (i : Nat) (F : Ev → SR) : Ev → SR := fun δ => F (frz δ i)
def xIt (as_ : List DV → R (List DV)) (fes : Ev → R (List DV)) : Ev → R (List DV) := fun δ => (fes δ).bind as_
def sBk : Ev → SR := fun δ => .bk δ
def sCt : Ev → SR := fun δ => .ct δ
end LD
namespace LD
open PySem PySem.Spec PyProof.Rows L2
theorem FO.mono {P : Program} {w : World} {K : PySem.W.Frag} {mg : Str → Option Value} {base : Heap} {k j : Nat} {f : Addr} {ps : List Str} {sp : Sp} (F : FO P w K mg base k f ps sp) (h : k ≤ j) : FO P w K mg base j f ps sp :=
  let ⟨fd, a, b⟩ := F
  ⟨fd, a.mono h, b⟩
end LD

set_option maxHeartbeats 2000000
/-! Layer D, part L: a law's end. -/
namespace LD
open PySem PySem.Spec PyProof.Rows L2
section
variable {P : Program} {w : World} {K : PySem.W.Frag} {mg : Str → Option Value} {base : Heap}
/-- the law's own def: the function object first, the promise over every base -/
def FL (P : Program) (w : World) (K : PySem.W.Frag) (mg : Str → Option Value) (k : Nat) (f : Addr) (x : Str) (m : Mir) : Prop :=
  ∃ fd : FuncData, (∀ (s : Shared) (v : Value), BindsTo s fd ⟨[v], []⟩ [(x, v)]) ∧ ∀ base : Heap, FnOk P w K mg base (L2.CX P w) k f fd [x] (spD K m)
theorem fn_kl {x y qual : Str} {params : Arguments} {body : List Stmt} {scope : Scope} {f : Addr} {fd : FuncData} {N : List Str} {k : Nat} {F : Ev → SR}
    (D : FunD K x qual params body scope [] [] f fd) (S : FnScope N [y] scope) (hle : [y].length ≤ N.length) (hb : ∀ (kV doc pm : Value) (an : Option Addr) (cdv ct : Value) (us : List Value), us.length = [y].length → bindArgs (PySem.W.fnOf x qual params body scope .none kV doc pm an cdv ct) ⟨us, []⟩ = pure ([y].zip us))
    (hbody : ∀ (base : Heap) (cdv : Value) (A : Around) (outer : List Env) (s : Shared) (H : Hp) (E : XK), Room k (cxOf (L2.CX P w) P w K mg base N qual scope f cdv A outer s H E).A → Takes (cxOf (L2.CX P w) P w K mg base N qual scope f cdv A outer s H E) (fun cls d _ H' => E cls d H') →
      Own (cxOf (L2.CX P w) P w K mg base N qual scope f cdv A outer s H E) → PSSD (cxOf (L2.CX P w) P w K mg base N qual scope f cdv A outer s H E) (fun cls d _ H' => E cls d H') body F) : FL P w K mg (k + 1) f y (mir N.length 1 F) :=
  ⟨fd, fun s v => FunD.bindsA (ps := [y]) D hb s [v] rfl, fun base => fn_d D S hle fun cdv A outer s H E hr => hbody base cdv A outer s H E hr (takes_of rfl rfl rfl rfl) (passes_of rfl)⟩
theorem to0 {k : Nat} {f : Addr} {fd : FuncData} {ps : List Str} {sp : Sp} (F : FnOk P w K mg base (L2.CX P w) k f fd ps sp) : FnOk P w K mg base CX0 k f fd ps (fun vs H Q _ => sp vs H Q fun _ _ _ => False) := by
  refine ⟨fun vs H Q E h => F.len _ _ _ _ h, fun A outer s H args us vs Q E hr e0 hb r h => ?_⟩
  refine codeAny_mono (F.run A outer s H args us vs Q (fun _ _ _ => False) hr e0 hb r h) fun r s' hq => ?_
  cases r with
  | error e =>
    obtain ⟨_, _, _, _, _, _, _, _, _, _, _, _, z⟩ := hq
    exact z.elim
  | ok fl => cases fl <;> exact hq
theorem sp_law {m : Mir} {n : Nat} (hm : ∀ ns : List Int, ns.length ≤ n → m [.ro (ns.map DV.int)] = .ok (.bl true)) {H : Hp} {a : Addr} {ns : List Int} (hl : ns.length ≤ n) (hS : SqL K H a (ns.map V.int)) :
    spD K m [.ref a] H (fun v _ => v = .bl true) fun _ _ _ => False := by
  refine ⟨H, [.ro (ns.map DV.int)], Same.refl _, .cons (.ro hS (DReps.ints ns)) .nil, ?_⟩
  rw [hm ns hl]
  intro v H' G' t r
  cases r
  rfl
end
/-- the end: what walk_ofE wants -/
theorem law_F {l : PySem.W.OpenLaw} {fa : List Fk} {fn : List DefE} {n k i : Nat} {x : Str} {m : Mir} {name : Str} (hi : fa[i]? = some (glB "law"))
    (ok : ∀ {w : World} {K : PySem.W.Frag} {mg : Str → Option Value}, Fx l.prog fa fn K mg → FL l.prog w K mg k (He.ga K "law") x m) (hm : ∀ ns : List Int, ns.length ≤ n → m [.ro (ns.map DV.int)] = .ok (.bl true)) (hn : name = "law") :
    ∀ (w : World) (mg : Str → Option Value) (f : Addr) (h : Heap), (∃ K : PySem.W.Frag, K.In h ∧ SaysL l.prog fa fn K) → h.Ns mainGlobals mg → mg name = some (.ref f) →
      ∃ (K : PySem.W.Frag) (fd : FuncData) (sp : Sp), K.In h ∧ (∀ (s : Shared) (u : Value), BindsTo s fd ⟨[u], []⟩ [(x, u)]) ∧
        (∀ (H : Hp) (a : Addr) (ns : List Int), ns.length ≤ n → Only H → SqL K H a (ns.map V.int) → sp [.ref a] H (fun v _ => v = .bl true) fun _ _ _ => False) ∧
        ∀ base : Heap, K.In base → base.Ns mainGlobals mg → FnOk l.prog w K mg base CX0 k f fd [x] sp := by
  intro w mg f h ⟨K, KX, c⟩ G hmg
  subst hn
  have X : Fx l.prog fa fn K mg := ⟨⟨h, KX, G⟩, c⟩
  obtain ⟨fd, hb, hF⟩ := ok (w := w) X
  have e := hmg.symm.trans (X.gl (n := "law") (X.f i hi))
  cases e
  exact ⟨K, fd, fun vs H Q _ => spD K m vs H Q fun _ _ _ => False, KX, hb, fun H a ns hl _ hS => sp_law hm hl hS, fun base _ _ => to0 (hF base)⟩
end LD

set_option maxHeartbeats 2000000
/-! Layer D, part S: the readings' equations, for simp. -/
namespace LD
open PySem PySem.Spec PyProof.Rows L2
section
variable {op : DV → DV → R DV} {o1 : DV → R DV} {a b c : Ev → R DV} {ga gb : Ev → R Bool} {es : Ev → R (List DV)} {δ : Ev} {m : Mir} {d : DV} {F F' : Ev → SR} {α : Type}
@[simp] theorem e_xC : xC d δ = .ok d := rfl
@[simp] theorem e_xOp : xOp op a b δ = (a δ).bind fun x => (b δ).bind fun y => op x y := rfl
@[simp] theorem e_xUn : xUn o1 a δ = (a δ).bind o1 := rfl
@[simp] theorem e_xTest : xTest a δ = (a δ).bind asB := rfl
@[simp] theorem e_xIf : xIf ga a b δ = (ga δ).bind fun z => if z = true then a δ else b δ := rfl
@[simp] theorem e_xAnd : xAnd ga gb δ = (ga δ).bind fun z => if z = true then gb δ else .ok false := rfl
@[simp] theorem e_xOr : xOr ga gb δ = (ga δ).bind fun z => if z = true then .ok true else gb δ := rfl
@[simp] theorem e_xNot : xNot ga δ = (ga δ).bind fun z => .ok (!z) := rfl
@[simp] theorem e_xAndV : xAndV a b δ = (a δ).bind fun x => (asB x).bind fun z => if z = true then b δ else .ok (.bl false) := rfl
@[simp] theorem e_xOrV : xOrV a b δ = (a δ).bind fun x => (asB x).bind fun z => if z = true then .ok (.bl true) else b δ := rfl
@[simp] theorem e_xNotV : xNotV a δ = (a δ).bind fun x => (asB x).bind fun z => .ok (.bl (!z)) := rfl
@[simp] theorem e_xNil : xNil δ = .ok [] := rfl
@[simp] theorem e_xCons : xCons a es δ = (a δ).bind fun x => (es δ).bind fun xs => .ok (x :: xs) := rfl
@[simp] theorem e_xTup : xTup es δ = (es δ).bind fun xs => if small xs.length = true then .ok (.tup xs) else .bad := rfl
@[simp] theorem e_xLst : xLst es δ = (es δ).bind fun xs => if small xs.length = true then .ok (.lst xs) else .bad := rfl
@[simp] theorem e_xCall : xCall m es δ = (es δ).bind m := rfl
@[simp] theorem e_xCB {op : List DV → R DV} : xCB op es δ = (es δ).bind op := rfl
@[simp] theorem e_xIsi {tab} : xIsi tab a δ = (a δ).bind (oIsi tab) := rfl
@[simp] theorem e_xChain {o o' : DV → DV → R DV} : xChain o o' a b c δ = (a δ).bind fun x => (b δ).bind fun y => (o x y).bind fun z => (asB z).bind fun k => if k = true then (c δ).bind fun w => o' y w else .ok (.bl false) := rfl
@[simp] theorem e_xSrc {as_ : DV → R (List DV)} : xSrc as_ a δ = (a δ).bind as_ := rfl
@[simp] theorem e_xIt {as_ : List DV → R (List DV)} : xIt as_ es δ = (es δ).bind as_ := rfl
@[simp] theorem e_xPart : xPart a δ = (a δ).bind asI := rfl
@[simp] theorem e_xNo : xNo δ = .ok none := rfl
@[simp] theorem e_xSl {l u : Ev → R (Option Int)} : xSl a l u δ = (a δ).bind fun x => (l δ).bind fun l => (u δ).bind fun u => oSl x l u := rfl
@[simp] theorem e_xYes : xYes δ = .ok true := rfl
@[simp] theorem e_asB {b : Bool} : asB (.bl b) = .ok b := rfl
@[simp] theorem e_asI {i : Int} : asI (.int i) = .ok (some i) := rfl
@[simp] theorem e_v0 {s : Sl} {r : Ev} {d : DV} : xVar 0 (.pu d :: r) = .ok d := rfl
@[simp] theorem e_vs {i : Nat} {s : Sl} {r : Ev} : xVar (i + 1) (s :: r) = xVar i r := rfl
@[simp] theorem e_v1 {s0 : Sl} {r : Ev} : xVar 1 (s0 :: r) = xVar 0 r := rfl
@[simp] theorem e_v2 {s0 s1 : Sl} {r : Ev} : xVar 2 (s0 :: s1 :: r) = xVar 0 r := rfl
@[simp] theorem e_v3 {s0 s1 s2 : Sl} {r : Ev} : xVar 3 (s0 :: s1 :: s2 :: r) = xVar 0 r := rfl
@[simp] theorem e_v4 {s0 s1 s2 s3 : Sl} {r : Ev} : xVar 4 (s0 :: s1 :: s2 :: s3 :: r) = xVar 0 r := rfl
@[simp] theorem e_v5 {s0 s1 s2 s3 s4 : Sl} {r : Ev} : xVar 5 (s0 :: s1 :: s2 :: s3 :: s4 :: r) = xVar 0 r := rfl
@[simp] theorem e_v6 {s0 s1 s2 s3 s4 s5 : Sl} {r : Ev} : xVar 6 (s0 :: s1 :: s2 :: s3 :: s4 :: s5 :: r) = xVar 0 r := rfl
@[simp] theorem e_v7 {s0 s1 s2 s3 s4 s5 s6 : Sl} {r : Ev} : xVar 7 (s0 :: s1 :: s2 :: s3 :: s4 :: s5 :: s6 :: r) = xVar 0 r := rfl
@[simp] theorem e_v8 {s0 s1 s2 s3 s4 s5 s6 s7 : Sl} {r : Ev} : xVar 8 (s0 :: s1 :: s2 :: s3 :: s4 :: s5 :: s6 :: s7 :: r) = xVar 0 r := rfl
@[simp] theorem e_v9 {s0 s1 s2 s3 s4 s5 s6 s7 s8 : Sl} {r : Ev} : xVar 9 (s0 :: s1 :: s2 :: s3 :: s4 :: s5 :: s6 :: s7 :: s8 :: r) = xVar 0 r := rfl
@[simp] theorem e_gN {i : Nat} : gN i d δ = .ok (δ.set i (.pu d)) := rfl
@[simp] theorem e_gsNil : gsNil [] δ = .ok δ := rfl
@[simp] theorem e_gsCons {g : DV → Ev → R Ev} {gs : List DV → Ev → R Ev} {ds : List DV} : gsCons g gs (d :: ds) δ = (g d δ).bind (gs ds) := rfl
@[simp] theorem e_gT {n : Nat} {gs : List DV → Ev → R Ev} {ds : List DV} : gT n gs (.tup ds) δ = if Nat.beq ds.length n then gs ds δ else .bad := rfl
@[simp] theorem e_xS_ok {x : α} {k : α → SR} : xS (.ok x) δ k = k x := rfl
@[simp] theorem e_xS_exc {cl fs} {k : α → SR} : xS (.exc cl fs) δ k = .ex cl fs δ := rfl
@[simp] theorem e_xS_bad {k : α → SR} : xS (.bad : R α) δ k = .bad := rfl
@[simp] theorem e_sNx : sNx δ = .nx δ := rfl
@[simp] theorem e_sRet : sRet a δ = xS (a δ) δ .rt := rfl
@[simp] theorem e_sSet {i : Nat} : sSet i a δ = xS (a δ) δ fun d => .nx (δ.set i (.pu d)) := rfl
@[simp] theorem e_sPar {i j : Nat} : sPar i j a b δ = xS (a δ) δ fun d => xS (b δ) δ fun d' => .nx ((δ.set i (.pu d)).set j (.pu d')) := rfl
@[simp] theorem e_sIf : sIf ga F F' δ = xS (ga δ) δ fun z => if z = true then F δ else F' δ := rfl
@[simp] theorem e_sDrop : sDrop a δ = xS (a δ) δ fun _ => .nx δ := rfl
/-- one statement after another -/
def SR.andThen (r : SR) (F : Ev → SR) : SR := match r with
  | .nx δ => F δ
  | r => r
@[simp] theorem e_sSeq : sSeq F F' δ = (F δ).andThen F' := rfl
@[simp] theorem e_nx {δ : Ev} : (SR.nx δ).andThen F = F δ := rfl
@[simp] theorem e_rt : (SR.rt d).andThen F = .rt d := rfl
@[simp] theorem e_ex {cl fs} : (SR.ex cl fs δ).andThen F = .ex cl fs δ := rfl
@[simp] theorem e_bk {δ : Ev} : (SR.bk δ).andThen F = .bk δ := rfl
@[simp] theorem e_ct {δ : Ev} : (SR.ct δ).andThen F = .ct δ := rfl
@[simp] theorem e_bd : SR.bad.andThen F = .bad := rfl
@[simp] theorem e_sAsg {g : DV → Ev → R Ev} : sAsg a g δ = xS (a δ) δ fun d => match g d δ with
  | .ok δ' => .nx δ'
  | _ => .bad := rfl
@[simp] theorem e_sRaise {cl : Str} {f : Ev → R (List (Str × DV))} : sRaise cl f δ = match f δ with
  | .ok fs => .ex cl fs δ
  | _ => .bad := rfl
@[simp] theorem e_sFor {fi : Ev → R (List DV)} {g : DV → Ev → R Ev} : sFor fi g F δ = xS (fi δ) δ fun ds => forD g F ds δ := rfl
@[simp] theorem e_sSetLc {i : Nat} {f : Ev → R (List DV)} : sSetLc i f δ = xS (f δ) δ fun ys => .nx (δ.set i (.pu (.lst ys))) := rfl
@[simp] theorem e_sSetLcO {i : Nat} {f : Ev → R (List DV)} : sSetLcO i f δ = xS (f δ) δ fun ys => .nx (δ.set i (.ol ys)) := rfl
@[simp] theorem e_sFz {i : Nat} : sFz i F δ = F (frz δ i) := rfl
@[simp] theorem e_lc {vs fi g ft fe} : xLc vs fi g ft fe δ = (xLcs vs fi g ft fe δ).bind fun ys => .ok (.lst ys) := rfl
@[simp] theorem e_lcs {vs fi g ft fe} : xLcs vs fi g ft fe δ = (fi δ).bind fun ds => (lcD g ft fe (wipeD δ vs) ds).bind fun ys => if small ys.length = true then .ok ys else .bad := rfl
@[simp] theorem e_wn : wipeD δ [] = δ := rfl
@[simp] theorem e_wc {i : Nat} {vs : List Nat} : wipeD δ (i :: vs) = (wipeD δ vs).set i .un := rfl
@[simp] theorem e_asN {i : Int} : asRange1 [.int i] = if rng62 i then .ok (intsFrom 0 i.toNat) else .bad := rfl
end
/-- a def's end -/
def outR : SR → R DV
  | .nx _ => .ok .non
  | .rt d => .ok d
  | .ex c fs _ => .exc c fs
  | _ => .bad
@[simp] theorem outR_nx {δ : Ev} : outR (.nx δ) = .ok .non := rfl
@[simp] theorem outR_rt {d : DV} : outR (.rt d) = .ok d := rfl
@[simp] theorem outR_ex {c fs} {δ : Ev} : outR (.ex c fs δ) = .exc c fs := rfl
@[simp] theorem e_sFld {cs : List Str} {f : Str} {a : Ev → R DV} {c : Str} {fs : List (Str × DV)} {r : Ev} : sFldD cs 0 f a (.oo c fs :: r) = xS (a (.oo c fs :: r)) (.oo c fs :: r) fun d => if (cs.contains c && Nat.blt fs.length 1000) = true then .nx (.oo c (putD f d fs) :: r) else .bad := rfl
/-- an __init__'s end -/
def outI (c : Str) : SR → R (List (Str × DV))
  | .nx δ => (match (δ[0]? : Option Sl) with
    | some (Sl.oo c' fs') => if c' = c then .ok fs' else .bad
    | _ => .bad)
  | .ex c fs _ => .exc c fs
  | _ => .bad
@[simp] theorem outI_nx {c : Str} {fs : List (Str × DV)} {r : Ev} : outI c (.nx (.oo c fs :: r)) = .ok fs := by
  show (if c = c then R.ok fs else .bad) = _
  rw [if_pos rfl]
@[simp] theorem outI_ex {c cl : Str} {fs : List (Str × DV)} {r : Ev} : outI c (.ex cl fs r) = .exc cl fs := rfl
theorem imi_ev {n p : Nat} {F : Ev → SR} {c : Str} {fs : List (Str × DV)} {ds : List DV} : imi n p F c fs ds = if Nat.beq ds.length p then outI c (F (Sl.oo c fs :: (ds.map Sl.pu ++ List.replicate (n - (p + 1)) Sl.un))) else .bad := rfl
theorem imS_ev {cn : Str} {n p n2 : Nat} {fes : Ev → R (List DV)} {mi : Imi} {F : Ev → SR} {fs : List (Str × DV)} {ds : List DV} (h : Nat.beq ds.length p = true) :
    imS cn n p fes mi n2 F cn fs ds = (fes (Sl.oo cn fs :: (ds.map Sl.pu ++ List.replicate (n - (p + 1)) Sl.un))).bind fun ds2 => if Nat.beq ds2.length n2 = true then (mi cn fs ds2).bind fun fs2 => outI cn (F (Sl.oo cn fs2 :: (ds.map Sl.pu ++ List.replicate (n - (p + 1)) Sl.un))) else .bad := by
  unfold imS
  rw [if_pos (by rw [h, beq_self_eq_true]; rfl)]
  rfl
@[simp] theorem e_xMake {c : Str} {n : Nat} {mi : Imi} {es : Ev → R (List DV)} {δ : Ev} : xMake c n mi es δ = (es δ).bind fun ds => if Nat.beq ds.length n then (mi c [] ds).bind fun fs => .ok (.obj c fs) else .bad := rfl
@[simp] theorem e_sTry {tab : List (Str × Bool)} {F F2 : Ev → SR} {δ : Ev} : sTry tab F F2 δ = match F δ with
  | .ex c fs δ' => (match tab.lookup c with
    | some true => noXS (F2 δ')
    | some false => .ex c fs δ'
    | none => .bad)
  | r => r := rfl
@[simp] theorem e_xIxO1 {a : Ev → R DV} {s0 : Sl} {ds : List DV} {r : Ev} : xIxO 1 a (s0 :: .ol ds :: r) = (a (s0 :: .ol ds :: r)).bind fun k => oIx (.lst ds) k := rfl
@[simp] theorem e_sApp1 {a : Ev → R DV} {s0 : Sl} {ds : List DV} {r : Ev} : sApp 1 a (s0 :: .ol ds :: r) = xS (a (s0 :: .ol ds :: r)) (s0 :: .ol ds :: r) fun d => if Nat.blt ds.length 16777216 = true then .nx (s0 :: .ol (ds ++ [d]) :: r) else .bad := rfl
@[simp] theorem e_frz1 {s0 : Sl} {ds : List DV} {r : Ev} : frz (s0 :: .ol ds :: r) 1 = s0 :: .pu (.lst ds) :: r := rfl
/-! ### comprehensions, as maps -/
/-- every turn gives a value of which P holds -/
theorem lcD_ex {g : DV → Ev → R Ev} {fe : Ev → R DV} {δ : Ev} {P : DV → DV → Prop} : ∀ {ds : List DV}, (∀ d ∈ ds, ∃ δ' y, g d δ = .ok δ' ∧ fe δ' = .ok y ∧ P d y) → ∃ ys, lcD g xYes fe δ ds = .ok ys ∧ ys.length = ds.length ∧ ∀ y ∈ ys, ∃ d ∈ ds, P d y
  | [], _ => ⟨[], rfl, rfl, fun y h => by cases h⟩
  | d :: ds, q => by
    obtain ⟨δ', y, h1, h2, h3⟩ := q d List.mem_cons_self
    obtain ⟨ys, e, l, p⟩ := lcD_ex (ds := ds) fun d hd => q d (List.mem_cons_of_mem _ hd)
    refine ⟨y :: ys, ?_, by rw [List.length_cons, List.length_cons, l], fun z hz => ?_⟩
    · unfold lcD
      rw [h1]
      dsimp only
      show (noX (R.ok true)).bind _ = _
      simp only [noX, R.bind_ok, if_true]
      rw [h2]
      simp only [noX, R.bind_ok]
      rw [e]
      rfl
    · rcases List.mem_cons.mp hz with rfl | hz
      · exact ⟨d, List.mem_cons_self, h3⟩
      · obtain ⟨d', h, hp⟩ := p z hz
        exact ⟨d', List.mem_cons_of_mem _ h, hp⟩
theorem ints_mem {lo : Int} {n : Nat} {d : DV} (h : d ∈ intsFrom lo n) : ∃ t : Int, d = .int t ∧ lo ≤ t ∧ t < lo + n := by
  obtain ⟨i, hi, rfl⟩ := List.mem_map.mp h
  have := List.mem_range.mp hi
  exact ⟨lo + i, rfl, by omega, by omega⟩
theorem of_all {α : Type} {P : α → Prop} {f : α → DV} : ∀ {ys : List DV}, (∀ y ∈ ys, ∃ p, P p ∧ y = f p) → ∃ ps : List α, ys = ps.map f ∧ ∀ p ∈ ps, P p
  | [], _ => ⟨[], rfl, fun p h => by cases h⟩
  | y :: ys, h => by
    obtain ⟨p, hp, rfl⟩ := h y List.mem_cons_self
    obtain ⟨ps, rfl, hps⟩ := of_all (ys := ys) fun z hz => h z (List.mem_cons_of_mem _ hz)
    exact ⟨p :: ps, rfl, fun q hq => by
      rcases List.mem_cons.mp hq with rfl | hq
      · exact hp
      · exact hps q hq⟩
theorem zip_map {α : Type} (f g : α → DV) : ∀ ps : List α, zipD (ps.map f) (ps.map g) = ps.map fun p => .tup [f p, g p]
  | [] => rfl
  | p :: ps => by show _ :: zipD (ps.map f) (ps.map g) = _; rw [zip_map f g ps]; rfl
/-- every turn gives its value -/
theorem lcD_map {g : DV → Ev → R Ev} {ft : Ev → R Bool} {fe : Ev → R DV} {δ : Ev} {h : DV → DV} : ∀ {ds : List DV}, (∀ d ∈ ds, ∃ δ', g d δ = .ok δ' ∧ ft δ' = .ok true ∧ fe δ' = .ok (h d)) → lcD g ft fe δ ds = .ok (ds.map h)
  | [], _ => rfl
  | d :: ds, q => by
    obtain ⟨δ', h1, h2, h3⟩ := q d List.mem_cons_self
    unfold lcD
    rw [h1]
    dsimp only
    rw [h2]
    simp only [noX, R.bind_ok, if_true]
    rw [h3]
    simp only [noX, R.bind_ok]
    rw [lcD_map fun d hd => q d (List.mem_cons_of_mem _ hd)]
    rfl
theorem lcD_yes {g : DV → Ev → R Ev} {fe : Ev → R DV} {δ : Ev} {h : DV → DV} {ds : List DV} (q : ∀ d ∈ ds, ∃ δ', g d δ = .ok δ' ∧ fe δ' = .ok (h d)) : lcD g xYes fe δ ds = .ok (ds.map h) :=
  lcD_map fun d hd => let ⟨δ', h1, h2⟩ := q d hd; ⟨δ', h1, rfl, h2⟩
@[simp] theorem small_ok {n : Nat} (h : n ≤ 16777216) : small n = true := Nat.ble_eq_true_of_le h
/-- a loop whose turns leave a state of one kind -/
theorem forD_inv {g : DV → Ev → R Ev} {F : Ev → SR} (I : List DV → Ev → Prop) (hs : ∀ d ds δ, I (d :: ds) δ → ∃ δ1 δ2, g d δ = .ok δ1 ∧ F δ1 = .nx δ2 ∧ I ds δ2) : ∀ (ds : List DV) (δ : Ev), I ds δ → ∃ δ', forD g F ds δ = .nx δ' ∧ I [] δ'
  | [], δ, i => ⟨δ, rfl, i⟩
  | d :: ds, δ, i => by
    obtain ⟨δ1, δ2, h1, h2, h3⟩ := hs d ds δ i
    obtain ⟨δ', h4, h5⟩ := forD_inv I hs ds δ2 h3
    refine ⟨δ', ?_, h5⟩
    unfold forD
    rw [h1]
    dsimp only
    rw [h2]
    exact h4
end LD

set_option maxHeartbeats 2000000
/-! Layer D, part T: small laws of the data. -/
namespace LD
open PySem PySem.Spec PyProof.Rows L2
@[simp] theorem asInts_map (ns : List Int) : asInts (ns.map DV.int) = some ns := by
  induction ns with
  | nil => rfl
  | cons n ns ih => show (asInts (ns.map DV.int)).map (n :: ·) = _; rw [ih]; rfl
@[simp] theorem asBls_map (ns : List Bool) : asBls (ns.map DV.bl) = some ns := by
  induction ns with
  | nil => rfl
  | cons n ns ih => show (asBls (ns.map DV.bl)).map (n :: ·) = _; rw [ih]; rfl
theorem toPys_ints (ns : List Int) : toPys (ns.map DV.int) = some (ns.map PyData.int) := by
  induction ns with
  | nil => rfl
  | cons n ns ih => show (match toPy (.int n), toPys (ns.map DV.int) with | some p, some ps => some (p :: ps) | _, _ => none) = _; rw [ih]; rfl
theorem canAll_ints (ns : List Int) : PyData.canLayAll0 (ns.map PyData.int) = true := by
  induction ns with
  | nil => rfl
  | cons n ns ih => show (PyData.canLay0 (.int n) && PyData.canLayAll0 (ns.map PyData.int)) = true; rw [ih]; rfl
theorem depth_ints (ns : List Int) : PyData.depthAll (ns.map PyData.int) ≤ 1 := by
  induction ns with
  | nil => simp [PyData.depthAll]
  | cons n ns ih => simp [PyData.depthAll, PyData.depth]; exact ih
theorem shaped_ints (ns : List Int) : SeqAt.shaped (.list (ns.map PyData.int)) = true := by
  unfold SeqAt.shaped
  rw [Bool.and_eq_true]
  refine ⟨by show PyData.canLayAll0 _ = true; exact canAll_ints ns, decide_eq_true ?_⟩
  show PyData.depthAll _ + 1 ≤ 64
  have := depth_ints ns
  omega
/-- the script against [] -/
theorem ne_nil (ns : List Int) : oNe (.ro (ns.map DV.int)) (.lst []) = .ok (.bl (!ns.isEmpty)) := by
  have e1 : toPy (.ro (ns.map DV.int)) = some (.list (ns.map PyData.int)) := by
    show (toPys _).map _ = _
    rw [toPys_ints]; rfl
  have e2 : toPy (.lst []) = some (.list []) := rfl
  unfold oNe oEqW
  rw [e1, e2]
  dsimp only
  rw [shaped_ints, show SeqAt.shaped (.list []) = true from rfl]
  cases ns <;> rfl
theorem cut_map {α β : Type} (f : α → β) (xs : List α) (lo hi : Option Int) : cutD (xs.map f) lo hi = (cutD xs lo hi).map f := by
  unfold cutD
  rw [List.length_map, ← List.map_drop, ← List.map_take]
theorem ixN_lt {n : Nat} {i : Int} (h0 : 0 ≤ i) (h : i < n) : ixN n i = some i.toNat := by
  unfold ixN
  rw [if_pos h0, if_pos h]
/-- xs[i % len(xs)] -/
theorem atI_mod {α : Type} [Inhabited α] (xs : List α) (h : xs ≠ []) (i : Int) : ∃ x ∈ xs, atI xs (i % (xs.length : Int)) = some x := by
  have hl : 0 < xs.length := List.length_pos_iff.mpr h
  have h1 := Int.emod_nonneg i (show (xs.length : Int) ≠ 0 by omega)
  have h2 := Int.emod_lt_of_pos i (show (0 : Int) < xs.length by omega)
  have h3 : (i % (xs.length : Int)).toNat < xs.length := by omega
  refine ⟨xs[(i % (xs.length : Int)).toNat], List.getElem_mem h3, ?_⟩
  unfold atI
  rw [ixN_lt h1 h2]
  exact List.getElem?_eq_getElem h3
theorem atI_at {α : Type} (xs : List α) {i : Int} (h0 : 0 ≤ i) (h : i < xs.length) : ∃ x ∈ xs, atI xs i = some x := by
  have h3 : i.toNat < xs.length := by omega
  refine ⟨xs[i.toNat], List.getElem_mem h3, ?_⟩
  unfold atI
  rw [ixN_lt h0 h]
  exact List.getElem?_eq_getElem h3
theorem inM_of {i : Int} (h1 : -(2 ^ 64) < i) (h2 : i < 2 ^ 64) : inM i = true := by
  unfold inM
  rw [decide_eq_true h1, decide_eq_true h2]; rfl
@[simp] theorem o_sub {i j : Int} : oSub (.int i) (.int j) = .ok (.int (i - j)) := rfl
@[simp] theorem o_add {i j : Int} : oAdd (.int i) (.int j) = .ok (.int (i + j)) := rfl
theorem o_mul1 {i j : Int} (h : inM i = true) : oMul (.int i) (.int j) = .ok (.int (i * j)) := by
  show (if (inM i || inM j) = true then _ else _) = _
  rw [h]; rfl
theorem o_mul2 {i j : Int} (h : inM j = true) : oMul (.int i) (.int j) = .ok (.int (i * j)) := by
  show (if (inM i || inM j) = true then _ else _) = _
  rw [h, Bool.or_true]; rfl
theorem o_div {i j : Int} (h1 : 0 < j) (h2 : j < 1073741824) : oDiv (.int i) (.int j) = .ok (.int (i / j)) := by
  show (if (decide (0 < j) && decide (j < 1073741824)) = true then _ else _) = _
  rw [decide_eq_true h1, decide_eq_true h2]; rfl
theorem o_mod {i j : Int} (h1 : 0 < j) : oMod (.int i) (.int j) = .ok (.int (i % j)) := by
  show (if decide (0 < j) = true then _ else _) = _
  rw [decide_eq_true h1]; rfl
@[simp] theorem o_lt {i j : Int} : oLt (.int i) (.int j) = .ok (.bl (decide (i < j))) := rfl
@[simp] theorem o_le {i j : Int} : oLe (.int i) (.int j) = .ok (.bl (decide (i ≤ j))) := rfl
@[simp] theorem o_gt {i j : Int} : oGt (.int i) (.int j) = .ok (.bl (decide (j < i))) := rfl
@[simp] theorem o_ge {i j : Int} : oGe (.int i) (.int j) = .ok (.bl (decide (j ≤ i))) := rfl
@[simp] theorem o_neg {i : Int} : oNeg (.int i) = .ok (.int (-i)) := rfl
@[simp] theorem o_int {i : Int} : oInt [.int i] = .ok (.int i) := rfl
@[simp] theorem o_lenl {xs : List DV} : oLen [.lst xs] = .ok (.int xs.length) := rfl
@[simp] theorem o_lent {xs : List DV} : oLen [.tup xs] = .ok (.int xs.length) := rfl
@[simp] theorem o_lenr {xs : List DV} : oLen [.ro xs] = .ok (.int xs.length) := rfl
@[simp] theorem o_sum {ns : List Int} : oSum [.lst (ns.map DV.int)] = .ok (.int ns.sum) := by
  show (R.ofO (asInts _)).bind _ = _
  rw [asInts_map]; rfl
@[simp] theorem o_all {ns : List Bool} : oAll [.lst (ns.map DV.bl)] = .ok (.bl (ns.all id)) := by
  show (R.ofO (asBls _)).bind _ = _
  rw [asBls_map]; rfl
@[simp] theorem o_eqi {i j : Int} : oEq (.int i) (.int j) = .ok (.bl (i == j)) := rfl
@[simp] theorem o_nei {i j : Int} : oNe (.int i) (.int j) = .ok (.bl (!(i == j))) := rfl
@[simp] theorem o_eqb {i j : Bool} : oEq (.bl i) (.bl j) = .ok (.bl (i == j)) := rfl
@[simp] theorem o_neb {i j : Bool} : oNe (.bl i) (.bl j) = .ok (.bl (!(i == j))) := rfl
@[simp] theorem o_ixt {xs : List DV} {i : Int} : oIx (.tup xs) (.int i) = R.ofO (atI xs i) := rfl
@[simp] theorem o_ixl {xs : List DV} {i : Int} : oIx (.lst xs) (.int i) = R.ofO (atI xs i) := rfl
@[simp] theorem o_ixr {xs : List DV} {i : Int} : oIx (.ro xs) (.int i) = R.ofO (atI xs i) := rfl
end LD

set_option maxHeartbeats 0
/-! Printed by wip/gen/gen.py: the defs' mirrors and derivations. -/
namespace G40
open PySem PySem.Spec PyProof.Rows L2 LD
abbrev PP : Program := PySem.Challenge.pw_surelater_k40_whole_facts
def top (i : Nat) : Stmt := PP.main.body.getD i (.Pass ⟨0, 0, 0, 0⟩)
def sub (s : Stmt) (j : Nat) : Stmt := match s with
  | .ClassDef (body := b) .. => b.getD j (.Pass ⟨0, 0, 0, 0⟩)
  | _ => .Pass ⟨0, 0, 0, 0⟩
abbrev s__law_number : Stmt := top 15
def d__law_number : DefE := { at_ := .glo "_law_number", name := "_law_number", qual := "_law_number", params := defArgs s__law_number, body := defBody s__law_number, scope := defScope s__law_number }
abbrev s__law_name : Stmt := top 16
def d__law_name : DefE := { at_ := .glo "_law_name", name := "_law_name", qual := "_law_name", params := defArgs s__law_name, body := defBody s__law_name, scope := defScope s__law_name }
abbrev s__law_count : Stmt := top 17
def d__law_count : DefE := { at_ := .glo "_law_count", name := "_law_count", qual := "_law_count", params := defArgs s__law_count, body := defBody s__law_count, scope := defScope s__law_count }
abbrev s__law_plain : Stmt := top 18
def d__law_plain : DefE := { at_ := .glo "_law_plain", name := "_law_plain", qual := "_law_plain", params := defArgs s__law_plain, body := defBody s__law_plain, scope := defScope s__law_plain }
abbrev s__law_fit : Stmt := top 23
def d__law_fit : DefE := { at_ := .glo "_law_fit", name := "_law_fit", qual := "_law_fit", params := defArgs s__law_fit, body := defBody s__law_fit, scope := defScope s__law_fit }
abbrev s__law_plains : Stmt := top 24
def d__law_plains : DefE := { at_ := .glo "_law_plains", name := "_law_plains", qual := "_law_plains", params := defArgs s__law_plains, body := defBody s__law_plains, scope := defScope s__law_plains }
abbrev s_is_name : Stmt := top 9
def d_is_name : DefE := { at_ := .glo "is_name", name := "is_name", qual := "is_name", params := defArgs s_is_name, body := defBody s_is_name, scope := defScope s_is_name }
abbrev s_is_whole : Stmt := top 8
def d_is_whole : DefE := { at_ := .glo "is_whole", name := "is_whole", qual := "is_whole", params := defArgs s_is_whole, body := defBody s_is_whole, scope := defScope s_is_whole }
abbrev s_is_integer : Stmt := top 7
def d_is_integer : DefE := { at_ := .glo "is_integer", name := "is_integer", qual := "is_integer", params := defArgs s_is_integer, body := defBody s_is_integer, scope := defScope s_is_integer }
abbrev s_Fact_init : Stmt := sub (top 10) 1
def d_Fact_init : DefE := { at_ := .meth "Fact" "__init__", name := "__init__", qual := "Fact.__init__", params := defArgs s_Fact_init, body := defBody s_Fact_init, scope := defScope s_Fact_init }
abbrev s_After_init : Stmt := sub (top 11) 1
def d_After_init : DefE := { at_ := .meth "After" "__init__", name := "__init__", qual := "After.__init__", params := defArgs s_After_init, body := defBody s_After_init, scope := defScope s_After_init, sup := some ("After", "Fact") }
abbrev s_Close_init : Stmt := sub (top 13) 1
def d_Close_init : DefE := { at_ := .meth "Close" "__init__", name := "__init__", qual := "Close.__init__", params := defArgs s_Close_init, body := defBody s_Close_init, scope := defScope s_Close_init, sup := some ("Close", "Fact") }
abbrev s_Within_init : Stmt := sub (top 12) 1
def d_Within_init : DefE := { at_ := .meth "Within" "__init__", name := "__init__", qual := "Within.__init__", params := defArgs s_Within_init, body := defBody s_Within_init, scope := defScope s_Within_init, sup := some ("Within", "Fact") }
abbrev s__law_made : Stmt := top 22
def d__law_made : DefE := { at_ := .glo "_law_made", name := "_law_made", qual := "_law_made", params := defArgs s__law_made, body := defBody s__law_made, scope := defScope s__law_made }
abbrev s__law_is_name : Stmt := top 19
def d__law_is_name : DefE := { at_ := .glo "_law_is_name", name := "_law_is_name", qual := "_law_is_name", params := defArgs s__law_is_name, body := defBody s__law_is_name, scope := defScope s__law_is_name }
abbrev s__law_is_count : Stmt := top 20
def d__law_is_count : DefE := { at_ := .glo "_law_is_count", name := "_law_is_count", qual := "_law_is_count", params := defArgs s__law_is_count, body := defBody s__law_is_count, scope := defScope s__law_is_count }
abbrev s__law_is_fact : Stmt := top 21
def d__law_is_fact : DefE := { at_ := .glo "_law_is_fact", name := "_law_is_fact", qual := "_law_is_fact", params := defArgs s__law_is_fact, body := defBody s__law_is_fact, scope := defScope s__law_is_fact }
abbrev s_Fact_names : Stmt := sub (top 10) 2
def d_Fact_names : DefE := { at_ := .prop "Fact" "names", name := "names", qual := "Fact.names", params := defArgs s_Fact_names, body := defBody s_Fact_names, scope := defScope s_Fact_names }
abbrev s_Fact_numbers : Stmt := sub (top 10) 3
def d_Fact_numbers : DefE := { at_ := .prop "Fact" "numbers", name := "numbers", qual := "Fact.numbers", params := defArgs s_Fact_numbers, body := defBody s_Fact_numbers, scope := defScope s_Fact_numbers }
abbrev s_Fact_eq : Stmt := sub (top 10) 4
def d_Fact_eq : DefE := { at_ := .meth "Fact" "__eq__", name := "__eq__", qual := "Fact.__eq__", params := defArgs s_Fact_eq, body := defBody s_Fact_eq, scope := defScope s_Fact_eq }
abbrev s_law : Stmt := top 25
def d_law : DefE := { at_ := .glo "law", name := "law", qual := "law", params := defArgs s_law, body := defBody s_law, scope := defScope s_law }
def T0 : List (Tg × Bool) := [(.ty "NoneType", false), (.ty "bool", false), (.ty "int", false), (.ty "str", true), (.ty "tuple", false), (.ty "list", false), (.ty "dict", false), (.own "After", false), (.own "Within", false), (.own "Close", false)]
@[simp] theorem T0_non  : oIsi T0 (.non) = .ok (.bl false) := rfl
@[simp] theorem T0_bl {b : Bool} : oIsi T0 (.bl b) = .ok (.bl false) := rfl
@[simp] theorem T0_int {b : Int} : oIsi T0 (.int b) = .ok (.bl false) := rfl
@[simp] theorem T0_str {b : Str} : oIsi T0 (.str b) = .ok (.bl true) := rfl
@[simp] theorem T0_tup {b : List DV} : oIsi T0 (.tup b) = .ok (.bl false) := rfl
@[simp] theorem T0_lst {b : List DV} : oIsi T0 (.lst b) = .ok (.bl false) := rfl
@[simp] theorem T0_ro {b : List DV} : oIsi T0 (.ro b) = .ok (.bl false) := rfl
@[simp] theorem T0_dic {b : List (Key × DV)} : oIsi T0 (.dic b) = .ok (.bl false) := rfl
@[simp] theorem T0_dit {b : List (List Key × DV)} : oIsi T0 (.dit b) = .ok (.bl false) := rfl
@[simp] theorem T0_After {b : List (Str × DV)} : oIsi T0 (.obj "After" b) = .ok (.bl false) := rfl
@[simp] theorem T0_Within {b : List (Str × DV)} : oIsi T0 (.obj "Within" b) = .ok (.bl false) := rfl
@[simp] theorem T0_Close {b : List (Str × DV)} : oIsi T0 (.obj "Close" b) = .ok (.bl false) := rfl
def T1 : List (Tg × Bool) := [(.ty "NoneType", false), (.ty "bool", true), (.ty "int", true), (.ty "str", false), (.ty "tuple", false), (.ty "list", false), (.ty "dict", false), (.own "After", false), (.own "Within", false), (.own "Close", false)]
@[simp] theorem T1_non  : oIsi T1 (.non) = .ok (.bl false) := rfl
@[simp] theorem T1_bl {b : Bool} : oIsi T1 (.bl b) = .ok (.bl true) := rfl
@[simp] theorem T1_int {b : Int} : oIsi T1 (.int b) = .ok (.bl true) := rfl
@[simp] theorem T1_str {b : Str} : oIsi T1 (.str b) = .ok (.bl false) := rfl
@[simp] theorem T1_tup {b : List DV} : oIsi T1 (.tup b) = .ok (.bl false) := rfl
@[simp] theorem T1_lst {b : List DV} : oIsi T1 (.lst b) = .ok (.bl false) := rfl
@[simp] theorem T1_ro {b : List DV} : oIsi T1 (.ro b) = .ok (.bl false) := rfl
@[simp] theorem T1_dic {b : List (Key × DV)} : oIsi T1 (.dic b) = .ok (.bl false) := rfl
@[simp] theorem T1_dit {b : List (List Key × DV)} : oIsi T1 (.dit b) = .ok (.bl false) := rfl
@[simp] theorem T1_After {b : List (Str × DV)} : oIsi T1 (.obj "After" b) = .ok (.bl false) := rfl
@[simp] theorem T1_Within {b : List (Str × DV)} : oIsi T1 (.obj "Within" b) = .ok (.bl false) := rfl
@[simp] theorem T1_Close {b : List (Str × DV)} : oIsi T1 (.obj "Close" b) = .ok (.bl false) := rfl
def T2 : List (Tg × Bool) := [(.ty "NoneType", false), (.ty "bool", true), (.ty "int", false), (.ty "str", false), (.ty "tuple", false), (.ty "list", false), (.ty "dict", false), (.own "After", false), (.own "Within", false), (.own "Close", false)]
@[simp] theorem T2_non  : oIsi T2 (.non) = .ok (.bl false) := rfl
@[simp] theorem T2_bl {b : Bool} : oIsi T2 (.bl b) = .ok (.bl true) := rfl
@[simp] theorem T2_int {b : Int} : oIsi T2 (.int b) = .ok (.bl false) := rfl
@[simp] theorem T2_str {b : Str} : oIsi T2 (.str b) = .ok (.bl false) := rfl
@[simp] theorem T2_tup {b : List DV} : oIsi T2 (.tup b) = .ok (.bl false) := rfl
@[simp] theorem T2_lst {b : List DV} : oIsi T2 (.lst b) = .ok (.bl false) := rfl
@[simp] theorem T2_ro {b : List DV} : oIsi T2 (.ro b) = .ok (.bl false) := rfl
@[simp] theorem T2_dic {b : List (Key × DV)} : oIsi T2 (.dic b) = .ok (.bl false) := rfl
@[simp] theorem T2_dit {b : List (List Key × DV)} : oIsi T2 (.dit b) = .ok (.bl false) := rfl
@[simp] theorem T2_After {b : List (Str × DV)} : oIsi T2 (.obj "After" b) = .ok (.bl false) := rfl
@[simp] theorem T2_Within {b : List (Str × DV)} : oIsi T2 (.obj "Within" b) = .ok (.bl false) := rfl
@[simp] theorem T2_Close {b : List (Str × DV)} : oIsi T2 (.obj "Close" b) = .ok (.bl false) := rfl
def T3 : List (Tg × Bool) := [(.ty "NoneType", false), (.ty "bool", false), (.ty "int", false), (.ty "str", false), (.ty "tuple", false), (.ty "list", false), (.ty "dict", false), (.own "After", true), (.own "Within", true), (.own "Close", true)]
@[simp] theorem T3_non  : oIsi T3 (.non) = .ok (.bl false) := rfl
@[simp] theorem T3_bl {b : Bool} : oIsi T3 (.bl b) = .ok (.bl false) := rfl
@[simp] theorem T3_int {b : Int} : oIsi T3 (.int b) = .ok (.bl false) := rfl
@[simp] theorem T3_str {b : Str} : oIsi T3 (.str b) = .ok (.bl false) := rfl
@[simp] theorem T3_tup {b : List DV} : oIsi T3 (.tup b) = .ok (.bl false) := rfl
@[simp] theorem T3_lst {b : List DV} : oIsi T3 (.lst b) = .ok (.bl false) := rfl
@[simp] theorem T3_ro {b : List DV} : oIsi T3 (.ro b) = .ok (.bl false) := rfl
@[simp] theorem T3_dic {b : List (Key × DV)} : oIsi T3 (.dic b) = .ok (.bl false) := rfl
@[simp] theorem T3_dit {b : List (List Key × DV)} : oIsi T3 (.dit b) = .ok (.bl false) := rfl
@[simp] theorem T3_After {b : List (Str × DV)} : oIsi T3 (.obj "After" b) = .ok (.bl true) := rfl
@[simp] theorem T3_Within {b : List (Str × DV)} : oIsi T3 (.obj "Within" b) = .ok (.bl true) := rfl
@[simp] theorem T3_Close {b : List (Str × DV)} : oIsi T3 (.obj "Close" b) = .ok (.bl true) := rfl
def fa : List Fk := [
  frB "int",
  frB "len",
  frB "sum",
  glB "_law_number",
  kpB "_law_number",
  glB "_law_name",
  kpB "_law_name",
  glB "_law_count",
  kpB "_law_count",
  frB "range",
  glB "_law_plain",
  kpB "_law_plain",
  glB "_law_fit",
  kpB "_law_fit",
  frB "str",
  isB T0 [(.ty "str")],
  frB "isinstance",
  itB "MAX_NAME" 8,
  stB "LETTERS" "abcdefghijklmnopqrstuvwxyz",
  frB "all",
  isB T1 [(.ty "int")],
  frB "bool",
  isB T2 [(.ty "bool")],
  glB "is_whole",
  kpB "is_whole",
  glB "is_name",
  kpB "is_name",
  glB "InvalidFact",
  ecB "InvalidFact",
  itB "MAX_TIME" 999,
  glB "is_integer",
  kpB "is_integer",
  fldB ["After", "Within", "Close"] "pair",
  fldB ["After", "Within", "Close"] "bounds",
  frB "super",
  glB "After",
  mkB "After",
  glB "Close",
  mkB "Close",
  glB "Within",
  mkB "Within",
  exB [("TimeError", false), ("InvalidFact", true)] "InvalidFact",
  glB "_law_is_name",
  kpB "_law_is_name",
  glB "_law_is_count",
  kpB "_law_is_count",
  glB "Fact",
  isB T3 [(.own "Fact")],
  cnB [("After", .str "after"), ("Within", .str "within"), ("Close", .str "close")] "WORD",
  glB "_law_plains",
  kpB "_law_plains",
  glB "_law_made",
  kpB "_law_made",
  frB "zip",
  glB "_law_is_fact",
  kpB "_law_is_fact",
  ppsB ["After", "Within", "Close"] "names" "Fact",
  ppsB ["After", "Within", "Close"] "numbers" "Fact",
  ewB ["After", "Within", "Close"] "Fact",
  glB "law"]
def fn : List DefE := [d__law_number, d__law_name, d__law_count, d__law_plain, d__law_fit, d__law_plains, d_is_name, d_is_whole, d_is_integer, d_Fact_init, d_After_init, d_Close_init, d_Within_init, d__law_made, d__law_is_name, d__law_is_count, d__law_is_fact, d_Fact_names, d_Fact_numbers, d_Fact_eq, d_law]
abbrev N__law_number : List Str := ["_law_script", "_law_index", "_law_cells", "_law_cell", "_law_low", "_law_high", "_law_blend"]
def F__law_number : Ev → SR := sSeq (sSet 2 (xIf (xTest (xOp oNe (xVar 0) (xLst (xNil)))) (xSl (xVar 0) (xNo) (xPart (xC (.int 63)))) (xLst (xCons (xC (.int 5)) (xNil))))) (sSeq (sSet 3 (xOp oAdd (xOp oIx (xVar 2) (xOp oMod (xCB oInt (xCons (xVar 1) (xNil))) (xCB oLen (xCons (xVar 2) (xNil))))) (xOp oMul (xC (.int 13)) (xOp oDiv (xVar 1) (xCB oLen (xCons (xVar 2) (xNil))))))) (sSeq (sPar 4 5 (xOp oMod (xCB oInt (xCons (xVar 3) (xNil))) (xC (.int 1000003))) (xOp oMod (xCB oInt (xCons (xOp oDiv (xVar 3) (xC (.int 1000003))) (xNil))) (xC (.int 999983)))) (sSeq (sSet 6 (xOp oMod (xCB oInt (xCons (xOp oAdd (xOp oAdd (xOp oMul (xOp oAdd (xVar 4) (xOp oMul (xC (.int 977)) (xVar 1))) (xC (.int 48271))) (xOp oMul (xC (.int 31)) (xVar 5))) (xOp oMod (xCB oInt (xCons (xCB oSum (xCons (xVar 2) (xNil))) (xNil))) (xC (.int 65521)))) (xNil))) (xC (.int 2147483647)))) (sRet (xOp oMod (xCB oInt (xCons (xOp oMul (xVar 6) (xOp oAdd (xOp oAdd (xVar 6) (xOp oMul (xC (.int 31)) (xVar 1))) (xC (.int 7)))) (xNil))) (xC (.int 2147483629)))))))
theorem sc__law_number : FnScope N__law_number ["_law_script", "_law_index"] (defScope s__law_number) := ⟨rfl, rfl, rfl, by decide +kernel, rfl, by decide +kernel, by decide +kernel⟩
def m__law_number : Mir := mir 7 2 F__law_number
theorem ok__law_number {w : World} {K : PySem.W.Frag} {mg : Str → Option Value} {base : Heap} (x : Fx PP fa fn K mg) : FO PP w K mg base 1 (He.ga K "_law_number") ["_law_script", "_law_index"] (spD K m__law_number) := by
  obtain ⟨fd, D⟩ := x.c.def_ 0 (d := d__law_number)
  have hN := sc__law_number.nd
  exact fn_k D sc__law_number (by decide) (FunD.bindsN D fun _ _ _ _ _ _ us hl => match us, hl with | [_, _], _ => rfl) fun cdv A outer s H E hr tk po => dss_cons (ds_set 2 hN (d_if (dt_cmp (op_neD hr.units) od_ne (d_var 0) (d_lst (da_nil))) (d_slice (d_var 0) (do_none) (do_some (d_int))) (d_lst (da_cons (d_int) (da_nil))))) (dss_cons (ds_set 3 hN (d_op op_addA od_add (d_ix (d_var 2) (d_op op_mod od_mod (d_callTy call_int1 cb_int (x.fr (x.f 0)) (by decide +kernel) (da_cons (d_var 1) (da_nil))) (d_callB call_len cb_len (x.fr (x.f 1)) (by decide +kernel) (da_cons (d_var 2) (da_nil))))) (d_op op_mul od_mul (d_int) (d_op op_fdiv od_div (d_var 1) (d_callB call_len cb_len (x.fr (x.f 1)) (by decide +kernel) (da_cons (d_var 2) (da_nil))))))) (dss_cons (ds_par 4 5 rfl hN (d_op op_mod od_mod (d_callTy call_int1 cb_int (x.fr (x.f 0)) (by decide +kernel) (da_cons (d_var 3) (da_nil))) (d_int)) (d_op op_mod od_mod (d_callTy call_int1 cb_int (x.fr (x.f 0)) (by decide +kernel) (da_cons (d_op op_fdiv od_div (d_var 3) (d_int)) (da_nil))) (d_int))) (dss_cons (ds_set 6 hN (d_op op_mod od_mod (d_callTy call_int1 cb_int (x.fr (x.f 0)) (by decide +kernel) (da_cons (d_op op_addA od_add (d_op op_addA od_add (d_op op_mul od_mul (d_op op_addA od_add (d_var 4) (d_op op_mul od_mul (d_int) (d_var 1))) (d_int)) (d_op op_mul od_mul (d_int) (d_var 5))) (d_op op_mod od_mod (d_callTy call_int1 cb_int (x.fr (x.f 0)) (by decide +kernel) (da_cons (d_callB (cr_sum rfl) cb_sum (x.fr (x.f 2)) (by decide +kernel) (da_cons (d_var 2) (da_nil))) (da_nil))) (d_int))) (da_nil))) (d_int))) (dss_one (ds_ret (d_op op_mod od_mod (d_callTy call_int1 cb_int (x.fr (x.f 0)) (by decide +kernel) (da_cons (d_op op_mul od_mul (d_var 6) (d_op op_addA od_add (d_op op_addA od_add (d_var 6) (d_op op_mul od_mul (d_int) (d_var 1))) (d_int))) (da_nil))) (d_int)))))))
abbrev N__law_name : List Str := ["_law_seed"]
def F__law_name : Ev → SR := sSeq (sIf (xTest (xOp oGt (xOp oMod (xCB oInt (xCons (xVar 0) (xNil))) (xC (.int 5))) (xC (.int 0)))) (sRet (xOp oIx (xTup (xCons (xC (.str "a")) (xCons (xC (.str "b")) (xCons (xC (.str "ab")) (xCons (xC (.str "msg")) (xCons (xC (.str "abcdefgh")) (xCons (xC (.str "zzzzzzzz")) (xNil)))))))) (xOp oMod (xCB oInt (xCons (xOp oDiv (xVar 0) (xC (.int 5))) (xNil))) (xC (.int 6))))) (sNx)) (sRet (xOp oIx (xTup (xCons (xC (.str "")) (xCons (xC (.str "abcdefghi")) (xCons (xC (.str "A")) (xCons (xC (.str "a b")) (xCons (xC (.str "a1")) (xCons (xC (.str "x\n")) (xCons (xC .non) (xCons (xC (.int 5)) (xCons (xC (.bl true)) (xCons (xTup (xCons (xC (.str "a")) (xNil))) (xNil)))))))))))) (xOp oMod (xCB oInt (xCons (xOp oDiv (xVar 0) (xC (.int 5))) (xNil))) (xC (.int 10)))))
theorem sc__law_name : FnScope N__law_name ["_law_seed"] (defScope s__law_name) := ⟨rfl, rfl, rfl, by decide +kernel, rfl, by decide +kernel, by decide +kernel⟩
def m__law_name : Mir := mir 1 1 F__law_name
theorem ok__law_name {w : World} {K : PySem.W.Frag} {mg : Str → Option Value} {base : Heap} (x : Fx PP fa fn K mg) : FO PP w K mg base 1 (He.ga K "_law_name") ["_law_seed"] (spD K m__law_name) := by
  obtain ⟨fd, D⟩ := x.c.def_ 1 (d := d__law_name)
  have hN := sc__law_name.nd
  exact fn_k D sc__law_name (by decide) (FunD.bindsN D fun _ _ _ _ _ _ us hl => match us, hl with | [_], _ => rfl) fun cdv A outer s H E hr tk po => dss_cons (ds_if (dt_cmp op_gt od_gt (d_op op_mod od_mod (d_callTy call_int1 cb_int (x.fr (x.f 0)) (by decide +kernel) (da_cons (d_var 0) (da_nil))) (d_int)) (d_int)) (dss_one (ds_ret (d_ix (d_tup (da_cons (d_str) (da_cons (d_str) (da_cons (d_str) (da_cons (d_str) (da_cons (d_str) (da_cons (d_str) (da_nil)))))))) (d_op op_mod od_mod (d_callTy call_int1 cb_int (x.fr (x.f 0)) (by decide +kernel) (da_cons (d_op op_fdiv od_div (d_var 0) (d_int)) (da_nil))) (d_int))))) (dss_nil)) (dss_one (ds_ret (d_ix (d_tup (da_cons (d_str) (da_cons (d_str) (da_cons (d_str) (da_cons (d_str) (da_cons (d_str) (da_cons (d_str) (da_cons (d_non) (da_cons (d_int) (da_cons (d_bl) (da_cons (d_tup (da_cons (d_str) (da_nil))) (da_nil)))))))))))) (d_op op_mod od_mod (d_callTy call_int1 cb_int (x.fr (x.f 0)) (by decide +kernel) (da_cons (d_op op_fdiv od_div (d_var 0) (d_int)) (da_nil))) (d_int)))))
abbrev N__law_count : List Str := ["_law_seed"]
def F__law_count : Ev → SR := sSeq (sIf (xTest (xOp oGt (xOp oMod (xCB oInt (xCons (xVar 0) (xNil))) (xC (.int 4))) (xC (.int 0)))) (sRet (xOp oIx (xTup (xCons (xUn oNeg (xC (.int 999))) (xCons (xUn oNeg (xC (.int 998))) (xCons (xUn oNeg (xC (.int 1))) (xCons (xC (.int 0)) (xCons (xC (.int 1)) (xCons (xC (.int 2)) (xCons (xC (.int 998)) (xCons (xC (.int 999)) (xCons (xOp oSub (xOp oMod (xCB oInt (xCons (xOp oDiv (xVar 0) (xC (.int 40))) (xNil))) (xC (.int 1999))) (xC (.int 999))) (xNil))))))))))) (xOp oMod (xCB oInt (xCons (xOp oDiv (xVar 0) (xC (.int 4))) (xNil))) (xC (.int 9))))) (sNx)) (sRet (xOp oIx (xTup (xCons (xUn oNeg (xC (.int 1000))) (xCons (xC (.int 1000)) (xCons (xOp oPow (xC (.int 10)) (xC (.int 30))) (xCons (xUn oNeg (xOp oPow (xC (.int 10)) (xC (.int 30)))) (xCons (xC .non) (xCons (xC (.str "7")) (xCons (xC (.bl true)) (xCons (xC (.bl false)) (xCons (xTup (xCons (xC (.int 1)) (xNil))) (xCons (xLst (xNil)) (xNil)))))))))))) (xOp oMod (xCB oInt (xCons (xOp oDiv (xVar 0) (xC (.int 4))) (xNil))) (xC (.int 10)))))
theorem sc__law_count : FnScope N__law_count ["_law_seed"] (defScope s__law_count) := ⟨rfl, rfl, rfl, by decide +kernel, rfl, by decide +kernel, by decide +kernel⟩
def m__law_count : Mir := mir 1 1 F__law_count
theorem ok__law_count {w : World} {K : PySem.W.Frag} {mg : Str → Option Value} {base : Heap} (x : Fx PP fa fn K mg) : FO PP w K mg base 1 (He.ga K "_law_count") ["_law_seed"] (spD K m__law_count) := by
  obtain ⟨fd, D⟩ := x.c.def_ 2 (d := d__law_count)
  have hN := sc__law_count.nd
  exact fn_k D sc__law_count (by decide) (FunD.bindsN D fun _ _ _ _ _ _ us hl => match us, hl with | [_], _ => rfl) fun cdv A outer s H E hr tk po => dss_cons (ds_if (dt_cmp op_gt od_gt (d_op op_mod od_mod (d_callTy call_int1 cb_int (x.fr (x.f 0)) (by decide +kernel) (da_cons (d_var 0) (da_nil))) (d_int)) (d_int)) (dss_one (ds_ret (d_ix (d_tup (da_cons (d_un un_neg (fun s r h => od_neg s r h) (d_int)) (da_cons (d_un un_neg (fun s r h => od_neg s r h) (d_int)) (da_cons (d_un un_neg (fun s r h => od_neg s r h) (d_int)) (da_cons (d_int) (da_cons (d_int) (da_cons (d_int) (da_cons (d_int) (da_cons (d_int) (da_cons (d_op op_sub od_sub (d_op op_mod od_mod (d_callTy call_int1 cb_int (x.fr (x.f 0)) (by decide +kernel) (da_cons (d_op op_fdiv od_div (d_var 0) (d_int)) (da_nil))) (d_int)) (d_int)) (da_nil))))))))))) (d_op op_mod od_mod (d_callTy call_int1 cb_int (x.fr (x.f 0)) (by decide +kernel) (da_cons (d_op op_fdiv od_div (d_var 0) (d_int)) (da_nil))) (d_int))))) (dss_nil)) (dss_one (ds_ret (d_ix (d_tup (da_cons (d_un un_neg (fun s r h => od_neg s r h) (d_int)) (da_cons (d_int) (da_cons (d_op op_pow od_pow (d_int) (d_int)) (da_cons (d_un un_neg (fun s r h => od_neg s r h) (d_op op_pow od_pow (d_int) (d_int))) (da_cons (d_non) (da_cons (d_str) (da_cons (d_bl) (da_cons (d_bl) (da_cons (d_tup (da_cons (d_int) (da_nil))) (da_cons (d_lst (da_nil)) (da_nil)))))))))))) (d_op op_mod od_mod (d_callTy call_int1 cb_int (x.fr (x.f 0)) (by decide +kernel) (da_cons (d_op op_fdiv od_div (d_var 0) (d_int)) (da_nil))) (d_int)))))
abbrev N__law_plain : List Str := ["_law_script", "_law_at", "_law_seed", "_law_kind", "_law_one", "_law_other", "_law_numbers", "_law_last"]
def F__law_plain : Ev → SR := sSeq (sSet 2 (xCall m__law_number (xCons (xVar 0) (xCons (xVar 1) (xNil))))) (sSeq (sPar 3 4 (xOp oMod (xCB oInt (xCons (xVar 2) (xNil))) (xC (.int 3))) (xCall m__law_name (xCons (xCall m__law_number (xCons (xVar 0) (xCons (xOp oAdd (xVar 1) (xC (.int 1))) (xNil)))) (xNil)))) (sSeq (sSet 5 (xIf (xTest (xOp oEq (xOp oMod (xCB oInt (xCons (xOp oDiv (xVar 2) (xC (.int 3))) (xNil))) (xC (.int 9))) (xC (.int 0)))) (xVar 4) (xCall m__law_name (xCons (xCall m__law_number (xCons (xVar 0) (xCons (xOp oAdd (xVar 1) (xC (.int 2))) (xNil)))) (xNil))))) (sSeq (sSet 6 (xTup (xCons (xCall m__law_count (xCons (xCall m__law_number (xCons (xVar 0) (xCons (xOp oAdd (xVar 1) (xC (.int 3))) (xNil)))) (xNil))) (xNil)))) (sSeq (sIf (xTest (xOp oEq (xVar 3) (xC (.int 1)))) (sSeq (sSet 7 (xCall m__law_count (xCons (xCall m__law_number (xCons (xVar 0) (xCons (xOp oAdd (xVar 1) (xC (.int 4))) (xNil)))) (xNil)))) (sSet 6 (xTup (xCons (xOp oIx (xVar 6) (xC (.int 0))) (xCons (xIf (xTest (xOp oEq (xOp oMod (xCB oInt (xCons (xOp oDiv (xVar 2) (xC (.int 27))) (xNil))) (xC (.int 5))) (xC (.int 0)))) (xOp oIx (xVar 6) (xC (.int 0))) (xVar 7)) (xNil)))))) (sNx)) (sRet (xTup (xCons (xVar 3) (xCons (xVar 4) (xCons (xVar 5) (xCons (xVar 6) (xNil)))))))))))
theorem sc__law_plain : FnScope N__law_plain ["_law_script", "_law_at"] (defScope s__law_plain) := ⟨rfl, rfl, rfl, by decide +kernel, rfl, by decide +kernel, by decide +kernel⟩
def m__law_plain : Mir := mir 8 2 F__law_plain
theorem ok__law_plain {w : World} {K : PySem.W.Frag} {mg : Str → Option Value} {base : Heap} (x : Fx PP fa fn K mg) : FO PP w K mg base 2 (He.ga K "_law_plain") ["_law_script", "_law_at"] (spD K m__law_plain) := by
  obtain ⟨fd, D⟩ := x.c.def_ 3 (d := d__law_plain)
  have hN := sc__law_plain.nd
  exact fn_k D sc__law_plain (by decide) (FunD.bindsN D fun _ _ _ _ _ _ us hl => match us, hl with | [_, _], _ => rfl) fun cdv A outer s H E hr tk po => dss_cons (ds_set 2 hN (k_call tk (ok__law_number x) hr (by decide) (x.gl (x.f 3)) (x.f 4) (da_cons (d_var 0) (da_cons (d_var 1) (da_nil))))) (dss_cons (ds_par 3 4 rfl hN (d_op op_mod od_mod (d_callTy call_int1 cb_int (x.fr (x.f 0)) (by decide +kernel) (da_cons (d_var 2) (da_nil))) (d_int)) (k_call tk (ok__law_name x) hr (by decide) (x.gl (x.f 5)) (x.f 6) (da_cons (k_call tk (ok__law_number x) hr (by decide) (x.gl (x.f 3)) (x.f 4) (da_cons (d_var 0) (da_cons (d_op op_addA od_add (d_var 1) (d_int)) (da_nil)))) (da_nil)))) (dss_cons (ds_set 5 hN (d_if (dt_cmp (op_eqD hr.units) od_eq (d_op op_mod od_mod (d_callTy call_int1 cb_int (x.fr (x.f 0)) (by decide +kernel) (da_cons (d_op op_fdiv od_div (d_var 2) (d_int)) (da_nil))) (d_int)) (d_int)) (d_var 4) (k_call tk (ok__law_name x) hr (by decide) (x.gl (x.f 5)) (x.f 6) (da_cons (k_call tk (ok__law_number x) hr (by decide) (x.gl (x.f 3)) (x.f 4) (da_cons (d_var 0) (da_cons (d_op op_addA od_add (d_var 1) (d_int)) (da_nil)))) (da_nil))))) (dss_cons (ds_set 6 hN (d_tup (da_cons (k_call tk (ok__law_count x) hr (by decide) (x.gl (x.f 7)) (x.f 8) (da_cons (k_call tk (ok__law_number x) hr (by decide) (x.gl (x.f 3)) (x.f 4) (da_cons (d_var 0) (da_cons (d_op op_addA od_add (d_var 1) (d_int)) (da_nil)))) (da_nil))) (da_nil)))) (dss_cons (ds_if (dt_cmp (op_eqD hr.units) od_eq (d_var 3) (d_int)) (dss_cons (ds_set 7 hN (k_call tk (ok__law_count x) hr (by decide) (x.gl (x.f 7)) (x.f 8) (da_cons (k_call tk (ok__law_number x) hr (by decide) (x.gl (x.f 3)) (x.f 4) (da_cons (d_var 0) (da_cons (d_op op_addA od_add (d_var 1) (d_int)) (da_nil)))) (da_nil)))) (dss_one (ds_set 6 hN (d_tup (da_cons (d_ix (d_var 6) (d_int)) (da_cons (d_if (dt_cmp (op_eqD hr.units) od_eq (d_op op_mod od_mod (d_callTy call_int1 cb_int (x.fr (x.f 0)) (by decide +kernel) (da_cons (d_op op_fdiv od_div (d_var 2) (d_int)) (da_nil))) (d_int)) (d_int)) (d_ix (d_var 6) (d_int)) (d_var 7)) (da_nil))))))) (dss_nil)) (dss_one (ds_ret (d_tup (da_cons (d_var 3) (da_cons (d_var 4) (da_cons (d_var 5) (da_cons (d_var 6) (da_nil))))))))))))
abbrev N__law_fit : List Str := ["_law_plain_here", "_law_kind", "_law_one", "_law_other", "_law_numbers"]
def F__law_fit : Ev → SR := sSeq (sAsg (xVar 0) (gT 4 (gsCons (gN 1) (gsCons (gN 2) (gsCons (gN 3) (gsCons (gN 4) (gsNil))))))) (sSeq (sIf (xTest (xOp oEq (xVar 1) (xC (.int 1)))) (sRet (xTup (xCons (xVar 1) (xCons (xVar 2) (xCons (xVar 3) (xCons (xIf (xTest (xOp oEq (xCB oLen (xCons (xVar 4) (xNil))) (xC (.int 2)))) (xVar 4) (xOp oAdd (xVar 4) (xVar 4))) (xNil))))))) (sNx)) (sRet (xTup (xCons (xVar 1) (xCons (xVar 2) (xCons (xVar 3) (xCons (xSl (xVar 4) (xNo) (xPart (xC (.int 1)))) (xNil))))))))
theorem sc__law_fit : FnScope N__law_fit ["_law_plain_here"] (defScope s__law_fit) := ⟨rfl, rfl, rfl, by decide +kernel, rfl, by decide +kernel, by decide +kernel⟩
def m__law_fit : Mir := mir 5 1 F__law_fit
theorem ok__law_fit {w : World} {K : PySem.W.Frag} {mg : Str → Option Value} {base : Heap} (x : Fx PP fa fn K mg) : FO PP w K mg base 1 (He.ga K "_law_fit") ["_law_plain_here"] (spD K m__law_fit) := by
  obtain ⟨fd, D⟩ := x.c.def_ 4 (d := d__law_fit)
  have hN := sc__law_fit.nd
  exact fn_k D sc__law_fit (by decide) (FunD.bindsN D fun _ _ _ _ _ _ us hl => match us, hl with | [_], _ => rfl) fun cdv A outer s H E hr tk po => dss_cons (ds_asg (d_var 0) (dg_tup rfl (dgs_cons (dg_name 1 hN) (dgs_cons (dg_name 2 hN) (dgs_cons (dg_name 3 hN) (dgs_cons (dg_name 4 hN) (dgs_nil))))))) (dss_cons (ds_if (dt_cmp (op_eqD hr.units) od_eq (d_var 1) (d_int)) (dss_one (ds_ret (d_tup (da_cons (d_var 1) (da_cons (d_var 2) (da_cons (d_var 3) (da_cons (d_if (dt_cmp (op_eqD hr.units) od_eq (d_callB call_len cb_len (x.fr (x.f 1)) (by decide +kernel) (da_cons (d_var 4) (da_nil))) (d_int)) (d_var 4) (d_op op_addA od_add (d_var 4) (d_var 4))) (da_nil)))))))) (dss_nil)) (dss_one (ds_ret (d_tup (da_cons (d_var 1) (da_cons (d_var 2) (da_cons (d_var 3) (da_cons (d_slice (d_var 4) (do_none) (do_some (d_int))) (da_nil)))))))))
abbrev N__law_plains : List Str := ["_law_script", "_law_plains_here", "_law_turn", "_law_word", "_law_kind", "_law_one", "_law_other", "_law_numbers", "_law_plain_here"]
def B__law_plains_1 : Ev → SR := sSeq (sAsg (xIxO 1 (xOp oMod (xCB oInt (xCons (xCall m__law_number (xCons (xVar 0) (xCons (xOp oAdd (xC (.int 200)) (xVar 2)) (xNil)))) (xNil))) (xC (.int 12)))) (gT 4 (gsCons (gN 4) (gsCons (gN 5) (gsCons (gN 6) (gsCons (gN 7) (gsNil))))))) (sSeq (sSet 3 (xOp oMod (xCB oInt (xCons (xCall m__law_number (xCons (xVar 0) (xCons (xOp oAdd (xC (.int 210)) (xVar 2)) (xNil)))) (xNil))) (xC (.int 4)))) (sSeq (sIf (xTest (xOp oEq (xVar 3) (xC (.int 0)))) (sPar 5 6 (xVar 6) (xVar 5)) (sIf (xTest (xOp oEq (xVar 3) (xC (.int 1)))) (sSet 4 (xOp oMod (xCB oInt (xCons (xOp oAdd (xVar 4) (xC (.int 1))) (xNil))) (xC (.int 3)))) (sIf (xTest (xOp oEq (xVar 3) (xC (.int 2)))) (sSet 6 (xVar 5)) (sNx)))) (sApp 1 (xTup (xCons (xVar 4) (xCons (xVar 5) (xCons (xVar 6) (xCons (xVar 7) (xNil)))))))))
def F__law_plains : Ev → SR := sSeq (sSetLcO 1 (xLcs [2] (xIt asRange1 (xCons (xC (.int 12)) (xNil))) (gN 2) (xYes) (xCall m__law_plain (xCons (xVar 0) (xCons (xOp oMul (xC (.int 10)) (xVar 2)) (xNil)))))) (sSeq (sFor (xIt asRange1 (xCons (xC (.int 8)) (xNil))) (gN 2) (B__law_plains_1)) (sFz 1 (sRet (xLc [8] (xSrc asAny (xVar 1)) (gN 8) (xYes) (xCall m__law_fit (xCons (xVar 8) (xNil)))))))
theorem sc__law_plains : FnScope N__law_plains ["_law_script"] (defScope s__law_plains) := ⟨rfl, rfl, rfl, by decide +kernel, rfl, by decide +kernel, by decide +kernel⟩
def m__law_plains : Mir := mir 9 1 F__law_plains
theorem ok__law_plains {w : World} {K : PySem.W.Frag} {mg : Str → Option Value} {base : Heap} (x : Fx PP fa fn K mg) : FO PP w K mg base 3 (He.ga K "_law_plains") ["_law_script"] (spD K m__law_plains) := by
  obtain ⟨fd, D⟩ := x.c.def_ 5 (d := d__law_plains)
  have hN := sc__law_plains.nd
  exact fn_k D sc__law_plains (by decide) (FunD.bindsN D fun _ _ _ _ _ _ us hl => match us, hl with | [_], _ => rfl) fun cdv A outer s H E hr tk po => dss_cons (ds_setLcO 1 (own := [("_law_turn", 2)]) rfl hN (blkOk_by (by kernel_rfl)) (by decide) (di_range1 (x.fr (x.f 9)) (da_cons (d_int) (da_nil))) (fun _ _ _ _ _ => dg_name 2 hN) (fun _ _ _ _ _ => dts_nil) (fun _ _ _ _ _ => k_call tk0 (ok__law_plain x) hr (by decide) (x.gl (x.f 10)) (x.f 11) (da_cons (d_var 0) (da_cons (d_op op_mul od_mul (d_int) (d_var 2)) (da_nil))))) (dss_cons (ds_for po rfl (di_range1 (x.fr (x.f 9)) (da_cons (d_int) (da_nil))) (dg_name 2 hN) (dss_cons (ds_asg (d_ixO 1 (d_op op_mod od_mod (d_callTy call_int1 cb_int (x.fr (x.f 0)) (by decide +kernel) (da_cons (k_call tk (ok__law_number x) hr (by decide) (x.gl (x.f 3)) (x.f 4) (da_cons (d_var 0) (da_cons (d_op op_addA od_add (d_int) (d_var 2)) (da_nil)))) (da_nil))) (d_int))) (dg_tup rfl (dgs_cons (dg_name 4 hN) (dgs_cons (dg_name 5 hN) (dgs_cons (dg_name 6 hN) (dgs_cons (dg_name 7 hN) (dgs_nil))))))) (dss_cons (ds_set 3 hN (d_op op_mod od_mod (d_callTy call_int1 cb_int (x.fr (x.f 0)) (by decide +kernel) (da_cons (k_call tk (ok__law_number x) hr (by decide) (x.gl (x.f 3)) (x.f 4) (da_cons (d_var 0) (da_cons (d_op op_addA od_add (d_int) (d_var 2)) (da_nil)))) (da_nil))) (d_int))) (dss_cons (ds_if (dt_cmp (op_eqD hr.units) od_eq (d_var 3) (d_int)) (dss_one (ds_par 5 6 rfl hN (d_var 6) (d_var 5))) (dss_one (ds_if (dt_cmp (op_eqD hr.units) od_eq (d_var 3) (d_int)) (dss_one (ds_set 4 hN (d_op op_mod od_mod (d_callTy call_int1 cb_int (x.fr (x.f 0)) (by decide +kernel) (da_cons (d_op op_addA od_add (d_var 4) (d_int)) (da_nil))) (d_int)))) (dss_one (ds_if (dt_cmp (op_eqD hr.units) od_eq (d_var 3) (d_int)) (dss_one (ds_set 6 hN (d_var 5))) (dss_nil)))))) (dss_one (ds_app 1 (d_tup (da_cons (d_var 4) (da_cons (d_var 5) (da_cons (d_var 6) (da_cons (d_var 7) (da_nil)))))))))))) (dss_frz 1 (dss_one (ds_ret (d_lc (own := [("_law_plain_here", 8)]) rfl hN (blkOk_by (by kernel_rfl)) (by decide) (di_any (d_var 1)) (fun _ _ _ _ _ => dg_name 8 hN) (fun _ _ _ _ _ => dts_nil) (fun _ _ _ _ _ => k_call tk0 (ok__law_fit x) hr (by decide) (x.gl (x.f 12)) (x.f 13) (da_cons (d_var 8) (da_nil))))))))
abbrev N_is_name : List Str := ["value", "letter"]
def F_is_name : Ev → SR := sRet (xAndV (xIsi T0 (xVar 0)) (xAndV (xChain oLe oLe (xC (.int 1)) (xCB oLen (xCons (xVar 0) (xNil))) (xC (.int 8))) (xCB oAll (xCons (xLc [1] (xSrc asAny (xVar 0)) (gN 1) (xYes) (xOp oInS (xVar 1) (xC (.str "abcdefghijklmnopqrstuvwxyz")))) (xNil)))))
theorem sc_is_name : FnScope N_is_name ["value"] (defScope s_is_name) := ⟨rfl, rfl, rfl, by decide +kernel, rfl, by decide +kernel, by decide +kernel⟩
def m_is_name : Mir := mir 2 1 F_is_name
theorem ok_is_name {w : World} {K : PySem.W.Frag} {mg : Str → Option Value} {base : Heap} (x : Fx PP fa fn K mg) : FO PP w K mg base 1 (He.ga K "is_name") ["value"] (spD K m_is_name) := by
  obtain ⟨fd, D⟩ := x.c.def_ 6 (d := d_is_name)
  have hN := sc_is_name.nd
  exact fn_k D sc_is_name (by decide) (FunD.bindsN D fun _ _ _ _ _ _ us hl => match us, hl with | [_], _ => rfl) fun cdv A outer s H E hr tk po => dss_one (ds_ret (d_and (k_isi (x.f 15) (x.fr (x.f 16)) (d_var 0) (cl_ty (x.fr (x.f 14)) (by decide +kernel))) (d_and (d_chain op_le op_le od_le od_le (d_int) (d_callB call_len cb_len (x.fr (x.f 1)) (by decide +kernel) (da_cons (d_var 0) (da_nil))) (d_gint (x.it (x.f 17)))) (d_one (d_callB (cr_all rfl) cb_all (x.fr (x.f 19)) (by decide +kernel) (da_cons (d_lc (own := [("letter", 1)]) rfl hN (blkOk_by (by kernel_rfl)) (by decide) (di_any (d_var 0)) (fun _ _ _ _ _ => dg_name 1 hN) (fun _ _ _ _ _ => dts_nil) (fun _ _ _ _ _ => d_cmp op_in_sign od_inS (d_var 1) (d_gstr (x.st (x.f 18))))) (da_nil)))))))
abbrev N_is_whole : List Str := ["value"]
def F_is_whole : Ev → SR := sRet (xAndV (xIsi T1 (xVar 0)) (xNotV (xIsi T2 (xVar 0))))
theorem sc_is_whole : FnScope N_is_whole ["value"] (defScope s_is_whole) := ⟨rfl, rfl, rfl, by decide +kernel, rfl, by decide +kernel, by decide +kernel⟩
def m_is_whole : Mir := mir 1 1 F_is_whole
theorem ok_is_whole {w : World} {K : PySem.W.Frag} {mg : Str → Option Value} {base : Heap} (x : Fx PP fa fn K mg) : FO PP w K mg base 1 (He.ga K "is_whole") ["value"] (spD K m_is_whole) := by
  obtain ⟨fd, D⟩ := x.c.def_ 7 (d := d_is_whole)
  have hN := sc_is_whole.nd
  exact fn_k D sc_is_whole (by decide) (FunD.bindsN D fun _ _ _ _ _ _ us hl => match us, hl with | [_], _ => rfl) fun cdv A outer s H E hr tk po => dss_one (ds_ret (d_and (k_isi (x.f 20) (x.fr (x.f 16)) (d_var 0) (cl_ty (x.fr (x.f 0)) (by decide +kernel))) (d_one (d_not (k_isi (x.f 22) (x.fr (x.f 16)) (d_var 0) (cl_ty (x.fr (x.f 21)) (by decide +kernel)))))))
abbrev N_is_integer : List Str := ["value", "low", "high"]
def F_is_integer : Ev → SR := sRet (xAndV (xCall m_is_whole (xCons (xVar 0) (xNil))) (xChain oLe oLe (xVar 1) (xVar 0) (xVar 2)))
theorem sc_is_integer : FnScope N_is_integer ["value", "low", "high"] (defScope s_is_integer) := ⟨rfl, rfl, rfl, by decide +kernel, rfl, by decide +kernel, by decide +kernel⟩
def m_is_integer : Mir := mir 3 3 F_is_integer
theorem ok_is_integer {w : World} {K : PySem.W.Frag} {mg : Str → Option Value} {base : Heap} (x : Fx PP fa fn K mg) : FO PP w K mg base 2 (He.ga K "is_integer") ["value", "low", "high"] (spD K m_is_integer) := by
  obtain ⟨fd, D⟩ := x.c.def_ 8 (d := d_is_integer)
  have hN := sc_is_integer.nd
  exact fn_k D sc_is_integer (by decide) (FunD.bindsN D fun _ _ _ _ _ _ us hl => match us, hl with | [_, _, _], _ => rfl) fun cdv A outer s H E hr tk po => dss_one (ds_ret (d_and (k_call tk (ok_is_whole x) hr (by decide) (x.gl (x.f 23)) (x.f 24) (da_cons (d_var 0) (da_nil))) (d_one (d_chain op_le op_le od_le od_le (d_var 1) (d_var 0) (d_var 2)))))
abbrev N_Fact_init : List Str := ["self", "one", "other", "numbers", "low", "number"]
def F_Fact_init : Ev → SR := sSeq (sIf (xOr (xNot (xTest (xCall m_is_name (xCons (xVar 1) (xNil))))) (xOr (xNot (xTest (xCall m_is_name (xCons (xVar 2) (xNil))))) (xTest (xOp oEq (xVar 1) (xVar 2))))) (sRaise "InvalidFact" (fun _ => .ok [])) (sNx)) (sSeq (sIf (xNot (xTest (xCB oAll (xCons (xLc [5] (xSrc asAny (xVar 3)) (gN 5) (xYes) (xCall m_is_integer (xCons (xVar 5) (xCons (xVar 4) (xCons (xC (.int 999)) (xNil)))))) (xNil))))) (sRaise "InvalidFact" (fun _ => .ok [])) (sNx)) (sSeq (sFldD ["After", "Within", "Close"] 0 "pair" (xTup (xCons (xVar 1) (xCons (xVar 2) (xNil))))) (sFldD ["After", "Within", "Close"] 0 "bounds" (xVar 3))))
theorem sc_Fact_init : FnScope N_Fact_init ["self", "one", "other", "numbers", "low"] (defScope s_Fact_init) := ⟨rfl, rfl, rfl, by decide +kernel, rfl, by decide +kernel, by decide +kernel⟩
def m_Fact_init : Imi := imi 6 4 F_Fact_init
theorem ok_Fact_init {w : World} {K : PySem.W.Frag} {mg : Str → Option Value} {base : Heap} (x : Fx PP fa fn K mg) : FO PP w K mg base 3 (He.ma K (He.ga K "Fact") "__init__") ["self", "one", "other", "numbers", "low"] (spI K 4 m_Fact_init) := by
  obtain ⟨fd, D⟩ := x.c.def_ 9 (d := d_Fact_init)
  have hN := sc_Fact_init.nd
  exact fn_ki D sc_Fact_init rfl (by decide) (FunD.bindsN D fun _ _ _ _ _ _ us hl => match us, hl with | [_, _, _, _, _], _ => rfl) fun cdv A outer s H E hr tk po => dss_cons (ds_if (dw_pt (dw_or (dt_not (dt_val (k_call tk (ok_is_name x) hr (by decide) (x.gl (x.f 25)) (x.f 26) (da_cons (d_var 1) (da_nil))))) (dw_or (dt_not (dt_val (k_call tk (ok_is_name x) hr (by decide) (x.gl (x.f 25)) (x.f 26) (da_cons (d_var 2) (da_nil))))) (dw_or1 (dt_cmp (op_eqD hr.units) od_eq (d_var 1) (d_var 2)))))) (dss_one (k_raise rfl tk (x.gl (x.f 27)) (x.f 28))) (dss_nil)) (dss_cons (ds_if (dt_not (dt_val (d_callB (cr_all rfl) cb_all (x.fr (x.f 19)) (by decide +kernel) (da_cons (d_lc (own := [("number", 5)]) rfl hN (blkOk_by (by kernel_rfl)) (by decide) (di_any (d_var 3)) (fun _ _ _ _ _ => dg_name 5 hN) (fun _ _ _ _ _ => dts_nil) (fun _ _ _ _ _ => k_call tk0 (ok_is_integer x) hr (by decide) (x.gl (x.f 30)) (x.f 31) (da_cons (d_var 5) (da_cons (d_var 4) (da_cons (d_gint (x.it (x.f 29))) (da_nil)))))) (da_nil))))) (dss_one (k_raise rfl tk (x.gl (x.f 27)) (x.f 28))) (dss_nil)) (dss_cons (k_sfld 0 (x.f 32) (d_tup (da_cons (d_var 1) (da_cons (d_var 2) (da_nil))))) (dss_one (k_sfld 0 (x.f 33) (d_var 3)))))
abbrev N_After_init : List Str := ["self", "one", "other", "least", "__class__"]
def A_After_init : Ev → R (List DV) := xCons (xVar 1) (xCons (xVar 2) (xCons (xTup (xCons (xVar 3) (xNil))) (xCons (xUn oNeg (xC (.int 999))) (xNil))))
def F_After_init : Ev → SR := sNx
def m_After_init : Imi := imS "After" 5 3 A_After_init m_Fact_init 4 F_After_init
theorem sc_After_init : NdefX.NScope N_After_init ["self", "one", "other", "least"] ["__class__"] (defScope s_After_init) := NdefX.nscope_by (by kernel_rfl)
theorem ok_After_init {w : World} {K : PySem.W.Frag} {mg : Str → Option Value} {base : Heap} (x : Fx PP fa fn K mg) : FO PP w K mg base 5 (He.ma K (He.ga K "After") "__init__") ["self", "one", "other", "least"] (spI K 3 m_After_init) := by
  obtain ⟨fd, D⟩ := x.c.sup_ 10 (d := d_After_init)
  have hN := sc_After_init.nd
  exact fn_ks D sc_After_init rfl rfl rfl rfl (by rfl) (by rfl) (x.fr (x.f 34)) (D.bindsN fun _ _ _ _ _ _ _ us hl => match us, hl with | [_, _, _, _], _ => rfl) ((ok_Fact_init x).mono (by decide)) (fun NF A outer s H E h1 h2 hr tk => by
    cases NF; cases h1; cases h2
    exact da_cons (d_var 1) (da_cons (d_var 2) (da_cons (d_tup (da_cons (d_var 3) (da_nil))) (da_cons (d_un un_neg (fun s r h => od_neg s r h) (d_gint (x.it (x.f 29)))) (da_nil))))) (fun NF A outer s H E h1 h2 hr tk => by
    cases NF; cases h1; cases h2
    exact dss_nil)
abbrev N_Close_init : List Str := ["self", "machine", "other", "most", "__class__"]
def A_Close_init : Ev → R (List DV) := xCons (xVar 1) (xCons (xVar 2) (xCons (xTup (xCons (xVar 3) (xNil))) (xCons (xC (.int 0)) (xNil))))
def F_Close_init : Ev → SR := sNx
def m_Close_init : Imi := imS "Close" 5 3 A_Close_init m_Fact_init 4 F_Close_init
theorem sc_Close_init : NdefX.NScope N_Close_init ["self", "machine", "other", "most"] ["__class__"] (defScope s_Close_init) := NdefX.nscope_by (by kernel_rfl)
theorem ok_Close_init {w : World} {K : PySem.W.Frag} {mg : Str → Option Value} {base : Heap} (x : Fx PP fa fn K mg) : FO PP w K mg base 5 (He.ma K (He.ga K "Close") "__init__") ["self", "machine", "other", "most"] (spI K 3 m_Close_init) := by
  obtain ⟨fd, D⟩ := x.c.sup_ 11 (d := d_Close_init)
  have hN := sc_Close_init.nd
  exact fn_ks D sc_Close_init rfl rfl rfl rfl (by rfl) (by rfl) (x.fr (x.f 34)) (D.bindsN fun _ _ _ _ _ _ _ us hl => match us, hl with | [_, _, _, _], _ => rfl) ((ok_Fact_init x).mono (by decide)) (fun NF A outer s H E h1 h2 hr tk => by
    cases NF; cases h1; cases h2
    exact da_cons (d_var 1) (da_cons (d_var 2) (da_cons (d_tup (da_cons (d_var 3) (da_nil))) (da_cons (d_int) (da_nil))))) (fun NF A outer s H E h1 h2 hr tk => by
    cases NF; cases h1; cases h2
    exact dss_nil)
abbrev N_Within_init : List Str := ["self", "one", "other", "least", "most", "__class__"]
def A_Within_init : Ev → R (List DV) := xCons (xVar 1) (xCons (xVar 2) (xCons (xTup (xCons (xVar 3) (xCons (xVar 4) (xNil)))) (xCons (xUn oNeg (xC (.int 999))) (xNil))))
def F_Within_init : Ev → SR := sIf (xTest (xOp oGt (xVar 3) (xVar 4))) (sRaise "InvalidFact" (fun _ => .ok [])) (sNx)
def m_Within_init : Imi := imS "Within" 6 4 A_Within_init m_Fact_init 4 F_Within_init
theorem sc_Within_init : NdefX.NScope N_Within_init ["self", "one", "other", "least", "most"] ["__class__"] (defScope s_Within_init) := NdefX.nscope_by (by kernel_rfl)
theorem ok_Within_init {w : World} {K : PySem.W.Frag} {mg : Str → Option Value} {base : Heap} (x : Fx PP fa fn K mg) : FO PP w K mg base 5 (He.ma K (He.ga K "Within") "__init__") ["self", "one", "other", "least", "most"] (spI K 4 m_Within_init) := by
  obtain ⟨fd, D⟩ := x.c.sup_ 12 (d := d_Within_init)
  have hN := sc_Within_init.nd
  exact fn_ks D sc_Within_init rfl rfl rfl rfl (by rfl) (by rfl) (x.fr (x.f 34)) (D.bindsN fun _ _ _ _ _ _ _ us hl => match us, hl with | [_, _, _, _, _], _ => rfl) ((ok_Fact_init x).mono (by decide)) (fun NF A outer s H E h1 h2 hr tk => by
    cases NF; cases h1; cases h2
    exact da_cons (d_var 1) (da_cons (d_var 2) (da_cons (d_tup (da_cons (d_var 3) (da_cons (d_var 4) (da_nil)))) (da_cons (d_un un_neg (fun s r h => od_neg s r h) (d_gint (x.it (x.f 29)))) (da_nil))))) (fun NF A outer s H E h1 h2 hr tk => by
    cases NF; cases h1; cases h2
    exact dss_one (ds_if (dt_cmp op_gt od_gt (d_var 3) (d_var 4)) (dss_one (k_raise rfl tk (x.gl (x.f 27)) (x.f 28))) (dss_nil)))
abbrev N__law_made : List Str := ["_law_plain_here", "_law_kind", "_law_one", "_law_other", "_law_numbers"]
def F__law_made : Ev → SR := sSeq (sAsg (xVar 0) (gT 4 (gsCons (gN 1) (gsCons (gN 2) (gsCons (gN 3) (gsCons (gN 4) (gsNil))))))) (sTry [("TimeError", false), ("InvalidFact", true)] (sSeq (sIf (xTest (xOp oEq (xVar 1) (xC (.int 0)))) (sRet (xMake "After" 3 m_After_init (xCons (xVar 2) (xCons (xVar 3) (xCons (xOp oIx (xVar 4) (xC (.int 0))) (xNil)))))) (sNx)) (sRet (xIf (xTest (xOp oEq (xVar 1) (xC (.int 2)))) (xMake "Close" 3 m_Close_init (xCons (xVar 2) (xCons (xVar 3) (xCons (xOp oIx (xVar 4) (xC (.int 0))) (xNil))))) (xMake "Within" 4 m_Within_init (xCons (xVar 2) (xCons (xVar 3) (xCons (xOp oIx (xVar 4) (xC (.int 0))) (xCons (xOp oIx (xVar 4) (xC (.int 1))) (xNil))))))))) (sRet (xC .non)))
theorem sc__law_made : FnScope N__law_made ["_law_plain_here"] (defScope s__law_made) := ⟨rfl, rfl, rfl, by decide +kernel, rfl, by decide +kernel, by decide +kernel⟩
def m__law_made : Mir := mir 5 1 F__law_made
theorem ok__law_made {w : World} {K : PySem.W.Frag} {mg : Str → Option Value} {base : Heap} (x : Fx PP fa fn K mg) : FO PP w K mg base 7 (He.ga K "_law_made") ["_law_plain_here"] (spD K m__law_made) := by
  obtain ⟨fd, D⟩ := x.c.def_ 13 (d := d__law_made)
  have hN := sc__law_made.nd
  exact fn_k D sc__law_made (by decide) (FunD.bindsN D fun _ _ _ _ _ _ us hl => match us, hl with | [_], _ => rfl) fun cdv A outer s H E hr tk po => dss_cons (ds_asg (d_var 0) (dg_tup rfl (dgs_cons (dg_name 1 hN) (dgs_cons (dg_name 2 hN) (dgs_cons (dg_name 3 hN) (dgs_cons (dg_name 4 hN) (dgs_nil))))))) (dss_one (ds_try tk (x.gl (x.f 27)) (x.f 41) (fun _ _ _ tk po => dss_cons (ds_if (dt_cmp (op_eqD hr.units) od_eq (d_var 1) (d_int)) (dss_one (ds_ret (k_make tk (ok_After_init x) hr (by decide) (x.gl (x.f 35)) (x.f 36) (da_cons (d_var 2) (da_cons (d_var 3) (da_cons (d_ix (d_var 4) (d_int)) (da_nil))))))) (dss_nil)) (dss_one (ds_ret (d_if (dt_cmp (op_eqD hr.units) od_eq (d_var 1) (d_int)) (k_make tk (ok_Close_init x) hr (by decide) (x.gl (x.f 37)) (x.f 38) (da_cons (d_var 2) (da_cons (d_var 3) (da_cons (d_ix (d_var 4) (d_int)) (da_nil))))) (k_make tk (ok_Within_init x) hr (by decide) (x.gl (x.f 39)) (x.f 40) (da_cons (d_var 2) (da_cons (d_var 3) (da_cons (d_ix (d_var 4) (d_int)) (da_cons (d_ix (d_var 4) (d_int)) (da_nil)))))))))) (fun _ _ => dss_one (ds_ret (d_non)))))
abbrev N__law_is_name : List Str := ["_law_value", "_law_sign"]
def F__law_is_name : Ev → SR := sSeq (sIf (xOr (xNot (xTest (xIsi T0 (xVar 0)))) (xNot (xTest (xChain oLe oLe (xC (.int 1)) (xCB oLen (xCons (xVar 0) (xNil))) (xC (.int 8)))))) (sRet (xC (.bl false))) (sNx)) (sRet (xCB oAll (xCons (xLc [1] (xSrc asAny (xVar 0)) (gN 1) (xYes) (xOp oInS (xVar 1) (xC (.str "abcdefghijklmnopqrstuvwxyz")))) (xNil))))
theorem sc__law_is_name : FnScope N__law_is_name ["_law_value"] (defScope s__law_is_name) := ⟨rfl, rfl, rfl, by decide +kernel, rfl, by decide +kernel, by decide +kernel⟩
def m__law_is_name : Mir := mir 2 1 F__law_is_name
theorem ok__law_is_name {w : World} {K : PySem.W.Frag} {mg : Str → Option Value} {base : Heap} (x : Fx PP fa fn K mg) : FO PP w K mg base 1 (He.ga K "_law_is_name") ["_law_value"] (spD K m__law_is_name) := by
  obtain ⟨fd, D⟩ := x.c.def_ 14 (d := d__law_is_name)
  have hN := sc__law_is_name.nd
  exact fn_k D sc__law_is_name (by decide) (FunD.bindsN D fun _ _ _ _ _ _ us hl => match us, hl with | [_], _ => rfl) fun cdv A outer s H E hr tk po => dss_cons (ds_if (dw_pt (dw_or (dt_not (dt_val (k_isi (x.f 15) (x.fr (x.f 16)) (d_var 0) (cl_ty (x.fr (x.f 14)) (by decide +kernel))))) (dw_or1 (dt_not (dt_chain op_le op_le od_le od_le (d_int) (d_callB call_len cb_len (x.fr (x.f 1)) (by decide +kernel) (da_cons (d_var 0) (da_nil))) (d_int)))))) (dss_one (ds_ret (d_bl))) (dss_nil)) (dss_one (ds_ret (d_callB (cr_all rfl) cb_all (x.fr (x.f 19)) (by decide +kernel) (da_cons (d_lc (own := [("_law_sign", 1)]) rfl hN (blkOk_by (by kernel_rfl)) (by decide) (di_any (d_var 0)) (fun _ _ _ _ _ => dg_name 1 hN) (fun _ _ _ _ _ => dts_nil) (fun _ _ _ _ _ => d_cmp op_in_sign od_inS (d_var 1) (d_str))) (da_nil)))))
abbrev N__law_is_count : List Str := ["_law_value", "_law_low"]
def F__law_is_count : Ev → SR := sRet (xAndV (xIsi T1 (xVar 0)) (xAndV (xNotV (xIsi T2 (xVar 0))) (xChain oLe oLe (xVar 1) (xVar 0) (xC (.int 999)))))
theorem sc__law_is_count : FnScope N__law_is_count ["_law_value", "_law_low"] (defScope s__law_is_count) := ⟨rfl, rfl, rfl, by decide +kernel, rfl, by decide +kernel, by decide +kernel⟩
def m__law_is_count : Mir := mir 2 2 F__law_is_count
theorem ok__law_is_count {w : World} {K : PySem.W.Frag} {mg : Str → Option Value} {base : Heap} (x : Fx PP fa fn K mg) : FO PP w K mg base 1 (He.ga K "_law_is_count") ["_law_value", "_law_low"] (spD K m__law_is_count) := by
  obtain ⟨fd, D⟩ := x.c.def_ 15 (d := d__law_is_count)
  have hN := sc__law_is_count.nd
  exact fn_k D sc__law_is_count (by decide) (FunD.bindsN D fun _ _ _ _ _ _ us hl => match us, hl with | [_, _], _ => rfl) fun cdv A outer s H E hr tk po => dss_one (ds_ret (d_and (k_isi (x.f 20) (x.fr (x.f 16)) (d_var 0) (cl_ty (x.fr (x.f 0)) (by decide +kernel))) (d_and (d_not (k_isi (x.f 22) (x.fr (x.f 16)) (d_var 0) (cl_ty (x.fr (x.f 21)) (by decide +kernel)))) (d_one (d_chain op_le op_le od_le od_le (d_var 1) (d_var 0) (d_int))))))
abbrev N__law_is_fact : List Str := ["_law_plain_here", "_law_kind", "_law_one", "_law_other", "_law_numbers", "_law_number_here"]
def F__law_is_fact : Ev → SR := sSeq (sAsg (xVar 0) (gT 4 (gsCons (gN 1) (gsCons (gN 2) (gsCons (gN 3) (gsCons (gN 4) (gsNil))))))) (sSeq (sIf (xOr (xNot (xTest (xCall m__law_is_name (xCons (xVar 2) (xNil))))) (xOr (xNot (xTest (xCall m__law_is_name (xCons (xVar 3) (xNil))))) (xTest (xOp oEq (xVar 2) (xVar 3))))) (sRet (xC (.bl false))) (sNx)) (sSeq (sIf (xNot (xTest (xCB oAll (xCons (xLc [5] (xSrc asAny (xVar 4)) (gN 5) (xYes) (xCall m__law_is_count (xCons (xVar 5) (xCons (xIf (xTest (xOp oEq (xVar 1) (xC (.int 2)))) (xC (.int 0)) (xUn oNeg (xC (.int 999)))) (xNil))))) (xNil))))) (sRet (xC (.bl false))) (sNx)) (sRet (xOrV (xOp oNe (xVar 1) (xC (.int 1))) (xOp oLe (xOp oIx (xVar 4) (xC (.int 0))) (xOp oIx (xVar 4) (xC (.int 1))))))))
theorem sc__law_is_fact : FnScope N__law_is_fact ["_law_plain_here"] (defScope s__law_is_fact) := ⟨rfl, rfl, rfl, by decide +kernel, rfl, by decide +kernel, by decide +kernel⟩
def m__law_is_fact : Mir := mir 6 1 F__law_is_fact
theorem ok__law_is_fact {w : World} {K : PySem.W.Frag} {mg : Str → Option Value} {base : Heap} (x : Fx PP fa fn K mg) : FO PP w K mg base 2 (He.ga K "_law_is_fact") ["_law_plain_here"] (spD K m__law_is_fact) := by
  obtain ⟨fd, D⟩ := x.c.def_ 16 (d := d__law_is_fact)
  have hN := sc__law_is_fact.nd
  exact fn_k D sc__law_is_fact (by decide) (FunD.bindsN D fun _ _ _ _ _ _ us hl => match us, hl with | [_], _ => rfl) fun cdv A outer s H E hr tk po => dss_cons (ds_asg (d_var 0) (dg_tup rfl (dgs_cons (dg_name 1 hN) (dgs_cons (dg_name 2 hN) (dgs_cons (dg_name 3 hN) (dgs_cons (dg_name 4 hN) (dgs_nil))))))) (dss_cons (ds_if (dw_pt (dw_or (dt_not (dt_val (k_call tk (ok__law_is_name x) hr (by decide) (x.gl (x.f 42)) (x.f 43) (da_cons (d_var 2) (da_nil))))) (dw_or (dt_not (dt_val (k_call tk (ok__law_is_name x) hr (by decide) (x.gl (x.f 42)) (x.f 43) (da_cons (d_var 3) (da_nil))))) (dw_or1 (dt_cmp (op_eqD hr.units) od_eq (d_var 2) (d_var 3)))))) (dss_one (ds_ret (d_bl))) (dss_nil)) (dss_cons (ds_if (dt_not (dt_val (d_callB (cr_all rfl) cb_all (x.fr (x.f 19)) (by decide +kernel) (da_cons (d_lc (own := [("_law_number_here", 5)]) rfl hN (blkOk_by (by kernel_rfl)) (by decide) (di_any (d_var 4)) (fun _ _ _ _ _ => dg_name 5 hN) (fun _ _ _ _ _ => dts_nil) (fun _ _ _ _ _ => k_call tk0 (ok__law_is_count x) hr (by decide) (x.gl (x.f 44)) (x.f 45) (da_cons (d_var 5) (da_cons (d_if (dt_cmp (op_eqD hr.units) od_eq (d_var 1) (d_int)) (d_int) (d_un un_neg (fun s r h => od_neg s r h) (d_int))) (da_nil))))) (da_nil))))) (dss_one (ds_ret (d_bl))) (dss_nil)) (dss_one (ds_ret (d_or (d_cmp (op_neD hr.units) od_ne (d_var 1) (d_int)) (d_one (d_cmp op_le od_le (d_ix (d_var 4) (d_int)) (d_ix (d_var 4) (d_int)))))))))
abbrev N_Fact_names : List Str := ["self"]
def F_Fact_names : Ev → SR := sRet (xFld ["After", "Within", "Close"] "pair" (xVar 0))
theorem sc_Fact_names : FnScope N_Fact_names ["self"] (defScope s_Fact_names) := ⟨rfl, rfl, rfl, by decide +kernel, rfl, by decide +kernel, by decide +kernel⟩
def m_Fact_names : Mir := mir 1 1 F_Fact_names
theorem ok_Fact_names {w : World} {K : PySem.W.Frag} {mg : Str → Option Value} {base : Heap} (x : Fx PP fa fn K mg) : FO PP w K mg base 1 ((Wh.prop "Fact" "names").adr K) ["self"] (spD K m_Fact_names) := by
  obtain ⟨fd, D⟩ := x.c.def_ 17 (d := d_Fact_names)
  have hN := sc_Fact_names.nd
  exact fn_k D sc_Fact_names (by decide) (FunD.bindsN D fun _ _ _ _ _ _ us hl => match us, hl with | [_], _ => rfl) fun cdv A outer s H E hr tk po => dss_one (ds_ret (k_fld (x.f 32) (d_var 0)))
abbrev N_Fact_numbers : List Str := ["self"]
def F_Fact_numbers : Ev → SR := sRet (xFld ["After", "Within", "Close"] "bounds" (xVar 0))
theorem sc_Fact_numbers : FnScope N_Fact_numbers ["self"] (defScope s_Fact_numbers) := ⟨rfl, rfl, rfl, by decide +kernel, rfl, by decide +kernel, by decide +kernel⟩
def m_Fact_numbers : Mir := mir 1 1 F_Fact_numbers
theorem ok_Fact_numbers {w : World} {K : PySem.W.Frag} {mg : Str → Option Value} {base : Heap} (x : Fx PP fa fn K mg) : FO PP w K mg base 1 ((Wh.prop "Fact" "numbers").adr K) ["self"] (spD K m_Fact_numbers) := by
  obtain ⟨fd, D⟩ := x.c.def_ 18 (d := d_Fact_numbers)
  have hN := sc_Fact_numbers.nd
  exact fn_k D sc_Fact_numbers (by decide) (FunD.bindsN D fun _ _ _ _ _ _ us hl => match us, hl with | [_], _ => rfl) fun cdv A outer s H E hr tk po => dss_one (ds_ret (k_fld (x.f 33) (d_var 0)))
abbrev N_Fact_eq : List Str := ["self", "other"]
def F_Fact_eq : Ev → SR := sSeq (sIf (xOr (xNot (xTest (xIsi T3 (xVar 1)))) (xTest (xOp oNe (xCon [("After", .str "after"), ("Within", .str "within"), ("Close", .str "close")] "WORD" (xVar 0)) (xCon [("After", .str "after"), ("Within", .str "within"), ("Close", .str "close")] "WORD" (xVar 1))))) (sRet (xC (.bl false))) (sNx)) (sRet (xAndV (xOp oEq (xFld ["After", "Within", "Close"] "pair" (xVar 0)) (xFld ["After", "Within", "Close"] "pair" (xVar 1))) (xOp oEq (xFld ["After", "Within", "Close"] "bounds" (xVar 0)) (xFld ["After", "Within", "Close"] "bounds" (xVar 1)))))
theorem sc_Fact_eq : FnScope N_Fact_eq ["self", "other"] (defScope s_Fact_eq) := ⟨rfl, rfl, rfl, by decide +kernel, rfl, by decide +kernel, by decide +kernel⟩
def m_Fact_eq : Mir := mir 2 2 F_Fact_eq
theorem ok_Fact_eq {w : World} {K : PySem.W.Frag} {mg : Str → Option Value} {base : Heap} (x : Fx PP fa fn K mg) : FO PP w K mg base 1 (He.ma K (He.ga K "Fact") "__eq__") ["self", "other"] (spD K m_Fact_eq) := by
  obtain ⟨fd, D⟩ := x.c.def_ 19 (d := d_Fact_eq)
  have hN := sc_Fact_eq.nd
  exact fn_k D sc_Fact_eq (by decide) (FunD.bindsN D fun _ _ _ _ _ _ us hl => match us, hl with | [_, _], _ => rfl) fun cdv A outer s H E hr tk po => dss_cons (ds_if (dw_pt (dw_or (dt_not (dt_val (k_isi (x.f 47) (x.fr (x.f 16)) (d_var 1) (cl_own (x.gl (x.f 46)))))) (dw_or1 (dt_cmp (op_neD hr.units) od_ne (k_con (x.f 48) (d_var 0)) (k_con (x.f 48) (d_var 1)))))) (dss_one (ds_ret (d_bl))) (dss_nil)) (dss_one (ds_ret (d_and (d_cmp (op_eqD hr.units) od_eq (k_fld (x.f 32) (d_var 0)) (k_fld (x.f 32) (d_var 1))) (d_one (d_cmp (op_eqD hr.units) od_eq (k_fld (x.f 33) (d_var 0)) (k_fld (x.f 33) (d_var 1)))))))
abbrev N_law : List Str := ["_law_script", "_law_plains_here", "_law_made_here", "_law_plain_here", "_law_fact", "_law_one", "_law_first", "_law_two", "_law_second"]
def B_law_1 : Ev → SR := sSeq (sIf (xTest (xOp oEq (xOp oIsN (xVar 4) (xC .non)) (xCall m__law_is_fact (xCons (xVar 3) (xNil))))) (sRet (xC (.bl false))) (sNx)) (sIf (xTest (xOp oNotN (xVar 4) (xC .non))) (sIf (xOr (xNot (xTest (xIsi T3 (xVar 4)))) (xOr (xTest (xOp oNe (xProps ["After", "Within", "Close"] m_Fact_names (xVar 4)) (xSl (xVar 3) (xPart (xC (.int 1))) (xPart (xC (.int 3)))))) (xTest (xOp oNe (xProps ["After", "Within", "Close"] m_Fact_numbers (xVar 4)) (xOp oIx (xVar 3) (xC (.int 3))))))) (sRet (xC (.bl false))) (sNx)) (sNx))
def B_law_2 : Ev → SR := sIf (xAnd (xTest (xOp oNotN (xVar 6) (xC .non))) (xTest (xOp oNotN (xVar 8) (xC .non)))) (sIf (xTest (xOp oNe (xOp (oEqO ["After", "Within", "Close"] m_Fact_eq) (xVar 6) (xVar 8)) (xOp oEq (xVar 5) (xVar 7)))) (sRet (xC (.bl false))) (sNx)) (sNx)
def B_law_3 : Ev → SR := sFor (xIt asZip (xCons (xVar 1) (xCons (xVar 2) (xNil)))) (gT 2 (gsCons (gN 7) (gsCons (gN 8) (gsNil)))) (B_law_2)
def F_law : Ev → SR := sSeq (sSet 1 (xCall m__law_plains (xCons (xVar 0) (xNil)))) (sSeq (sSetLc 2 (xLcs [3] (xSrc asAny (xVar 1)) (gN 3) (xYes) (xCall m__law_made (xCons (xVar 3) (xNil))))) (sSeq (sFor (xIt asZip (xCons (xVar 1) (xCons (xVar 2) (xNil)))) (gT 2 (gsCons (gN 3) (gsCons (gN 4) (gsNil)))) (B_law_1)) (sSeq (sFor (xIt asZip (xCons (xVar 1) (xCons (xVar 2) (xNil)))) (gT 2 (gsCons (gN 5) (gsCons (gN 6) (gsNil)))) (B_law_3)) (sRet (xC (.bl true))))))
theorem sc_law : FnScope N_law ["_law_script"] (defScope s_law) := ⟨rfl, rfl, rfl, by decide +kernel, rfl, by decide +kernel, by decide +kernel⟩
def m_law : Mir := mir 9 1 F_law
theorem ok_law {w : World} {K : PySem.W.Frag} {mg : Str → Option Value} (x : Fx PP fa fn K mg) : FL PP w K mg 8 (He.ga K "law") "_law_script" m_law := by
  obtain ⟨fd, D⟩ := x.c.def_ 20 (d := d_law)
  have hN := sc_law.nd
  exact fn_kl D sc_law (by decide) (fun _ _ _ _ _ _ us hl => match us, hl with | [_], _ => rfl) fun base cdv A outer s H E hr tk po => dss_cons (ds_set 1 hN (k_call tk (ok__law_plains x) hr (by decide) (x.gl (x.f 49)) (x.f 50) (da_cons (d_var 0) (da_nil)))) (dss_cons (ds_setLc 2 (own := [("_law_plain_here", 3)]) rfl hN (blkOk_by (by kernel_rfl)) (by decide) (di_any (d_var 1)) (fun _ _ _ _ _ => dg_name 3 hN) (fun _ _ _ _ _ => dts_nil) (fun _ _ _ _ _ => k_call tk0 (ok__law_made x) hr (by decide) (x.gl (x.f 51)) (x.f 52) (da_cons (d_var 3) (da_nil)))) (dss_cons (ds_for po rfl (di_zip (x.fr (x.f 53)) (da_cons (d_var 1) (da_cons (d_var 2) (da_nil)))) (dg_tup rfl (dgs_cons (dg_name 3 hN) (dgs_cons (dg_name 4 hN) (dgs_nil)))) (dss_cons (ds_if (dt_cmp (op_eqD hr.units) od_eq (d_cmp op_isN od_isN (d_var 4) (d_non)) (k_call tk (ok__law_is_fact x) hr (by decide) (x.gl (x.f 54)) (x.f 55) (da_cons (d_var 3) (da_nil)))) (dss_one (ds_ret (d_bl))) (dss_nil)) (dss_one (ds_if (dt_cmp op_notN od_notN (d_var 4) (d_non)) (dss_one (ds_if (dw_pt (dw_or (dt_not (dt_val (k_isi (x.f 47) (x.fr (x.f 16)) (d_var 4) (cl_own (x.gl (x.f 46)))))) (dw_or (dt_cmp (op_neD hr.units) od_ne (k_props (x.f 56) (ok_Fact_names x) hr (by decide) (d_var 4)) (d_slice (d_var 3) (do_some (d_int)) (do_some (d_int)))) (dw_or1 (dt_cmp (op_neD hr.units) od_ne (k_props (x.f 57) (ok_Fact_numbers x) hr (by decide) (d_var 4)) (d_ix (d_var 3) (d_int))))))) (dss_one (ds_ret (d_bl))) (dss_nil))) (dss_nil))))) (dss_cons (ds_for po rfl (di_zip (x.fr (x.f 53)) (da_cons (d_var 1) (da_cons (d_var 2) (da_nil)))) (dg_tup rfl (dgs_cons (dg_name 5 hN) (dgs_cons (dg_name 6 hN) (dgs_nil)))) (dss_one (ds_for po rfl (di_zip (x.fr (x.f 53)) (da_cons (d_var 1) (da_cons (d_var 2) (da_nil)))) (dg_tup rfl (dgs_cons (dg_name 7 hN) (dgs_cons (dg_name 8 hN) (dgs_nil)))) (dss_one (ds_if (dw_pt (dw_and (dt_cmp op_notN od_notN (d_var 6) (d_non)) (dw_and1 (dt_cmp op_notN od_notN (d_var 8) (d_non))))) (dss_one (ds_if (dt_cmp (op_neD hr.units) od_ne (k_eqO (x.f 58) (ok_Fact_eq x) hr (by decide) (d_var 6) (d_var 8)) (d_cmp (op_eqD hr.units) od_eq (d_var 5) (d_var 7))) (dss_one (ds_ret (d_bl))) (dss_nil))) (dss_nil)))))) (dss_one (ds_ret (d_bl))))))
abbrev lawIx : Nat := 25
abbrev lawDef : Nat := 20
abbrev lawFact : Nat := 59
abbrev loose : List Str := []
end G40

set_option maxHeartbeats 2000000
namespace G40
open PySem PySem.Spec PyProof.Rows L2 LD
abbrev scr (ns : List Int) : DV := .ro (ns.map DV.int)
theorem cells {ns : List Int} {δ : Ev} (h0 : xVar 0 δ = .ok (scr ns)) : ∃ cs : List Int, cs ≠ [] ∧ cs.length ≤ 63 ∧ (xIf (xTest (xOp oNe (xVar 0) (xLst (xNil)))) (xSl (xVar 0) (xNo) (xPart (xC (.int 63)))) (xLst (xCons (xC (.int 5)) (xNil)))) δ = .ok (.lst (cs.map DV.int)) := by
  have hs : small ([] : List DV).length = true := rfl
  have hs1 : small [DV.int 5].length = true := rfl
  cases ns with
  | nil =>
    refine ⟨[5], by simp, by simp, ?_⟩
    have q := ne_nil []
    simp only [e_xIf, e_xTest, e_xOp, h0, e_xLst, e_xNil, e_xCons, e_xC, R.bind_ok, hs, hs1, if_true]
    show ((oNe (.ro (([] : List Int).map DV.int)) (.lst [])).bind asB).bind _ = _
    rw [q]
    rfl
  | cons n r =>
    have q := ne_nil (n :: r)
    refine ⟨LD.cutD (n :: r) none (some 63), ?_, ?_, ?_⟩
    · unfold LD.cutD HT.sIx; simp
    · unfold LD.cutD HT.sIx; simp; omega
    · simp only [e_xIf, e_xTest, e_xOp, h0, e_xLst, e_xNil, e_xCons, e_xC, R.bind_ok, hs, hs1, if_true]
      show ((oNe (.ro ((n :: r).map DV.int)) (.lst [])).bind asB).bind _ = _
      rw [q]
      show xSl (xVar 0) xNo (xPart (xC (.int 63))) δ = _
      rw [e_xSl, h0]
      show R.ok (DV.lst (LD.cutD ((n :: r).map DV.int) none (some 63))) = _
      rw [LD.cut_map]
theorem num {ns : List Int} {i : Int} (hi : 0 ≤ i) : ∃ n : Int, 0 ≤ n ∧ m__law_number [scr ns, .int i] = .ok (.int n) := by
  obtain ⟨cs, hc, hc63, e⟩ := cells (ns := ns) (δ := [.pu (scr ns), .pu (.int i), .un, .un, .un, .un, .un]) rfl
  obtain ⟨x, hx, ex⟩ := atI_mod (cs.map DV.int) (by simpa using hc) i
  obtain ⟨c, _, rfl⟩ := List.mem_map.mp hx
  have hl : (0 : Int) < cs.length := by have := List.length_pos_iff.mpr hc; omega
  rw [List.length_map] at ex
  have hd : oDiv (.int i) (.int (cs.length : Int)) = .ok (.int (i / cs.length)) := o_div hl (by omega)
  have hm : oMod (.int i) (.int (cs.length : Int)) = .ok (.int (i % cs.length)) := o_mod hl
  generalize hcell : c + 13 * (i / cs.length) = cell
  generalize hb : ((cell % 1000003 + 977 * i) * 48271 + 31 * (cell / 1000003 % 999983) + cs.sum % 65521) % 2147483647 = blend
  have hb0 : 0 ≤ blend := by rw [← hb]; exact Int.emod_nonneg _ (by decide)
  have hb1 : blend < 2147483647 := by rw [← hb]; exact Int.emod_lt_of_pos _ (by decide)
  have hM : inM blend = true := inM_of (by omega) (by omega)
  refine ⟨blend * (blend + 31 * i + 7) % 2147483629, Int.emod_nonneg _ (by decide), ?_⟩
  show (match F__law_number [.pu (scr ns), .pu (.int i), .un, .un, .un, .un, .un] with | .nx _ => _ | .rt d => _ | .ex c fs _ => _ | _ => _) = _
  have : F__law_number [.pu (scr ns), .pu (.int i), .un, .un, .un, .un, .un] = .rt (.int (blend * (blend + 31 * i + 7) % 2147483629)) := by
    unfold F__law_number
    simp only [e_sSeq, e_sSet, e, e_xS_ok, e_nx, List.set_cons_succ, List.set_cons_zero, e_xOp, e_v0, e_v1, e_v2, e_v3, e_v4, e_v5, e_v6, R.bind_ok, e_xCB, e_xCons, e_xNil, o_int, o_lenl, List.length_map, hm, hd, o_ixl, ex, R.ofO, e_xC, o_mul1 (show inM 13 = true from rfl), o_add,
      e_sPar, o_mod (show (0 : Int) < 1000003 by decide), o_mod (show (0 : Int) < 999983 by decide), o_div (show (0 : Int) < 1000003 by decide) (by decide), o_mul1 (show inM 977 = true from rfl), o_mul2 (show inM 48271 = true from rfl), o_mul1 (show inM 31 = true from rfl), o_sum,
      o_mod (show (0 : Int) < 65521 by decide), o_mod (show (0 : Int) < 2147483647 by decide), o_mod (show (0 : Int) < 2147483629 by decide), e_sRet, hcell, hb, o_mul1 hM]
  rw [this]

/-! ### names, counts -/
def names : List DV := [.str "a", .str "b", .str "ab", .str "msg", .str "abcdefgh", .str "zzzzzzzz", .str "", .str "abcdefghi", .str "A", .str "a b", .str "a1", .str "x\n", .non, .int 5, .bl true, .tup [.str "a"]]
def odd : List DV := [.non, .str "7", .bl true, .bl false, .tup [.int 1], .lst []]
def CV (d : DV) : Prop := (∃ i, d = .int i) ∨ d ∈ odd
theorem name {s : Int} : ∃ d ∈ names, m__law_name [.int s] = .ok d := by
  have h5 := o_mod (i := s) (show (0 : Int) < 5 by decide)
  have h6 := o_div (i := s) (show (0 : Int) < 5 by decide) (by decide)
  have h7 := o_mod (i := s / 5) (show (0 : Int) < 6 by decide)
  have h8 := o_mod (i := s / 5) (show (0 : Int) < 10 by decide)
  rw [show m__law_name [.int s] = outR (F__law_name [.pu (.int s)]) from rfl]
  unfold F__law_name
  by_cases h : 0 < s % 5
  · obtain ⟨x, hx, e⟩ := atI_at ([.str "a", .str "b", .str "ab", .str "msg", .str "abcdefgh", .str "zzzzzzzz"] : List DV) (i := s / 5 % 6) (Int.emod_nonneg _ (by decide)) (Int.emod_lt_of_pos _ (by decide))
    refine ⟨x, ?_, ?_⟩
    · revert hx; simp only [names, List.mem_cons, List.not_mem_nil, or_false]; intro hx; rcases hx with h | h | h | h | h | h <;> simp [h]
    · simp only [e_sSeq, e_sIf, e_sSet, e_sPar, e_sAsg, e_sRaise, e_xTest, e_xOp, e_xUn, e_xCB, e_xCall, e_xCons, e_xNil, e_xIf, e_xAnd, e_xOr, e_xNot, e_xAndV, e_xOrV, e_xNotV, e_xSl, e_xPart, e_xNo, e_asI, e_v0, e_v1, e_v2, e_v3, e_v4, e_v5, e_v6, e_v7, e_v8, e_xC, R.bind_ok, R.bind_exc, o_int, o_neg, o_sub, o_add, o_gt, o_lt, o_le, o_ge, e_asB, e_xS_ok, e_xS_exc, e_sNx, e_nx, e_rt, e_ex, e_sRet, e_xTup, e_xLst, small_ok, List.length_cons, List.length_nil, Nat.reduceAdd, Nat.reduceLeDiff, Nat.zero_le, if_true, if_false, Bool.false_eq_true, o_ixt, o_ixl, outR_nx, outR_rt, outR_ex, List.set_cons_succ, List.set_cons_zero, e_gT, e_gsCons, e_gsNil, e_gN, R.ofO, Bool.not_true, Bool.not_false, h5, h6, h7, h8, decide_eq_true h, e]
  · obtain ⟨x, hx, e⟩ := atI_at ([.str "", .str "abcdefghi", .str "A", .str "a b", .str "a1", .str "x\n", .non, .int 5, .bl true, .tup [.str "a"]] : List DV) (i := s / 5 % 10) (Int.emod_nonneg _ (by decide)) (Int.emod_lt_of_pos _ (by decide))
    refine ⟨x, ?_, ?_⟩
    · revert hx; simp only [names, List.mem_cons, List.not_mem_nil, or_false]; intro hx; rcases hx with h | h | h | h | h | h | h | h | h | h <;> simp [h]
    · simp only [e_sSeq, e_sIf, e_sSet, e_sPar, e_sAsg, e_sRaise, e_xTest, e_xOp, e_xUn, e_xCB, e_xCall, e_xCons, e_xNil, e_xIf, e_xAnd, e_xOr, e_xNot, e_xAndV, e_xOrV, e_xNotV, e_xSl, e_xPart, e_xNo, e_asI, e_v0, e_v1, e_v2, e_v3, e_v4, e_v5, e_v6, e_v7, e_v8, e_xC, R.bind_ok, R.bind_exc, o_int, o_neg, o_sub, o_add, o_gt, o_lt, o_le, o_ge, e_asB, e_xS_ok, e_xS_exc, e_sNx, e_nx, e_rt, e_ex, e_sRet, e_xTup, e_xLst, small_ok, List.length_cons, List.length_nil, Nat.reduceAdd, Nat.reduceLeDiff, Nat.zero_le, if_true, if_false, Bool.false_eq_true, o_ixt, o_ixl, outR_nx, outR_rt, outR_ex, List.set_cons_succ, List.set_cons_zero, e_gT, e_gsCons, e_gsNil, e_gN, R.ofO, Bool.not_true, Bool.not_false, h5, h6, h7, h8, decide_eq_false h, e]
theorem count {s : Int} : ∃ d, CV d ∧ m__law_count [.int s] = .ok d := by
  have h5 := o_mod (i := s) (show (0 : Int) < 4 by decide)
  have h6 := o_div (i := s) (show (0 : Int) < 4 by decide) (by decide)
  have h9 := o_div (i := s) (show (0 : Int) < 40 by decide) (by decide)
  have h7 := o_mod (i := s / 4) (show (0 : Int) < 9 by decide)
  have h8 := o_mod (i := s / 4) (show (0 : Int) < 10 by decide)
  have h10 := o_mod (i := s / 40) (show (0 : Int) < 1999 by decide)
  have hp : oPow (.int 10) (.int 30) = .ok (.int (10 ^ 30)) := rfl
  rw [show m__law_count [.int s] = outR (F__law_count [.pu (.int s)]) from rfl]
  unfold F__law_count
  by_cases h : 0 < s % 4
  · obtain ⟨x, hx, e⟩ := atI_at ([.int (-999), .int (-998), .int (-1), .int 0, .int 1, .int 2, .int 998, .int 999, .int (s / 40 % 1999 - 999)] : List DV) (i := s / 4 % 9) (Int.emod_nonneg _ (by decide)) (Int.emod_lt_of_pos _ (by decide))
    refine ⟨x, ?_, ?_⟩
    · revert hx; simp only [List.mem_cons, List.not_mem_nil, or_false]; intro hx; rcases hx with h | h | h | h | h | h | h | h | h <;> exact .inl ⟨_, h⟩
    · simp only [e_sSeq, e_sIf, e_sSet, e_sPar, e_sAsg, e_sRaise, e_xTest, e_xOp, e_xUn, e_xCB, e_xCall, e_xCons, e_xNil, e_xIf, e_xAnd, e_xOr, e_xNot, e_xAndV, e_xOrV, e_xNotV, e_xSl, e_xPart, e_xNo, e_asI, e_v0, e_v1, e_v2, e_v3, e_v4, e_v5, e_v6, e_v7, e_v8, e_xC, R.bind_ok, R.bind_exc, o_int, o_neg, o_sub, o_add, o_gt, o_lt, o_le, o_ge, e_asB, e_xS_ok, e_xS_exc, e_sNx, e_nx, e_rt, e_ex, e_sRet, e_xTup, e_xLst, small_ok, List.length_cons, List.length_nil, Nat.reduceAdd, Nat.reduceLeDiff, Nat.zero_le, if_true, if_false, Bool.false_eq_true, o_ixt, o_ixl, outR_nx, outR_rt, outR_ex, List.set_cons_succ, List.set_cons_zero, e_gT, e_gsCons, e_gsNil, e_gN, R.ofO, Bool.not_true, Bool.not_false, h5, h6, h7, h8, h9, h10, hp, decide_eq_true h, e]
  · obtain ⟨x, hx, e⟩ := atI_at ([.int (-1000), .int 1000, .int (10 ^ 30), .int (-(10 ^ 30)), .non, .str "7", .bl true, .bl false, .tup [.int 1], .lst []] : List DV) (i := s / 4 % 10) (Int.emod_nonneg _ (by decide)) (Int.emod_lt_of_pos _ (by decide))
    refine ⟨x, ?_, ?_⟩
    · revert hx; simp only [List.mem_cons, List.not_mem_nil, or_false]; intro hx; rcases hx with h | h | h | h | h | h | h | h | h | h <;> first | exact .inl ⟨_, h⟩ | exact .inr (by simp [odd, h])
    · simp only [e_sSeq, e_sIf, e_sSet, e_sPar, e_sAsg, e_sRaise, e_xTest, e_xOp, e_xUn, e_xCB, e_xCall, e_xCons, e_xNil, e_xIf, e_xAnd, e_xOr, e_xNot, e_xAndV, e_xOrV, e_xNotV, e_xSl, e_xPart, e_xNo, e_asI, e_v0, e_v1, e_v2, e_v3, e_v4, e_v5, e_v6, e_v7, e_v8, e_xC, R.bind_ok, R.bind_exc, o_int, o_neg, o_sub, o_add, o_gt, o_lt, o_le, o_ge, e_asB, e_xS_ok, e_xS_exc, e_sNx, e_nx, e_rt, e_ex, e_sRet, e_xTup, e_xLst, small_ok, List.length_cons, List.length_nil, Nat.reduceAdd, Nat.reduceLeDiff, Nat.zero_le, if_true, if_false, Bool.false_eq_true, o_ixt, o_ixl, outR_nx, outR_rt, outR_ex, List.set_cons_succ, List.set_cons_zero, e_gT, e_gsCons, e_gsNil, e_gN, R.ofO, Bool.not_true, Bool.not_false, h5, h6, h7, h8, h9, h10, hp, decide_eq_false h, e]
/-! ### what is checked -/
def okB (r : R DV) (b : Bool) : Bool := match r with
  | .ok (.bl c) => c == b
  | _ => false
theorem okB_ok {r : R DV} {b : Bool} (h : okB r b = true) : r = .ok (.bl b) := by
  unfold okB at h
  split at h
  · rw [eq_of_beq h]
  · cases h
def getB (r : R DV) : Bool := match r with
  | .ok (.bl c) => c
  | _ => false
def nm (d : DV) : Bool := getB (m_is_name [d])
def eqn (a b : DV) : Bool := getB (oEq a b)
theorem names_all : (names.all fun d => okB (m_is_name [d]) (nm d) && okB (m__law_is_name [d]) (nm d)) = true := by decide +kernel
theorem eq_all : (names.all fun a => names.all fun b => okB (oEq a b) (eqn a b)) = true := by decide +kernel
def goodS : DV → Bool
  | .str x => PyData.canLay0 (.str x)
  | _ => false
theorem good_all : (names.all fun a => !nm a || goodS a) = true := by decide +kernel
theorem nm1 {d : DV} (h : d ∈ names) : m_is_name [d] = .ok (.bl (nm d)) := okB_ok (Bool.and_eq_true_iff.mp (List.all_eq_true.mp names_all d h)).1
theorem nm2 {d : DV} (h : d ∈ names) : m__law_is_name [d] = .ok (.bl (nm d)) := okB_ok (Bool.and_eq_true_iff.mp (List.all_eq_true.mp names_all d h)).2
theorem eq1 {a b : DV} (ha : a ∈ names) (hb : b ∈ names) : oEq a b = .ok (.bl (eqn a b)) := okB_ok (List.all_eq_true.mp (List.all_eq_true.mp eq_all a ha) b hb)
theorem good {d : DV} (h : d ∈ names) (hn : nm d = true) : ∃ x, d = .str x ∧ PyData.canLay0 (.str x) = true := by
  have q := List.all_eq_true.mp good_all d h
  rw [hn] at q
  cases d with
  | str x => exact ⟨x, rfl, q⟩
  | _ => cases q
def ct (lo : Int) : DV → Bool
  | .int i => decide (lo ≤ i) && decide (i ≤ 999)
  | _ => false
theorem isW {d : DV} (h : CV d) : m_is_whole [d] = .ok (.bl (match d with | .int _ => true | _ => false)) := by
  rcases h with ⟨i, rfl⟩ | h
  · rfl
  · simp only [odd, List.mem_cons, List.not_mem_nil, or_false] at h
    rcases h with rfl | rfl | rfl | rfl | rfl | rfl <;> rfl
theorem isI {d : DV} {lo : Int} (h : CV d) : m_is_integer [d, .int lo, .int 999] = .ok (.bl (ct lo d)) := by
  have hw := isW h
  rw [show m_is_integer [d, .int lo, .int 999] = outR (F_is_integer [.pu d, .pu (.int lo), .pu (.int 999)]) from rfl]
  unfold F_is_integer
  simp only [e_sRet, e_xAndV, e_xCall, e_xCons, e_xNil, e_v0, e_v1, e_v2, R.bind_ok, hw, e_asB, e_xChain]
  cases d with
  | int i =>
    simp only [if_true, R.bind_ok, o_le, e_asB, ct]
    cases decide (lo ≤ i) <;> rfl
  | _ => rfl
theorem isC {d : DV} {lo : Int} (h : CV d) : m__law_is_count [d, .int lo] = .ok (.bl (ct lo d)) := by
  rw [show m__law_is_count [d, .int lo] = outR (F__law_is_count [.pu d, .pu (.int lo)]) from rfl]
  unfold F__law_is_count
  rcases h with ⟨i, rfl⟩ | h
  · simp only [e_sSeq, e_sIf, e_sSet, e_sPar, e_sAsg, e_sRaise, e_xTest, e_xOp, e_xUn, e_xCB, e_xCall, e_xCons, e_xNil, e_xIf, e_xAnd, e_xOr, e_xNot, e_xAndV, e_xOrV, e_xNotV, e_xSl, e_xPart, e_xNo, e_asI, e_v0, e_v1, e_v2, e_v3, e_v4, e_v5, e_v6, e_v7, e_v8, e_xC, R.bind_ok, R.bind_exc, o_int, o_neg, o_sub, o_add, o_gt, o_lt, o_le, o_ge, e_asB, e_xS_ok, e_xS_exc, e_sNx, e_nx, e_rt, e_ex, e_sRet, e_xTup, e_xLst, small_ok, List.length_cons, List.length_nil, Nat.reduceAdd, Nat.reduceLeDiff, Nat.zero_le, if_true, if_false, Bool.false_eq_true, o_ixt, o_ixl, outR_nx, outR_rt, outR_ex, List.set_cons_succ, List.set_cons_zero, e_gT, e_gsCons, e_gsNil, e_gN, R.ofO, Bool.not_true, Bool.not_false, e_xIsi, T1_int, T2_int, e_xChain, ct]
    cases decide (lo ≤ i) <;> rfl
  · simp only [odd, List.mem_cons, List.not_mem_nil, or_false] at h
    rcases h with rfl | rfl | rfl | rfl | rfl | rfl <;> rfl

/-! ### plain data of a fact -/
def lo (k : Int) : Int := if k = 2 then 0 else -999
def le2 : DV → DV → Bool
  | .int i, .int j => decide (i ≤ j)
  | _, _ => false
/-- the numbers of a fact of the kind k -/
def okNs (k : Int) (cs : List DV) : Bool := cs.all (ct (lo k)) && (match cs with
  | [a, b] => k != 1 || le2 a b
  | _ => true)
structure Pl where
  k : Int
  a : DV
  b : DV
  cs : List DV
def Pl.d (p : Pl) : DV := .tup [.int p.k, p.a, p.b, .tup p.cs]
structure Pl.Ok (p : Pl) : Prop where
  k : p.k = 0 ∨ p.k = 1 ∨ p.k = 2
  a : p.a ∈ names
  b : p.b ∈ names
  cs : ∀ c ∈ p.cs, CV c
  len : p.cs.length = 1 ∨ p.cs.length = 2
/-- .. fitted -/
structure Pl.Fit (p : Pl) : Prop extends p.Ok where
  fit : p.cs.length = if p.k = 1 then 2 else 1
def Pl.isF (p : Pl) : Bool := nm p.a && (nm p.b && (!eqn p.a p.b && okNs p.k p.cs))
def Pl.cl (p : Pl) : Str := if p.k = 0 then "After" else if p.k = 2 then "Close" else "Within"
def Pl.fact (p : Pl) : DV := if p.isF = true then .obj p.cl [("pair", .tup [p.a, p.b]), ("bounds", .tup p.cs)] else .non
theorem all_ct {cs : List DV} (hc : ∀ c ∈ cs, CV c) {δ : Ev} {l : Int} {e : Ev → R DV} (he : ∀ c ∈ cs, e (δ.set 5 (.pu c)) = .ok (.bl (ct l c))) : lcD (gN 5) xYes e δ cs = .ok ((cs.map (ct l)).map DV.bl) := by
  rw [lcD_yes (g := gN 5) (fe := e) (h := fun c => .bl (ct l c)) fun c h => ⟨_, rfl, he c h⟩, List.map_map]
  rfl
theorem all_map (cs : List DV) (l : Int) : (cs.map (ct l)).all id = cs.all (ct l) := by rw [List.all_map]; rfl
theorem small_cs {p : Pl} (h : p.Ok) (l : Int) : small ((p.cs.map (ct l)).map DV.bl).length = true := by
  have := h.len
  exact small_ok (by rw [List.length_map, List.length_map]; omega)
theorem isF {p : Pl} (h : p.Fit) : m__law_is_fact [p.d] = .ok (.bl p.isF) := by
  rw [show m__law_is_fact [p.d] = outR (F__law_is_fact [.pu p.d, .un, .un, .un, .un, .un]) from rfl]
  obtain ⟨k, a, b, cs⟩ := p
  have h1 := nm2 h.a
  have h2 := nm2 h.b
  have h3 := eq1 h.a h.b
  have hs := small_cs h.toOk (lo k)
  unfold F__law_is_fact Pl.d
  simp only [e_sSeq, e_sIf, e_sSet, e_sPar, e_sAsg, e_sRaise, e_xTest, e_xOp, e_xUn, e_xCB, e_xCall, e_xCons, e_xNil, e_xIf, e_xAnd, e_xOr, e_xNot, e_xAndV, e_xOrV, e_xNotV, e_xSl, e_xPart, e_xNo, e_asI, e_v0, e_v1, e_v2, e_v3, e_v4, e_v5, e_v6, e_v7, e_v8, e_xC, R.bind_ok, R.bind_exc, o_int, o_neg, o_sub, o_add, o_gt, o_lt, o_le, o_ge, e_asB, e_xS_ok, e_xS_exc, e_sNx, e_nx, e_rt, e_ex, e_sRet, e_xTup, e_xLst, small_ok, List.length_cons, List.length_nil, Nat.reduceAdd, Nat.reduceLeDiff, Nat.zero_le, if_true, if_false, Bool.false_eq_true, o_ixt, o_ixl, outR_nx, outR_rt, outR_ex, List.set_cons_succ, List.set_cons_zero, e_gT, e_gsCons, e_gsNil, e_gN, R.ofO, Bool.not_true, Bool.not_false, Nat.beq, h1, h2, h3]
  unfold Pl.isF
  dsimp only at h1 h2 h3 hs ⊢
  cases nm a with
  | false => simp only [e_sSeq, e_sIf, e_sSet, e_sPar, e_sAsg, e_sRaise, e_xTest, e_xOp, e_xUn, e_xCB, e_xCall, e_xCons, e_xNil, e_xIf, e_xAnd, e_xOr, e_xNot, e_xAndV, e_xOrV, e_xNotV, e_xSl, e_xPart, e_xNo, e_asI, e_v0, e_v1, e_v2, e_v3, e_v4, e_v5, e_v6, e_v7, e_v8, e_xC, R.bind_ok, R.bind_exc, o_int, o_neg, o_sub, o_add, o_gt, o_lt, o_le, o_ge, e_asB, e_xS_ok, e_xS_exc, e_sNx, e_nx, e_rt, e_ex, e_sRet, e_xTup, e_xLst, small_ok, List.length_cons, List.length_nil, Nat.reduceAdd, Nat.reduceLeDiff, Nat.zero_le, if_true, if_false, Bool.false_eq_true, o_ixt, o_ixl, outR_nx, outR_rt, outR_ex, List.set_cons_succ, List.set_cons_zero, e_gT, e_gsCons, e_gsNil, e_gN, R.ofO, Bool.not_true, Bool.not_false, Bool.false_and]
  | true =>
    cases nm b with
    | false => simp only [e_sSeq, e_sIf, e_sSet, e_sPar, e_sAsg, e_sRaise, e_xTest, e_xOp, e_xUn, e_xCB, e_xCall, e_xCons, e_xNil, e_xIf, e_xAnd, e_xOr, e_xNot, e_xAndV, e_xOrV, e_xNotV, e_xSl, e_xPart, e_xNo, e_asI, e_v0, e_v1, e_v2, e_v3, e_v4, e_v5, e_v6, e_v7, e_v8, e_xC, R.bind_ok, R.bind_exc, o_int, o_neg, o_sub, o_add, o_gt, o_lt, o_le, o_ge, e_asB, e_xS_ok, e_xS_exc, e_sNx, e_nx, e_rt, e_ex, e_sRet, e_xTup, e_xLst, small_ok, List.length_cons, List.length_nil, Nat.reduceAdd, Nat.reduceLeDiff, Nat.zero_le, if_true, if_false, Bool.false_eq_true, o_ixt, o_ixl, outR_nx, outR_rt, outR_ex, List.set_cons_succ, List.set_cons_zero, e_gT, e_gsCons, e_gsNil, e_gN, R.ofO, Bool.not_true, Bool.not_false, Bool.false_and, Bool.and_false]
    | true =>
      cases eqn a b with
      | true => simp only [e_sSeq, e_sIf, e_sSet, e_sPar, e_sAsg, e_sRaise, e_xTest, e_xOp, e_xUn, e_xCB, e_xCall, e_xCons, e_xNil, e_xIf, e_xAnd, e_xOr, e_xNot, e_xAndV, e_xOrV, e_xNotV, e_xSl, e_xPart, e_xNo, e_asI, e_v0, e_v1, e_v2, e_v3, e_v4, e_v5, e_v6, e_v7, e_v8, e_xC, R.bind_ok, R.bind_exc, o_int, o_neg, o_sub, o_add, o_gt, o_lt, o_le, o_ge, e_asB, e_xS_ok, e_xS_exc, e_sNx, e_nx, e_rt, e_ex, e_sRet, e_xTup, e_xLst, small_ok, List.length_cons, List.length_nil, Nat.reduceAdd, Nat.reduceLeDiff, Nat.zero_le, if_true, if_false, Bool.false_eq_true, o_ixt, o_ixl, outR_nx, outR_rt, outR_ex, List.set_cons_succ, List.set_cons_zero, e_gT, e_gsCons, e_gsNil, e_gN, R.ofO, Bool.not_true, Bool.not_false, Bool.false_and, Bool.and_false]
      | false =>
        simp only [e_sSeq, e_sIf, e_sSet, e_sPar, e_sAsg, e_sRaise, e_xTest, e_xOp, e_xUn, e_xCB, e_xCall, e_xCons, e_xNil, e_xIf, e_xAnd, e_xOr, e_xNot, e_xAndV, e_xOrV, e_xNotV, e_xSl, e_xPart, e_xNo, e_asI, e_v0, e_v1, e_v2, e_v3, e_v4, e_v5, e_v6, e_v7, e_v8, e_xC, R.bind_ok, R.bind_exc, o_int, o_neg, o_sub, o_add, o_gt, o_lt, o_le, o_ge, e_asB, e_xS_ok, e_xS_exc, e_sNx, e_nx, e_rt, e_ex, e_sRet, e_xTup, e_xLst, small_ok, List.length_cons, List.length_nil, Nat.reduceAdd, Nat.reduceLeDiff, Nat.zero_le, if_true, if_false, Bool.false_eq_true, o_ixt, o_ixl, outR_nx, outR_rt, outR_ex, List.set_cons_succ, List.set_cons_zero, e_gT, e_gsCons, e_gsNil, e_gN, R.ofO, Bool.not_true, Bool.not_false, e_lc, e_lcs, e_xSrc, asAny, e_wc, e_wn, o_eqi]
        rw [all_ct (l := lo k) h.cs fun c hc => by
          simp only [e_sSeq, e_sIf, e_sSet, e_sPar, e_sAsg, e_sRaise, e_xTest, e_xOp, e_xUn, e_xCB, e_xCall, e_xCons, e_xNil, e_xIf, e_xAnd, e_xOr, e_xNot, e_xAndV, e_xOrV, e_xNotV, e_xSl, e_xPart, e_xNo, e_asI, e_v0, e_v1, e_v2, e_v3, e_v4, e_v5, e_v6, e_v7, e_v8, e_xC, R.bind_ok, R.bind_exc, o_int, o_neg, o_sub, o_add, o_gt, o_lt, o_le, o_ge, e_asB, e_xS_ok, e_xS_exc, e_sNx, e_nx, e_rt, e_ex, e_sRet, e_xTup, e_xLst, small_ok, List.length_cons, List.length_nil, Nat.reduceAdd, Nat.reduceLeDiff, Nat.zero_le, if_true, if_false, Bool.false_eq_true, o_ixt, o_ixl, outR_nx, outR_rt, outR_ex, List.set_cons_succ, List.set_cons_zero, e_gT, e_gsCons, e_gsNil, e_gN, R.ofO, Bool.not_true, Bool.not_false, o_eqi]
          have q := isC (lo := lo k) (h.cs c hc)
          unfold lo at q ⊢
          by_cases hk : k = 2
          · simp only [hk, beq_self_eq_true, if_true, R.bind_ok] at q ⊢; exact q
          · have : (k == 2) = false := by simpa using hk
            simp only [hk, this, if_false, Bool.false_eq_true, R.bind_ok] at q ⊢; exact q]
        simp only [R.bind_ok, hs, if_true, o_all, all_map]
        unfold okNs
        cases hct : cs.all (ct (lo k)) with
        | false => simp only [e_sSeq, e_sIf, e_sSet, e_sPar, e_sAsg, e_sRaise, e_xTest, e_xOp, e_xUn, e_xCB, e_xCall, e_xCons, e_xNil, e_xIf, e_xAnd, e_xOr, e_xNot, e_xAndV, e_xOrV, e_xNotV, e_xSl, e_xPart, e_xNo, e_asI, e_v0, e_v1, e_v2, e_v3, e_v4, e_v5, e_v6, e_v7, e_v8, e_xC, R.bind_ok, R.bind_exc, o_int, o_neg, o_sub, o_add, o_gt, o_lt, o_le, o_ge, e_asB, e_xS_ok, e_xS_exc, e_sNx, e_nx, e_rt, e_ex, e_sRet, e_xTup, e_xLst, small_ok, List.length_cons, List.length_nil, Nat.reduceAdd, Nat.reduceLeDiff, Nat.zero_le, if_true, if_false, Bool.false_eq_true, o_ixt, o_ixl, outR_nx, outR_rt, outR_ex, List.set_cons_succ, List.set_cons_zero, e_gT, e_gsCons, e_gsNil, e_gN, R.ofO, Bool.not_true, Bool.not_false, Bool.false_and, Bool.and_false]
        | true =>
          simp only [e_sSeq, e_sIf, e_sSet, e_sPar, e_sAsg, e_sRaise, e_xTest, e_xOp, e_xUn, e_xCB, e_xCall, e_xCons, e_xNil, e_xIf, e_xAnd, e_xOr, e_xNot, e_xAndV, e_xOrV, e_xNotV, e_xSl, e_xPart, e_xNo, e_asI, e_v0, e_v1, e_v2, e_v3, e_v4, e_v5, e_v6, e_v7, e_v8, e_xC, R.bind_ok, R.bind_exc, o_int, o_neg, o_sub, o_add, o_gt, o_lt, o_le, o_ge, e_asB, e_xS_ok, e_xS_exc, e_sNx, e_nx, e_rt, e_ex, e_sRet, e_xTup, e_xLst, small_ok, List.length_cons, List.length_nil, Nat.reduceAdd, Nat.reduceLeDiff, Nat.zero_le, if_true, if_false, Bool.false_eq_true, o_ixt, o_ixl, outR_nx, outR_rt, outR_ex, List.set_cons_succ, List.set_cons_zero, e_gT, e_gsCons, e_gsNil, e_gN, R.ofO, Bool.not_true, Bool.not_false, o_nei]
          have hall := List.all_eq_true.mp hct
          rcases h.k with hk | hk | hk
          · have hk : k = 0 := hk
            subst hk
            have hl := h.fit
            match cs, hl with
            | [x], _ => rfl
          · have hk : k = 1 := hk
            subst hk
            have hl := h.fit
            match cs, hl, hall with
            | [x, y], _, hall =>
              have hx := hall x (by simp)
              have hy := hall y (by simp)
              cases x with
              | int i => cases y with
                | int j => rfl
                | _ => cases hy
              | _ => cases hx
          · have hk : k = 2 := hk
            subst hk
            have hl := h.fit
            match cs, hl with
            | [x], _ => rfl

/-! ### what makes a fact -/
def initOk (a b : DV) (cs : List DV) (l : Int) : Bool := nm a && (nm b && (!eqn a b && cs.all (ct l)))
theorem init {c : Str} (hc : c = "After" ∨ c = "Within" ∨ c = "Close") {a b : DV} {cs : List DV} {l : Int} (ha : a ∈ names) (hb : b ∈ names) (hcs : ∀ c ∈ cs, CV c) (hl : cs.length ≤ 2) :
    m_Fact_init c [] [a, b, .tup cs, .int l] = if initOk a b cs l = true then .ok [("pair", .tup [a, b]), ("bounds", .tup cs)] else .exc "InvalidFact" [] := by
  have hcc : (["After", "Within", "Close"] : List Str).contains c = true := by rcases hc with rfl | rfl | rfl <;> decide
  have h1 := nm1 ha
  have h2 := nm1 hb
  have h3 := eq1 ha hb
  have hs : small ((cs.map (ct l)).map DV.bl).length = true := small_ok (by rw [List.length_map, List.length_map]; omega)
  rw [show m_Fact_init c [] [a, b, .tup cs, .int l] = outI c (F_Fact_init [.oo c [], .pu a, .pu b, .pu (.tup cs), .pu (.int l), .un]) from rfl]
  unfold F_Fact_init initOk
  simp only [e_sSeq, e_sIf, e_sSet, e_sPar, e_sAsg, e_sRaise, e_xTest, e_xOp, e_xUn, e_xCB, e_xCall, e_xCons, e_xNil, e_xIf, e_xAnd, e_xOr, e_xNot, e_xAndV, e_xOrV, e_xNotV, e_xSl, e_xPart, e_xNo, e_asI, e_v0, e_v1, e_v2, e_v3, e_v4, e_v5, e_v6, e_v7, e_v8, e_xC, R.bind_ok, R.bind_exc, o_int, o_neg, o_sub, o_add, o_gt, o_lt, o_le, o_ge, e_asB, e_xS_ok, e_xS_exc, e_sNx, e_nx, e_rt, e_ex, e_sRet, e_xTup, e_xLst, small_ok, List.length_cons, List.length_nil, Nat.reduceAdd, Nat.reduceLeDiff, Nat.zero_le, if_true, if_false, Bool.false_eq_true, o_ixt, o_ixl, outR_nx, outR_rt, outR_ex, List.set_cons_succ, List.set_cons_zero, e_gT, e_gsCons, e_gsNil, e_gN, R.ofO, Bool.not_true, Bool.not_false, h1, h2, h3]
  cases nm a with
  | false => simp only [e_sSeq, e_sIf, e_sSet, e_sPar, e_sAsg, e_sRaise, e_xTest, e_xOp, e_xUn, e_xCB, e_xCall, e_xCons, e_xNil, e_xIf, e_xAnd, e_xOr, e_xNot, e_xAndV, e_xOrV, e_xNotV, e_xSl, e_xPart, e_xNo, e_asI, e_v0, e_v1, e_v2, e_v3, e_v4, e_v5, e_v6, e_v7, e_v8, e_xC, R.bind_ok, R.bind_exc, o_int, o_neg, o_sub, o_add, o_gt, o_lt, o_le, o_ge, e_asB, e_xS_ok, e_xS_exc, e_sNx, e_nx, e_rt, e_ex, e_sRet, e_xTup, e_xLst, small_ok, List.length_cons, List.length_nil, Nat.reduceAdd, Nat.reduceLeDiff, Nat.zero_le, if_true, if_false, Bool.false_eq_true, o_ixt, o_ixl, outR_nx, outR_rt, outR_ex, List.set_cons_succ, List.set_cons_zero, e_gT, e_gsCons, e_gsNil, e_gN, R.ofO, Bool.not_true, Bool.not_false, Bool.false_and, outI_ex]
  | true =>
    cases nm b with
    | false => simp only [e_sSeq, e_sIf, e_sSet, e_sPar, e_sAsg, e_sRaise, e_xTest, e_xOp, e_xUn, e_xCB, e_xCall, e_xCons, e_xNil, e_xIf, e_xAnd, e_xOr, e_xNot, e_xAndV, e_xOrV, e_xNotV, e_xSl, e_xPart, e_xNo, e_asI, e_v0, e_v1, e_v2, e_v3, e_v4, e_v5, e_v6, e_v7, e_v8, e_xC, R.bind_ok, R.bind_exc, o_int, o_neg, o_sub, o_add, o_gt, o_lt, o_le, o_ge, e_asB, e_xS_ok, e_xS_exc, e_sNx, e_nx, e_rt, e_ex, e_sRet, e_xTup, e_xLst, small_ok, List.length_cons, List.length_nil, Nat.reduceAdd, Nat.reduceLeDiff, Nat.zero_le, if_true, if_false, Bool.false_eq_true, o_ixt, o_ixl, outR_nx, outR_rt, outR_ex, List.set_cons_succ, List.set_cons_zero, e_gT, e_gsCons, e_gsNil, e_gN, R.ofO, Bool.not_true, Bool.not_false, Bool.false_and, Bool.and_false, outI_ex]
    | true =>
      cases eqn a b with
      | true => simp only [e_sSeq, e_sIf, e_sSet, e_sPar, e_sAsg, e_sRaise, e_xTest, e_xOp, e_xUn, e_xCB, e_xCall, e_xCons, e_xNil, e_xIf, e_xAnd, e_xOr, e_xNot, e_xAndV, e_xOrV, e_xNotV, e_xSl, e_xPart, e_xNo, e_asI, e_v0, e_v1, e_v2, e_v3, e_v4, e_v5, e_v6, e_v7, e_v8, e_xC, R.bind_ok, R.bind_exc, o_int, o_neg, o_sub, o_add, o_gt, o_lt, o_le, o_ge, e_asB, e_xS_ok, e_xS_exc, e_sNx, e_nx, e_rt, e_ex, e_sRet, e_xTup, e_xLst, small_ok, List.length_cons, List.length_nil, Nat.reduceAdd, Nat.reduceLeDiff, Nat.zero_le, if_true, if_false, Bool.false_eq_true, o_ixt, o_ixl, outR_nx, outR_rt, outR_ex, List.set_cons_succ, List.set_cons_zero, e_gT, e_gsCons, e_gsNil, e_gN, R.ofO, Bool.not_true, Bool.not_false, Bool.false_and, Bool.and_false, outI_ex]
      | false =>
        simp only [e_sSeq, e_sIf, e_sSet, e_sPar, e_sAsg, e_sRaise, e_xTest, e_xOp, e_xUn, e_xCB, e_xCall, e_xCons, e_xNil, e_xIf, e_xAnd, e_xOr, e_xNot, e_xAndV, e_xOrV, e_xNotV, e_xSl, e_xPart, e_xNo, e_asI, e_v0, e_v1, e_v2, e_v3, e_v4, e_v5, e_v6, e_v7, e_v8, e_xC, R.bind_ok, R.bind_exc, o_int, o_neg, o_sub, o_add, o_gt, o_lt, o_le, o_ge, e_asB, e_xS_ok, e_xS_exc, e_sNx, e_nx, e_rt, e_ex, e_sRet, e_xTup, e_xLst, small_ok, List.length_cons, List.length_nil, Nat.reduceAdd, Nat.reduceLeDiff, Nat.zero_le, if_true, if_false, Bool.false_eq_true, o_ixt, o_ixl, outR_nx, outR_rt, outR_ex, List.set_cons_succ, List.set_cons_zero, e_gT, e_gsCons, e_gsNil, e_gN, R.ofO, Bool.not_true, Bool.not_false, e_lc, e_lcs, e_xSrc, asAny, e_wc, e_wn, o_eqi]
        rw [all_ct (l := l) hcs fun c hc => by
          simp only [e_sSeq, e_sIf, e_sSet, e_sPar, e_sAsg, e_sRaise, e_xTest, e_xOp, e_xUn, e_xCB, e_xCall, e_xCons, e_xNil, e_xIf, e_xAnd, e_xOr, e_xNot, e_xAndV, e_xOrV, e_xNotV, e_xSl, e_xPart, e_xNo, e_asI, e_v0, e_v1, e_v2, e_v3, e_v4, e_v5, e_v6, e_v7, e_v8, e_xC, R.bind_ok, R.bind_exc, o_int, o_neg, o_sub, o_add, o_gt, o_lt, o_le, o_ge, e_asB, e_xS_ok, e_xS_exc, e_sNx, e_nx, e_rt, e_ex, e_sRet, e_xTup, e_xLst, small_ok, List.length_cons, List.length_nil, Nat.reduceAdd, Nat.reduceLeDiff, Nat.zero_le, if_true, if_false, Bool.false_eq_true, o_ixt, o_ixl, outR_nx, outR_rt, outR_ex, List.set_cons_succ, List.set_cons_zero, e_gT, e_gsCons, e_gsNil, e_gN, R.ofO, Bool.not_true, Bool.not_false]
          exact isI (hcs c hc)]
        simp only [R.bind_ok, hs, if_true, o_all, all_map]
        cases cs.all (ct l) with
        | false => simp only [e_sSeq, e_sIf, e_sSet, e_sPar, e_sAsg, e_sRaise, e_xTest, e_xOp, e_xUn, e_xCB, e_xCall, e_xCons, e_xNil, e_xIf, e_xAnd, e_xOr, e_xNot, e_xAndV, e_xOrV, e_xNotV, e_xSl, e_xPart, e_xNo, e_asI, e_v0, e_v1, e_v2, e_v3, e_v4, e_v5, e_v6, e_v7, e_v8, e_xC, R.bind_ok, R.bind_exc, o_int, o_neg, o_sub, o_add, o_gt, o_lt, o_le, o_ge, e_asB, e_xS_ok, e_xS_exc, e_sNx, e_nx, e_rt, e_ex, e_sRet, e_xTup, e_xLst, small_ok, List.length_cons, List.length_nil, Nat.reduceAdd, Nat.reduceLeDiff, Nat.zero_le, if_true, if_false, Bool.false_eq_true, o_ixt, o_ixl, outR_nx, outR_rt, outR_ex, List.set_cons_succ, List.set_cons_zero, e_gT, e_gsCons, e_gsNil, e_gN, R.ofO, Bool.not_true, Bool.not_false, Bool.false_and, Bool.and_false, outI_ex]
        | true => simp only [e_sSeq, e_sIf, e_sSet, e_sPar, e_sAsg, e_sRaise, e_xTest, e_xOp, e_xUn, e_xCB, e_xCall, e_xCons, e_xNil, e_xIf, e_xAnd, e_xOr, e_xNot, e_xAndV, e_xOrV, e_xNotV, e_xSl, e_xPart, e_xNo, e_asI, e_v0, e_v1, e_v2, e_v3, e_v4, e_v5, e_v6, e_v7, e_v8, e_xC, R.bind_ok, R.bind_exc, o_int, o_neg, o_sub, o_add, o_gt, o_lt, o_le, o_ge, e_asB, e_xS_ok, e_xS_exc, e_sNx, e_nx, e_rt, e_ex, e_sRet, e_xTup, e_xLst, small_ok, List.length_cons, List.length_nil, Nat.reduceAdd, Nat.reduceLeDiff, Nat.zero_le, if_true, if_false, Bool.false_eq_true, o_ixt, o_ixl, outR_nx, outR_rt, outR_ex, List.set_cons_succ, List.set_cons_zero, e_gT, e_gsCons, e_gsNil, e_gN, R.ofO, Bool.not_true, Bool.not_false, Bool.true_and, Bool.and_true, e_sFld, hcc, putD, List.length_nil, List.length_cons, show Nat.blt 0 1000 = true from rfl, show Nat.blt 1 1000 = true from rfl, outI_nx, show Nat.blt (0 + 1) 1000 = true from rfl, Bool.and_self, show ("pair" : Str) = "bounds" ↔ False from ⟨fun z => absurd z (by decide), False.elim⟩]
theorem mAfter {a b x : DV} (ha : a ∈ names) (hb : b ∈ names) (hx : CV x) : m_After_init "After" [] [a, b, x] = if initOk a b [x] (-999) = true then .ok [("pair", .tup [a, b]), ("bounds", .tup [x])] else .exc "InvalidFact" [] := by
  unfold m_After_init
  rw [imS_ev rfl]
  show (A_After_init [.oo "After" [], .pu a, .pu b, .pu x, .un]).bind _ = _
  unfold A_After_init
  simp only [e_sSeq, e_sIf, e_sSet, e_sPar, e_sAsg, e_sRaise, e_xTest, e_xOp, e_xUn, e_xCB, e_xCall, e_xCons, e_xNil, e_xIf, e_xAnd, e_xOr, e_xNot, e_xAndV, e_xOrV, e_xNotV, e_xSl, e_xPart, e_xNo, e_asI, e_v0, e_v1, e_v2, e_v3, e_v4, e_v5, e_v6, e_v7, e_v8, e_xC, R.bind_ok, R.bind_exc, o_int, o_neg, o_sub, o_add, o_gt, o_lt, o_le, o_ge, e_asB, e_xS_ok, e_xS_exc, e_sNx, e_nx, e_rt, e_ex, e_sRet, e_xTup, e_xLst, small_ok, List.length_cons, List.length_nil, Nat.reduceAdd, Nat.reduceLeDiff, Nat.zero_le, if_true, if_false, Bool.false_eq_true, o_ixt, o_ixl, outR_nx, outR_rt, outR_ex, List.set_cons_succ, List.set_cons_zero, e_gT, e_gsCons, e_gsNil, e_gN, R.ofO, Bool.not_true, Bool.not_false, Nat.beq]
  rw [init (.inl rfl) ha hb (by simpa using hx) (by simp)]
  cases initOk a b [x] (-999) <;> rfl
theorem mClose {a b x : DV} (ha : a ∈ names) (hb : b ∈ names) (hx : CV x) : m_Close_init "Close" [] [a, b, x] = if initOk a b [x] 0 = true then .ok [("pair", .tup [a, b]), ("bounds", .tup [x])] else .exc "InvalidFact" [] := by
  unfold m_Close_init
  rw [imS_ev rfl]
  show (A_Close_init [.oo "Close" [], .pu a, .pu b, .pu x, .un]).bind _ = _
  unfold A_Close_init
  simp only [e_sSeq, e_sIf, e_sSet, e_sPar, e_sAsg, e_sRaise, e_xTest, e_xOp, e_xUn, e_xCB, e_xCall, e_xCons, e_xNil, e_xIf, e_xAnd, e_xOr, e_xNot, e_xAndV, e_xOrV, e_xNotV, e_xSl, e_xPart, e_xNo, e_asI, e_v0, e_v1, e_v2, e_v3, e_v4, e_v5, e_v6, e_v7, e_v8, e_xC, R.bind_ok, R.bind_exc, o_int, o_neg, o_sub, o_add, o_gt, o_lt, o_le, o_ge, e_asB, e_xS_ok, e_xS_exc, e_sNx, e_nx, e_rt, e_ex, e_sRet, e_xTup, e_xLst, small_ok, List.length_cons, List.length_nil, Nat.reduceAdd, Nat.reduceLeDiff, Nat.zero_le, if_true, if_false, Bool.false_eq_true, o_ixt, o_ixl, outR_nx, outR_rt, outR_ex, List.set_cons_succ, List.set_cons_zero, e_gT, e_gsCons, e_gsNil, e_gN, R.ofO, Bool.not_true, Bool.not_false, Nat.beq]
  rw [init (.inr (.inr rfl)) ha hb (by simpa using hx) (by simp)]
  cases initOk a b [x] 0 <;> rfl
theorem mWithin {a b x y : DV} (ha : a ∈ names) (hb : b ∈ names) (hx : CV x) (hy : CV y) : m_Within_init "Within" [] [a, b, x, y] = if (initOk a b [x, y] (-999) && le2 x y) = true then .ok [("pair", .tup [a, b]), ("bounds", .tup [x, y])] else .exc "InvalidFact" [] := by
  unfold m_Within_init
  rw [imS_ev rfl]
  show (A_Within_init [.oo "Within" [], .pu a, .pu b, .pu x, .pu y, .un]).bind _ = _
  unfold A_Within_init
  simp only [e_sSeq, e_sIf, e_sSet, e_sPar, e_sAsg, e_sRaise, e_xTest, e_xOp, e_xUn, e_xCB, e_xCall, e_xCons, e_xNil, e_xIf, e_xAnd, e_xOr, e_xNot, e_xAndV, e_xOrV, e_xNotV, e_xSl, e_xPart, e_xNo, e_asI, e_v0, e_v1, e_v2, e_v3, e_v4, e_v5, e_v6, e_v7, e_v8, e_xC, R.bind_ok, R.bind_exc, o_int, o_neg, o_sub, o_add, o_gt, o_lt, o_le, o_ge, e_asB, e_xS_ok, e_xS_exc, e_sNx, e_nx, e_rt, e_ex, e_sRet, e_xTup, e_xLst, small_ok, List.length_cons, List.length_nil, Nat.reduceAdd, Nat.reduceLeDiff, Nat.zero_le, if_true, if_false, Bool.false_eq_true, o_ixt, o_ixl, outR_nx, outR_rt, outR_ex, List.set_cons_succ, List.set_cons_zero, e_gT, e_gsCons, e_gsNil, e_gN, R.ofO, Bool.not_true, Bool.not_false, Nat.beq]
  rw [init (.inr (.inl rfl)) ha hb (by intro c hc; simp at hc; rcases hc with rfl | rfl <;> assumption) (by simp)]
  cases h : initOk a b [x, y] (-999) with
  | false => rfl
  | true =>
    have hall : ct (-999) x = true ∧ ct (-999) y = true := by
      unfold initOk at h
      simp only [Bool.and_eq_true, List.all_cons, List.all_nil, Bool.and_true] at h
      exact ⟨h.2.2.2.1, h.2.2.2.2⟩
    cases x with
    | int i => cases y with
      | int j =>
        simp only [R.bind_ok, if_true, Bool.true_and, le2]
        show outI "Within" (F_Within_init [.oo "Within" _, .pu a, .pu b, .pu (.int i), .pu (.int j), .un]) = _
        unfold F_Within_init
        simp only [e_sSeq, e_sIf, e_sSet, e_sPar, e_sAsg, e_sRaise, e_xTest, e_xOp, e_xUn, e_xCB, e_xCall, e_xCons, e_xNil, e_xIf, e_xAnd, e_xOr, e_xNot, e_xAndV, e_xOrV, e_xNotV, e_xSl, e_xPart, e_xNo, e_asI, e_v0, e_v1, e_v2, e_v3, e_v4, e_v5, e_v6, e_v7, e_v8, e_xC, R.bind_ok, R.bind_exc, o_int, o_neg, o_sub, o_add, o_gt, o_lt, o_le, o_ge, e_asB, e_xS_ok, e_xS_exc, e_sNx, e_nx, e_rt, e_ex, e_sRet, e_xTup, e_xLst, small_ok, List.length_cons, List.length_nil, Nat.reduceAdd, Nat.reduceLeDiff, Nat.zero_le, if_true, if_false, Bool.false_eq_true, o_ixt, o_ixl, outR_nx, outR_rt, outR_ex, List.set_cons_succ, List.set_cons_zero, e_gT, e_gsCons, e_gsNil, e_gN, R.ofO, Bool.not_true, Bool.not_false]
        by_cases hij : i ≤ j
        · have : ¬ j < i := by omega
          simp only [e_sSeq, e_sIf, e_sSet, e_sPar, e_sAsg, e_sRaise, e_xTest, e_xOp, e_xUn, e_xCB, e_xCall, e_xCons, e_xNil, e_xIf, e_xAnd, e_xOr, e_xNot, e_xAndV, e_xOrV, e_xNotV, e_xSl, e_xPart, e_xNo, e_asI, e_v0, e_v1, e_v2, e_v3, e_v4, e_v5, e_v6, e_v7, e_v8, e_xC, R.bind_ok, R.bind_exc, o_int, o_neg, o_sub, o_add, o_gt, o_lt, o_le, o_ge, e_asB, e_xS_ok, e_xS_exc, e_sNx, e_nx, e_rt, e_ex, e_sRet, e_xTup, e_xLst, small_ok, List.length_cons, List.length_nil, Nat.reduceAdd, Nat.reduceLeDiff, Nat.zero_le, if_true, if_false, Bool.false_eq_true, o_ixt, o_ixl, outR_nx, outR_rt, outR_ex, List.set_cons_succ, List.set_cons_zero, e_gT, e_gsCons, e_gsNil, e_gN, R.ofO, Bool.not_true, Bool.not_false, decide_eq_true hij, decide_eq_false this, outI_nx]
        · have : j < i := by omega
          simp only [e_sSeq, e_sIf, e_sSet, e_sPar, e_sAsg, e_sRaise, e_xTest, e_xOp, e_xUn, e_xCB, e_xCall, e_xCons, e_xNil, e_xIf, e_xAnd, e_xOr, e_xNot, e_xAndV, e_xOrV, e_xNotV, e_xSl, e_xPart, e_xNo, e_asI, e_v0, e_v1, e_v2, e_v3, e_v4, e_v5, e_v6, e_v7, e_v8, e_xC, R.bind_ok, R.bind_exc, o_int, o_neg, o_sub, o_add, o_gt, o_lt, o_le, o_ge, e_asB, e_xS_ok, e_xS_exc, e_sNx, e_nx, e_rt, e_ex, e_sRet, e_xTup, e_xLst, small_ok, List.length_cons, List.length_nil, Nat.reduceAdd, Nat.reduceLeDiff, Nat.zero_le, if_true, if_false, Bool.false_eq_true, o_ixt, o_ixl, outR_nx, outR_rt, outR_ex, List.set_cons_succ, List.set_cons_zero, e_gT, e_gsCons, e_gsNil, e_gN, R.ofO, Bool.not_true, Bool.not_false, decide_eq_false hij, decide_eq_true this, outI_ex]
      | _ => cases hall.2
    | _ => cases hall.1

theorem made {p : Pl} (h : p.Fit) : m__law_made [p.d] = .ok p.fact := by
  rw [show m__law_made [p.d] = outR (F__law_made [.pu p.d, .un, .un, .un, .un]) from rfl]
  obtain ⟨k, a, b, cs⟩ := p
  have ha : a ∈ names := h.a
  have hb : b ∈ names := h.b
  have htab : List.lookup ("InvalidFact" : Str) ([("TimeError", false), ("InvalidFact", true)] : List (Str × Bool)) = some true := by decide
  unfold F__law_made Pl.d
  simp only [e_sSeq, e_sIf, e_sSet, e_sPar, e_sAsg, e_sRaise, e_xTest, e_xOp, e_xUn, e_xCB, e_xCall, e_xCons, e_xNil, e_xIf, e_xAnd, e_xOr, e_xNot, e_xAndV, e_xOrV, e_xNotV, e_xSl, e_xPart, e_xNo, e_asI, e_v0, e_v1, e_v2, e_v3, e_v4, e_v5, e_v6, e_v7, e_v8, e_xC, R.bind_ok, R.bind_exc, o_int, o_neg, o_sub, o_add, o_gt, o_lt, o_le, o_ge, e_asB, e_xS_ok, e_xS_exc, e_sNx, e_nx, e_rt, e_ex, e_sRet, e_xTup, e_xLst, small_ok, List.length_cons, List.length_nil, Nat.reduceAdd, Nat.reduceLeDiff, Nat.zero_le, if_true, if_false, Bool.false_eq_true, o_ixt, o_ixl, outR_nx, outR_rt, outR_ex, List.set_cons_succ, List.set_cons_zero, e_gT, e_gsCons, e_gsNil, e_gN, R.ofO, Bool.not_true, Bool.not_false, Nat.beq, e_sTry]
  unfold Pl.fact Pl.isF Pl.cl okNs
  dsimp only
  rcases h.k with hk | hk | hk
  · have hk : k = 0 := hk
    subst hk
    have hl := h.fit
    match cs, hl, h.cs with
    | [x], _, hcs =>
      have hx : CV x := hcs x (by simp)
      have e := mAfter ha hb hx
      unfold initOk at e
      simp only [e_sSeq, e_sIf, e_sSet, e_sPar, e_sAsg, e_sRaise, e_xTest, e_xOp, e_xUn, e_xCB, e_xCall, e_xCons, e_xNil, e_xIf, e_xAnd, e_xOr, e_xNot, e_xAndV, e_xOrV, e_xNotV, e_xSl, e_xPart, e_xNo, e_asI, e_v0, e_v1, e_v2, e_v3, e_v4, e_v5, e_v6, e_v7, e_v8, e_xC, R.bind_ok, R.bind_exc, o_int, o_neg, o_sub, o_add, o_gt, o_lt, o_le, o_ge, e_asB, e_xS_ok, e_xS_exc, e_sNx, e_nx, e_rt, e_ex, e_sRet, e_xTup, e_xLst, small_ok, List.length_cons, List.length_nil, Nat.reduceAdd, Nat.reduceLeDiff, Nat.zero_le, if_true, if_false, Bool.false_eq_true, o_ixt, o_ixl, outR_nx, outR_rt, outR_ex, List.set_cons_succ, List.set_cons_zero, e_gT, e_gsCons, e_gsNil, e_gN, R.ofO, Bool.not_true, Bool.not_false, o_eqi, e_xMake, show atI [x] 0 = some x from rfl, Nat.beq, e, beq_self_eq_true, lo, show ((0 : Int) = 2) ↔ False from by decide, Bool.and_true]
      cases nm a && (nm b && (!eqn a b && [x].all (ct (-999)))) <;> simp only [e_sSeq, e_sIf, e_sSet, e_sPar, e_sAsg, e_sRaise, e_xTest, e_xOp, e_xUn, e_xCB, e_xCall, e_xCons, e_xNil, e_xIf, e_xAnd, e_xOr, e_xNot, e_xAndV, e_xOrV, e_xNotV, e_xSl, e_xPart, e_xNo, e_asI, e_v0, e_v1, e_v2, e_v3, e_v4, e_v5, e_v6, e_v7, e_v8, e_xC, R.bind_ok, R.bind_exc, o_int, o_neg, o_sub, o_add, o_gt, o_lt, o_le, o_ge, e_asB, e_xS_ok, e_xS_exc, e_sNx, e_nx, e_rt, e_ex, e_sRet, e_xTup, e_xLst, small_ok, List.length_cons, List.length_nil, Nat.reduceAdd, Nat.reduceLeDiff, Nat.zero_le, if_true, if_false, Bool.false_eq_true, o_ixt, o_ixl, outR_nx, outR_rt, outR_ex, List.set_cons_succ, List.set_cons_zero, e_gT, e_gsCons, e_gsNil, e_gN, R.ofO, Bool.not_true, Bool.not_false, htab, noXS]
  · have hk : k = 1 := hk
    subst hk
    have hl := h.fit
    match cs, hl, h.cs with
    | [x, y], _, hcs =>
      have hx : CV x := hcs x (by simp)
      have hy : CV y := hcs y (by simp)
      have e := mWithin ha hb hx hy
      unfold initOk at e
      simp only [e_sSeq, e_sIf, e_sSet, e_sPar, e_sAsg, e_sRaise, e_xTest, e_xOp, e_xUn, e_xCB, e_xCall, e_xCons, e_xNil, e_xIf, e_xAnd, e_xOr, e_xNot, e_xAndV, e_xOrV, e_xNotV, e_xSl, e_xPart, e_xNo, e_asI, e_v0, e_v1, e_v2, e_v3, e_v4, e_v5, e_v6, e_v7, e_v8, e_xC, R.bind_ok, R.bind_exc, o_int, o_neg, o_sub, o_add, o_gt, o_lt, o_le, o_ge, e_asB, e_xS_ok, e_xS_exc, e_sNx, e_nx, e_rt, e_ex, e_sRet, e_xTup, e_xLst, small_ok, List.length_cons, List.length_nil, Nat.reduceAdd, Nat.reduceLeDiff, Nat.zero_le, if_true, if_false, Bool.false_eq_true, o_ixt, o_ixl, outR_nx, outR_rt, outR_ex, List.set_cons_succ, List.set_cons_zero, e_gT, e_gsCons, e_gsNil, e_gN, R.ofO, Bool.not_true, Bool.not_false, o_eqi, e_xMake, show atI [x, y] 0 = some x from rfl, show atI [x, y] 1 = some y from rfl, Nat.beq, e, beq_self_eq_true, lo, show ((1 : Int) = 2) ↔ False from by decide, show ((1 : Int) = 0) ↔ False from by decide, Bool.and_true, show ((1 : Int) == 0) = false from rfl, show ((1 : Int) == 2) = false from rfl,
        show ((1 : Int) != 1) = false from rfl, Bool.false_or, Bool.and_assoc]
      cases nm a && (nm b && (!eqn a b && ([x, y].all (ct (-999)) && le2 x y))) <;> simp only [e_sSeq, e_sIf, e_sSet, e_sPar, e_sAsg, e_sRaise, e_xTest, e_xOp, e_xUn, e_xCB, e_xCall, e_xCons, e_xNil, e_xIf, e_xAnd, e_xOr, e_xNot, e_xAndV, e_xOrV, e_xNotV, e_xSl, e_xPart, e_xNo, e_asI, e_v0, e_v1, e_v2, e_v3, e_v4, e_v5, e_v6, e_v7, e_v8, e_xC, R.bind_ok, R.bind_exc, o_int, o_neg, o_sub, o_add, o_gt, o_lt, o_le, o_ge, e_asB, e_xS_ok, e_xS_exc, e_sNx, e_nx, e_rt, e_ex, e_sRet, e_xTup, e_xLst, small_ok, List.length_cons, List.length_nil, Nat.reduceAdd, Nat.reduceLeDiff, Nat.zero_le, if_true, if_false, Bool.false_eq_true, o_ixt, o_ixl, outR_nx, outR_rt, outR_ex, List.set_cons_succ, List.set_cons_zero, e_gT, e_gsCons, e_gsNil, e_gN, R.ofO, Bool.not_true, Bool.not_false, htab, noXS]
  · have hk : k = 2 := hk
    subst hk
    have hl := h.fit
    match cs, hl, h.cs with
    | [x], _, hcs =>
      have hx : CV x := hcs x (by simp)
      have e := mClose ha hb hx
      unfold initOk at e
      simp only [e_sSeq, e_sIf, e_sSet, e_sPar, e_sAsg, e_sRaise, e_xTest, e_xOp, e_xUn, e_xCB, e_xCall, e_xCons, e_xNil, e_xIf, e_xAnd, e_xOr, e_xNot, e_xAndV, e_xOrV, e_xNotV, e_xSl, e_xPart, e_xNo, e_asI, e_v0, e_v1, e_v2, e_v3, e_v4, e_v5, e_v6, e_v7, e_v8, e_xC, R.bind_ok, R.bind_exc, o_int, o_neg, o_sub, o_add, o_gt, o_lt, o_le, o_ge, e_asB, e_xS_ok, e_xS_exc, e_sNx, e_nx, e_rt, e_ex, e_sRet, e_xTup, e_xLst, small_ok, List.length_cons, List.length_nil, Nat.reduceAdd, Nat.reduceLeDiff, Nat.zero_le, if_true, if_false, Bool.false_eq_true, o_ixt, o_ixl, outR_nx, outR_rt, outR_ex, List.set_cons_succ, List.set_cons_zero, e_gT, e_gsCons, e_gsNil, e_gN, R.ofO, Bool.not_true, Bool.not_false, o_eqi, e_xMake, show atI [x] 0 = some x from rfl, Nat.beq, e, beq_self_eq_true, lo, show ((2 : Int) = 0) ↔ False from by decide, Bool.and_true, show ((2 : Int) == 0) = false from rfl]
      cases nm a && (nm b && (!eqn a b && [x].all (ct 0))) <;> simp only [e_sSeq, e_sIf, e_sSet, e_sPar, e_sAsg, e_sRaise, e_xTest, e_xOp, e_xUn, e_xCB, e_xCall, e_xCons, e_xNil, e_xIf, e_xAnd, e_xOr, e_xNot, e_xAndV, e_xOrV, e_xNotV, e_xSl, e_xPart, e_xNo, e_asI, e_v0, e_v1, e_v2, e_v3, e_v4, e_v5, e_v6, e_v7, e_v8, e_xC, R.bind_ok, R.bind_exc, o_int, o_neg, o_sub, o_add, o_gt, o_lt, o_le, o_ge, e_asB, e_xS_ok, e_xS_exc, e_sNx, e_nx, e_rt, e_ex, e_sRet, e_xTup, e_xLst, small_ok, List.length_cons, List.length_nil, Nat.reduceAdd, Nat.reduceLeDiff, Nat.zero_le, if_true, if_false, Bool.false_eq_true, o_ixt, o_ixl, outR_nx, outR_rt, outR_ex, List.set_cons_succ, List.set_cons_zero, e_gT, e_gsCons, e_gsNil, e_gN, R.ofO, Bool.not_true, Bool.not_false, htab, noXS]
/-! ### the drawn plain data -/
theorem plain {ns : List Int} {at_ : Int} (h0 : 0 ≤ at_) : ∃ p : Pl, p.Ok ∧ m__law_plain [scr ns, .int at_] = .ok p.d := by
  obtain ⟨n0, hn0, e0⟩ := num (ns := ns) h0
  obtain ⟨n1, _, e1⟩ := num (ns := ns) (i := at_ + 1) (by omega)
  obtain ⟨n2, _, e2⟩ := num (ns := ns) (i := at_ + 2) (by omega)
  obtain ⟨n3, _, e3⟩ := num (ns := ns) (i := at_ + 3) (by omega)
  obtain ⟨n4, _, e4⟩ := num (ns := ns) (i := at_ + 4) (by omega)
  obtain ⟨a, ha, ea⟩ := name (s := n1)
  obtain ⟨b, hb, eb⟩ := name (s := n2)
  obtain ⟨c, hc, ec⟩ := count (s := n3)
  obtain ⟨d, hd, ed⟩ := count (s := n4)
  have k0 := Int.emod_nonneg n0 (show (3 : Int) ≠ 0 by decide)
  have k1 := Int.emod_lt_of_pos n0 (show (0 : Int) < 3 by decide)
  rw [show m__law_plain [scr ns, .int at_] = outR (F__law_plain [.pu (scr ns), .pu (.int at_), .un, .un, .un, .un, .un, .un]) from rfl]
  unfold F__law_plain
  simp only [e_sSeq, e_sIf, e_sSet, e_sPar, e_sAsg, e_sRaise, e_xTest, e_xOp, e_xUn, e_xCB, e_xCall, e_xCons, e_xNil, e_xIf, e_xAnd, e_xOr, e_xNot, e_xAndV, e_xOrV, e_xNotV, e_xSl, e_xPart, e_xNo, e_asI, e_v0, e_v1, e_v2, e_v3, e_v4, e_v5, e_v6, e_v7, e_v8, e_xC, R.bind_ok, R.bind_exc, o_int, o_neg, o_sub, o_add, o_gt, o_lt, o_le, o_ge, e_asB, e_xS_ok, e_xS_exc, e_sNx, e_nx, e_rt, e_ex, e_sRet, e_xTup, e_xLst, small_ok, List.length_cons, List.length_nil, Nat.reduceAdd, Nat.reduceLeDiff, Nat.zero_le, if_true, if_false, Bool.false_eq_true, o_ixt, o_ixl, outR_nx, outR_rt, outR_ex, List.set_cons_succ, List.set_cons_zero, e_gT, e_gsCons, e_gsNil, e_gN, R.ofO, Bool.not_true, Bool.not_false, e0, e1, e2, e3, e4, ea, eb, ec, ed, o_mod (show (0 : Int) < 3 by decide), o_mod (show (0 : Int) < 9 by decide), o_mod (show (0 : Int) < 5 by decide), o_div (show (0 : Int) < 3 by decide) (by decide), o_div (show (0 : Int) < 27 by decide) (by decide), o_eqi]
  cases h1 : (n0 / 3 % 9 == 0) <;> cases h2 : (n0 % 3 == 1) <;> cases h3 : (n0 / 27 % 5 == 0) <;> (try simp only [e_sSeq, e_sIf, e_sSet, e_sPar, e_sAsg, e_sRaise, e_xTest, e_xOp, e_xUn, e_xCB, e_xCall, e_xCons, e_xNil, e_xIf, e_xAnd, e_xOr, e_xNot, e_xAndV, e_xOrV, e_xNotV, e_xSl, e_xPart, e_xNo, e_asI, e_v0, e_v1, e_v2, e_v3, e_v4, e_v5, e_v6, e_v7, e_v8, e_xC, R.bind_ok, R.bind_exc, o_int, o_neg, o_sub, o_add, o_gt, o_lt, o_le, o_ge, e_asB, e_xS_ok, e_xS_exc, e_sNx, e_nx, e_rt, e_ex, e_sRet, e_xTup, e_xLst, small_ok, List.length_cons, List.length_nil, Nat.reduceAdd, Nat.reduceLeDiff, Nat.zero_le, if_true, if_false, Bool.false_eq_true, o_ixt, o_ixl, outR_nx, outR_rt, outR_ex, List.set_cons_succ, List.set_cons_zero, e_gT, e_gsCons, e_gsNil, e_gN, R.ofO, Bool.not_true, Bool.not_false, e0, e1, e2, e3, e4, ea, eb, ec, ed, o_mod (show (0 : Int) < 3 by decide), o_mod (show (0 : Int) < 9 by decide), o_mod (show (0 : Int) < 5 by decide), o_div (show (0 : Int) < 3 by decide) (by decide), o_div (show (0 : Int) < 27 by decide) (by decide), o_eqi, show atI [c] 0 = some c from rfl, h1, h2, h3])
  all_goals first
    | exact ⟨⟨n0 % 3, a, a, [c]⟩, ⟨by show n0 % 3 = 0 ∨ n0 % 3 = 1 ∨ n0 % 3 = 2; omega, ha, ha, by simpa using hc, by simp⟩, rfl⟩
    | exact ⟨⟨n0 % 3, a, b, [c]⟩, ⟨by show n0 % 3 = 0 ∨ n0 % 3 = 1 ∨ n0 % 3 = 2; omega, ha, hb, by simpa using hc, by simp⟩, rfl⟩
    | exact ⟨⟨n0 % 3, a, a, [c, d]⟩, ⟨by show n0 % 3 = 0 ∨ n0 % 3 = 1 ∨ n0 % 3 = 2; omega, ha, ha, by simpa using ⟨hc, hd⟩, by simp⟩, rfl⟩
    | exact ⟨⟨n0 % 3, a, b, [c, d]⟩, ⟨by show n0 % 3 = 0 ∨ n0 % 3 = 1 ∨ n0 % 3 = 2; omega, ha, hb, by simpa using ⟨hc, hd⟩, by simp⟩, rfl⟩
    | exact ⟨⟨n0 % 3, a, a, [c, c]⟩, ⟨by show n0 % 3 = 0 ∨ n0 % 3 = 1 ∨ n0 % 3 = 2; omega, ha, ha, by simpa using hc, by simp⟩, rfl⟩
    | exact ⟨⟨n0 % 3, a, b, [c, c]⟩, ⟨by show n0 % 3 = 0 ∨ n0 % 3 = 1 ∨ n0 % 3 = 2; omega, ha, hb, by simpa using hc, by simp⟩, rfl⟩
theorem fit {p : Pl} (h : p.Ok) : ∃ q : Pl, q.Fit ∧ m__law_fit [p.d] = .ok q.d := by
  rw [show m__law_fit [p.d] = outR (F__law_fit [.pu p.d, .un, .un, .un, .un]) from rfl]
  obtain ⟨k, a, b, cs⟩ := p
  unfold F__law_fit Pl.d
  simp only [e_sSeq, e_sIf, e_sSet, e_sPar, e_sAsg, e_sRaise, e_xTest, e_xOp, e_xUn, e_xCB, e_xCall, e_xCons, e_xNil, e_xIf, e_xAnd, e_xOr, e_xNot, e_xAndV, e_xOrV, e_xNotV, e_xSl, e_xPart, e_xNo, e_asI, e_v0, e_v1, e_v2, e_v3, e_v4, e_v5, e_v6, e_v7, e_v8, e_xC, R.bind_ok, R.bind_exc, o_int, o_neg, o_sub, o_add, o_gt, o_lt, o_le, o_ge, e_asB, e_xS_ok, e_xS_exc, e_sNx, e_nx, e_rt, e_ex, e_sRet, e_xTup, e_xLst, small_ok, List.length_cons, List.length_nil, Nat.reduceAdd, Nat.reduceLeDiff, Nat.zero_le, if_true, if_false, Bool.false_eq_true, o_ixt, o_ixl, outR_nx, outR_rt, outR_ex, List.set_cons_succ, List.set_cons_zero, e_gT, e_gsCons, e_gsNil, e_gN, R.ofO, Bool.not_true, Bool.not_false, Nat.beq, o_eqi, o_lent]
  have hl := h.len
  have hcs := h.cs
  have hk := h.k
  cases h1 : (k == 1) with
  | true =>
    have hk1 : k = 1 := by simpa using h1
    match cs, hl, hcs with
    | [x], _, hcs =>
      have hx : CV x := hcs x (by simp)
      exact ⟨⟨k, a, b, [x, x]⟩, ⟨⟨hk, h.a, h.b, by simpa using hx, by simp⟩, by simp [hk1]⟩, rfl⟩
    | [x, y], _, hcs => exact ⟨⟨k, a, b, [x, y]⟩, ⟨⟨hk, h.a, h.b, hcs, by simp⟩, by simp [hk1]⟩, rfl⟩
  | false =>
    have hk1 : k ≠ 1 := by simpa using h1
    match cs, hl, hcs with
    | [x], _, hcs => exact ⟨⟨k, a, b, [x]⟩, ⟨⟨hk, h.a, h.b, hcs, by simp⟩, by simp [hk1]⟩, rfl⟩
    | [x, y], _, hcs =>
      have hx : CV x := hcs x (by simp)
      exact ⟨⟨k, a, b, [x]⟩, ⟨⟨hk, h.a, h.b, by simpa using hx, by simp⟩, by simp [hk1]⟩, rfl⟩

theorem plains {ns : List Int} : ∃ ps : List Pl, ps.length ≤ 20 ∧ (∀ p ∈ ps, p.Fit) ∧ m__law_plains [scr ns] = .ok (.lst (ps.map Pl.d)) := by
  rw [show m__law_plains [scr ns] = outR (F__law_plains [.pu (scr ns), .un, .un, .un, .un, .un, .un, .un, .un]) from rfl]
  -- the first twelve
  obtain ⟨ys, ey, ly, py⟩ := lcD_ex (g := gN 2) (fe := xCall m__law_plain (xCons (xVar 0) (xCons (xOp oMul (xC (.int 10)) (xVar 2)) (xNil)))) (δ := [.pu (scr ns), .un, .un, .un, .un, .un, .un, .un, .un]) (ds := intsFrom 0 12) (P := fun _ y => ∃ p : Pl, p.Ok ∧ y = p.d) fun d hd => by
    obtain ⟨t, rfl, h0, _⟩ := ints_mem hd
    obtain ⟨p, hp, e⟩ := plain (ns := ns) (at_ := 10 * t) (by omega)
    refine ⟨_, p.d, rfl, ?_, p, hp, rfl⟩
    simp only [e_sSeq, e_sIf, e_sSet, e_sPar, e_sAsg, e_sRaise, e_xTest, e_xOp, e_xUn, e_xCB, e_xCall, e_xCons, e_xNil, e_xIf, e_xAnd, e_xOr, e_xNot, e_xAndV, e_xOrV, e_xNotV, e_xSl, e_xPart, e_xNo, e_asI, e_v0, e_v1, e_v2, e_v3, e_v4, e_v5, e_v6, e_v7, e_v8, e_xC, R.bind_ok, R.bind_exc, o_int, o_neg, o_sub, o_add, o_gt, o_lt, o_le, o_ge, e_asB, e_xS_ok, e_xS_exc, e_sNx, e_nx, e_rt, e_ex, e_sRet, e_xTup, e_xLst, small_ok, List.length_cons, List.length_nil, Nat.reduceAdd, Nat.reduceLeDiff, Nat.zero_le, if_true, if_false, Bool.false_eq_true, o_ixt, o_ixl, outR_nx, outR_rt, outR_ex, List.set_cons_succ, List.set_cons_zero, e_gT, e_gsCons, e_gsNil, e_gN, R.ofO, Bool.not_true, Bool.not_false, o_mul1 (show inM 10 = true from rfl), e]
  have ly12 : ys.length = 12 := ly
  have py' : ∀ y ∈ ys, ∃ p : Pl, p.Ok ∧ y = p.d := fun y hy => let ⟨_, _, h⟩ := py y hy; h
  have hys : small ys.length = true := small_ok (by omega)
  unfold F__law_plains
  simp only [e_sSeq, e_sIf, e_sSet, e_sPar, e_sAsg, e_sRaise, e_xTest, e_xOp, e_xUn, e_xCB, e_xCall, e_xCons, e_xNil, e_xIf, e_xAnd, e_xOr, e_xNot, e_xAndV, e_xOrV, e_xNotV, e_xSl, e_xPart, e_xNo, e_asI, e_v0, e_v1, e_v2, e_v3, e_v4, e_v5, e_v6, e_v7, e_v8, e_xC, R.bind_ok, R.bind_exc, o_int, o_neg, o_sub, o_add, o_gt, o_lt, o_le, o_ge, e_asB, e_xS_ok, e_xS_exc, e_sNx, e_nx, e_rt, e_ex, e_sRet, e_xTup, e_xLst, small_ok, List.length_cons, List.length_nil, Nat.reduceAdd, Nat.reduceLeDiff, Nat.zero_le, if_true, if_false, Bool.false_eq_true, o_ixt, o_ixl, outR_nx, outR_rt, outR_ex, List.set_cons_succ, List.set_cons_zero, e_gT, e_gsCons, e_gsNil, e_gN, R.ofO, Bool.not_true, Bool.not_false, e_sSetLcO, e_lcs, e_xIt, show asRange1 [.int 12] = .ok (intsFrom 0 12) from rfl, show asRange1 [.int 8] = .ok (intsFrom 0 8) from rfl, e_wc, e_wn, ey, hys, e_sFor]
  -- eight more
  obtain ⟨δ', e1, zs, t2, t3, t4, t5, t6, t7, t8, hδ, _, lz, lz', pz⟩ := forD_inv (g := gN 2) (F := B__law_plains_1) (fun ds δ => ∃ zs t2 t3 t4 t5 t6 t7 t8, δ = [.pu (scr ns), .ol zs, t2, t3, t4, t5, t6, t7, t8] ∧ (∀ d ∈ ds, ∃ t : Int, d = .int t ∧ 0 ≤ t) ∧ zs.length + ds.length = 20 ∧ 12 ≤ zs.length ∧ ∀ y ∈ zs, ∃ p : Pl, p.Ok ∧ y = p.d)
    (fun d ds δ ⟨zs, t2, t3, t4, t5, t6, t7, t8, hδ, hds, hl, hz, pz⟩ => by
      subst hδ
      obtain ⟨t, rfl, h0⟩ := hds d List.mem_cons_self
      obtain ⟨n0, hn0, e0⟩ := num (ns := ns) (i := 200 + t) (by omega)
      obtain ⟨n1, _, e1⟩ := num (ns := ns) (i := 210 + t) (by omega)
      obtain ⟨y, hy, ey⟩ := atI_at zs (i := n0 % 12) (Int.emod_nonneg _ (by decide)) (by have := Int.emod_lt_of_pos n0 (show (0 : Int) < 12 by decide); omega)
      obtain ⟨p, hp, rfl⟩ := pz y hy
      obtain ⟨k, a, b, cs⟩ := p
      have hb : Nat.blt zs.length 16777216 = true := by
        rw [List.length_cons] at hl
        exact Nat.ble_eq_true_of_le (by omega)
      have k0 := Int.emod_nonneg (k + 1) (show (3 : Int) ≠ 0 by decide)
      have k1 := Int.emod_lt_of_pos (k + 1) (show (0 : Int) < 3 by decide)
      have fin : ∀ q : Pl, q.Ok → ∀ δ2, δ2 = [.pu (scr ns), .ol (zs ++ [q.d]), .pu (.int t), .pu (.int (n1 % 4)), .pu (.int q.k), .pu q.a, .pu q.b, .pu (.tup q.cs), t8] → ∃ zs t2 t3 t4 t5 t6 t7 t8, δ2 = [.pu (scr ns), .ol zs, t2, t3, t4, t5, t6, t7, t8] ∧ (∀ d ∈ ds, ∃ t : Int, d = .int t ∧ 0 ≤ t) ∧ zs.length + ds.length = 20 ∧ 12 ≤ zs.length ∧ ∀ y ∈ zs, ∃ p : Pl, p.Ok ∧ y = p.d := fun q hq δ2 e =>
        ⟨_, _, _, _, _, _, _, _, e, fun d hd => hds d (List.mem_cons_of_mem _ hd), by rw [List.length_append, List.length_singleton]; rw [List.length_cons] at hl; omega, by rw [List.length_append]; omega, fun y hy => by
          rcases List.mem_append.mp hy with h | h
          · exact pz y h
          · rw [List.mem_singleton.mp h]; exact ⟨q, hq, rfl⟩⟩
      cases h1 : (n1 % 4 == 0) with
      | true => exact ⟨_, _, rfl, by unfold B__law_plains_1; simp only [e_sSeq, e_sIf, e_sSet, e_sPar, e_sAsg, e_sRaise, e_xTest, e_xOp, e_xUn, e_xCB, e_xCall, e_xCons, e_xNil, e_xIf, e_xAnd, e_xOr, e_xNot, e_xAndV, e_xOrV, e_xNotV, e_xSl, e_xPart, e_xNo, e_asI, e_v0, e_v1, e_v2, e_v3, e_v4, e_v5, e_v6, e_v7, e_v8, e_xC, R.bind_ok, R.bind_exc, o_int, o_neg, o_sub, o_add, o_gt, o_lt, o_le, o_ge, e_asB, e_xS_ok, e_xS_exc, e_sNx, e_nx, e_rt, e_ex, e_sRet, e_xTup, e_xLst, small_ok, List.length_cons, List.length_nil, Nat.reduceAdd, Nat.reduceLeDiff, Nat.zero_le, if_true, if_false, Bool.false_eq_true, o_ixt, o_ixl, outR_nx, outR_rt, outR_ex, List.set_cons_succ, List.set_cons_zero, e_gT, e_gsCons, e_gsNil, e_gN, R.ofO, Bool.not_true, Bool.not_false, e0, e1, e_xIxO1, o_mod (show (0 : Int) < 12 by decide), o_mod (show (0 : Int) < 4 by decide), ey, Pl.d, Nat.beq, o_eqi, h1, e_sApp1, hb], fin ⟨k, b, a, cs⟩ ⟨hp.k, hp.b, hp.a, hp.cs, hp.len⟩ _ rfl⟩
      | false =>
        cases h2 : (n1 % 4 == 1) with
        | true => exact ⟨_, _, rfl, by unfold B__law_plains_1; simp only [e_sSeq, e_sIf, e_sSet, e_sPar, e_sAsg, e_sRaise, e_xTest, e_xOp, e_xUn, e_xCB, e_xCall, e_xCons, e_xNil, e_xIf, e_xAnd, e_xOr, e_xNot, e_xAndV, e_xOrV, e_xNotV, e_xSl, e_xPart, e_xNo, e_asI, e_v0, e_v1, e_v2, e_v3, e_v4, e_v5, e_v6, e_v7, e_v8, e_xC, R.bind_ok, R.bind_exc, o_int, o_neg, o_sub, o_add, o_gt, o_lt, o_le, o_ge, e_asB, e_xS_ok, e_xS_exc, e_sNx, e_nx, e_rt, e_ex, e_sRet, e_xTup, e_xLst, small_ok, List.length_cons, List.length_nil, Nat.reduceAdd, Nat.reduceLeDiff, Nat.zero_le, if_true, if_false, Bool.false_eq_true, o_ixt, o_ixl, outR_nx, outR_rt, outR_ex, List.set_cons_succ, List.set_cons_zero, e_gT, e_gsCons, e_gsNil, e_gN, R.ofO, Bool.not_true, Bool.not_false, e0, e1, e_xIxO1, o_mod (show (0 : Int) < 12 by decide), o_mod (show (0 : Int) < 4 by decide), o_mod (show (0 : Int) < 3 by decide), ey, Pl.d, Nat.beq, o_eqi, h1, h2, e_sApp1, hb], fin ⟨(k + 1) % 3, a, b, cs⟩ ⟨by show (k + 1) % 3 = 0 ∨ (k + 1) % 3 = 1 ∨ (k + 1) % 3 = 2; omega, hp.a, hp.b, hp.cs, hp.len⟩ _ rfl⟩
        | false =>
          cases h3 : (n1 % 4 == 2) with
          | true => exact ⟨_, _, rfl, by unfold B__law_plains_1; simp only [e_sSeq, e_sIf, e_sSet, e_sPar, e_sAsg, e_sRaise, e_xTest, e_xOp, e_xUn, e_xCB, e_xCall, e_xCons, e_xNil, e_xIf, e_xAnd, e_xOr, e_xNot, e_xAndV, e_xOrV, e_xNotV, e_xSl, e_xPart, e_xNo, e_asI, e_v0, e_v1, e_v2, e_v3, e_v4, e_v5, e_v6, e_v7, e_v8, e_xC, R.bind_ok, R.bind_exc, o_int, o_neg, o_sub, o_add, o_gt, o_lt, o_le, o_ge, e_asB, e_xS_ok, e_xS_exc, e_sNx, e_nx, e_rt, e_ex, e_sRet, e_xTup, e_xLst, small_ok, List.length_cons, List.length_nil, Nat.reduceAdd, Nat.reduceLeDiff, Nat.zero_le, if_true, if_false, Bool.false_eq_true, o_ixt, o_ixl, outR_nx, outR_rt, outR_ex, List.set_cons_succ, List.set_cons_zero, e_gT, e_gsCons, e_gsNil, e_gN, R.ofO, Bool.not_true, Bool.not_false, e0, e1, e_xIxO1, o_mod (show (0 : Int) < 12 by decide), o_mod (show (0 : Int) < 4 by decide), ey, Pl.d, Nat.beq, o_eqi, h1, h2, h3, e_sApp1, hb], fin ⟨k, a, a, cs⟩ ⟨hp.k, hp.a, hp.a, hp.cs, hp.len⟩ _ rfl⟩
          | false => exact ⟨_, _, rfl, by unfold B__law_plains_1; simp only [e_sSeq, e_sIf, e_sSet, e_sPar, e_sAsg, e_sRaise, e_xTest, e_xOp, e_xUn, e_xCB, e_xCall, e_xCons, e_xNil, e_xIf, e_xAnd, e_xOr, e_xNot, e_xAndV, e_xOrV, e_xNotV, e_xSl, e_xPart, e_xNo, e_asI, e_v0, e_v1, e_v2, e_v3, e_v4, e_v5, e_v6, e_v7, e_v8, e_xC, R.bind_ok, R.bind_exc, o_int, o_neg, o_sub, o_add, o_gt, o_lt, o_le, o_ge, e_asB, e_xS_ok, e_xS_exc, e_sNx, e_nx, e_rt, e_ex, e_sRet, e_xTup, e_xLst, small_ok, List.length_cons, List.length_nil, Nat.reduceAdd, Nat.reduceLeDiff, Nat.zero_le, if_true, if_false, Bool.false_eq_true, o_ixt, o_ixl, outR_nx, outR_rt, outR_ex, List.set_cons_succ, List.set_cons_zero, e_gT, e_gsCons, e_gsNil, e_gN, R.ofO, Bool.not_true, Bool.not_false, e0, e1, e_xIxO1, o_mod (show (0 : Int) < 12 by decide), o_mod (show (0 : Int) < 4 by decide), ey, Pl.d, Nat.beq, o_eqi, h1, h2, h3, e_sApp1, hb], fin ⟨k, a, b, cs⟩ hp _ rfl⟩)
    (intsFrom 0 8) _ ⟨ys, _, _, _, _, _, _, _, rfl, fun d hd => let ⟨t, e, h, _⟩ := ints_mem hd; ⟨t, e, h⟩, by rw [ly12]; rfl, by omega, py'⟩
  rw [e1]
  subst hδ
  -- fitted
  obtain ⟨ws, ew, lw, pw⟩ := lcD_ex (g := gN 8) (fe := xCall m__law_fit (xCons (xVar 8) (xNil))) (δ := [.pu (scr ns), .pu (.lst zs), t2, t3, t4, t5, t6, t7, .un]) (ds := zs) (P := fun _ y => ∃ p : Pl, p.Fit ∧ y = p.d) fun d hd => by
    obtain ⟨p, hp, rfl⟩ := pz d hd
    obtain ⟨q, hq, e⟩ := fit hp
    exact ⟨_, q.d, rfl, by simp only [e_sSeq, e_sIf, e_sSet, e_sPar, e_sAsg, e_sRaise, e_xTest, e_xOp, e_xUn, e_xCB, e_xCall, e_xCons, e_xNil, e_xIf, e_xAnd, e_xOr, e_xNot, e_xAndV, e_xOrV, e_xNotV, e_xSl, e_xPart, e_xNo, e_asI, e_v0, e_v1, e_v2, e_v3, e_v4, e_v5, e_v6, e_v7, e_v8, e_xC, R.bind_ok, R.bind_exc, o_int, o_neg, o_sub, o_add, o_gt, o_lt, o_le, o_ge, e_asB, e_xS_ok, e_xS_exc, e_sNx, e_nx, e_rt, e_ex, e_sRet, e_xTup, e_xLst, small_ok, List.length_cons, List.length_nil, Nat.reduceAdd, Nat.reduceLeDiff, Nat.zero_le, if_true, if_false, Bool.false_eq_true, o_ixt, o_ixl, outR_nx, outR_rt, outR_ex, List.set_cons_succ, List.set_cons_zero, e_gT, e_gsCons, e_gsNil, e_gN, R.ofO, Bool.not_true, Bool.not_false, e], q, hq, rfl⟩
  obtain ⟨ps, eps, hps⟩ := of_all (f := Pl.d) (P := Pl.Fit) (ys := ws) fun y hy => let ⟨_, _, h⟩ := pw y hy; h
  rw [List.length_nil, Nat.add_zero] at lz
  have hws : small (ps.map Pl.d).length = true := by rw [← eps]; exact small_ok (by omega)
  refine ⟨ps, ?_, hps, ?_⟩
  · have := congrArg List.length eps
    rw [List.length_map] at this
    omega
  · simp only [e_sSeq, e_sIf, e_sSet, e_sPar, e_sAsg, e_sRaise, e_xTest, e_xOp, e_xUn, e_xCB, e_xCall, e_xCons, e_xNil, e_xIf, e_xAnd, e_xOr, e_xNot, e_xAndV, e_xOrV, e_xNotV, e_xSl, e_xPart, e_xNo, e_asI, e_v0, e_v1, e_v2, e_v3, e_v4, e_v5, e_v6, e_v7, e_v8, e_xC, R.bind_ok, R.bind_exc, o_int, o_neg, o_sub, o_add, o_gt, o_lt, o_le, o_ge, e_asB, e_xS_ok, e_xS_exc, e_sNx, e_nx, e_rt, e_ex, e_sRet, e_xTup, e_xLst, small_ok, List.length_cons, List.length_nil, Nat.reduceAdd, Nat.reduceLeDiff, Nat.zero_le, if_true, if_false, Bool.false_eq_true, o_ixt, o_ixl, outR_nx, outR_rt, outR_ex, List.set_cons_succ, List.set_cons_zero, e_gT, e_gsCons, e_gsNil, e_gN, R.ofO, Bool.not_true, Bool.not_false, e_sFz, e_frz1, e_lc, e_lcs, e_xSrc, asAny, e_wc, e_wn, ew, hws, eps]

/-! ### equality -/
theorem valid {p : Pl} (h : p.Fit) (hf : p.isF = true) : ∃ (x y : Str) (is : List Int), p.a = .str x ∧ p.b = .str y ∧ p.cs = is.map DV.int ∧ PyData.canLay0 (.str x) = true ∧ PyData.canLay0 (.str y) = true := by
  unfold Pl.isF okNs at hf
  simp only [Bool.and_eq_true] at hf
  obtain ⟨x, ex, gx⟩ := good h.a hf.1
  obtain ⟨y, ey, gy⟩ := good h.b hf.2.1
  have key : ∀ (cs : List DV) (l : Int), cs.all (ct l) = true → ∃ is : List Int, cs = is.map DV.int := by
    intro cs l
    induction cs with
    | nil => intro _; exact ⟨[], rfl⟩
    | cons c cs ih =>
      intro hc
      simp only [List.all_cons, Bool.and_eq_true] at hc
      obtain ⟨is, rfl⟩ := ih hc.2
      cases c with
      | int i => exact ⟨i :: is, rfl⟩
      | _ => cases hc.1
  obtain ⟨is, e⟩ := key p.cs (lo p.k) hf.2.2.2.1
  exact ⟨x, y, is, ex, ey, e, gx, gy⟩
theorem eq_pair {x y z w : Str} (hx : PyData.canLay0 (.str x) = true) (hy : PyData.canLay0 (.str y) = true) (hz : PyData.canLay0 (.str z) = true) (hw : PyData.canLay0 (.str w) = true) (neg : Bool) :
    oEqW neg (.tup [.str x, .str y]) (.tup [.str z, .str w]) = .ok (.bl (if neg then !((x == z) && (y == w)) else (x == z) && (y == w))) := by
  have s1 : SeqAt.shaped (.tuple [.str x, .str y]) = true := by
    unfold SeqAt.shaped
    simp [PyData.canLay0, PyData.canLayAll0, PyData.depth, PyData.depthAll] at hx hy ⊢
    exact ⟨hx, hy⟩
  have s2 : SeqAt.shaped (.tuple [.str z, .str w]) = true := by
    unfold SeqAt.shaped
    simp [PyData.canLay0, PyData.canLayAll0, PyData.depth, PyData.depthAll] at hz hw ⊢
    exact ⟨hz, hw⟩
  show (if (SeqAt.shaped (.tuple [.str x, .str y]) && SeqAt.shaped (.tuple [.str z, .str w])) = true then _ else _) = _
  rw [s1, s2]
  simp [PyData.eqv, PyData.eqvAll]
theorem shaped_tup (is : List Int) : SeqAt.shaped (.tuple (is.map PyData.int)) = true := by
  unfold SeqAt.shaped
  rw [Bool.and_eq_true]
  refine ⟨by show PyData.canLayAll0 _ = true; exact canAll_ints is, decide_eq_true ?_⟩
  show PyData.depthAll _ + 1 ≤ 64
  have := depth_ints is
  omega
def eqI (is js : List Int) : Bool := PyData.eqvAll (is.map PyData.int) (js.map PyData.int)
theorem eqI_self : ∀ is : List Int, eqI is is = true
  | [] => rfl
  | i :: is => by
    show ((i == i) && eqI is is) = true
    rw [eqI_self is]; simp
theorem eq_nums (is js : List Int) (neg : Bool) : oEqW neg (.tup (is.map DV.int)) (.tup (js.map DV.int)) = .ok (.bl (if neg then !eqI is js else eqI is js)) := by
  have e1 : ∀ is : List Int, toPy (.tup (is.map DV.int)) = some (.tuple (is.map PyData.int)) := fun is => by
    show (toPys _).map _ = _
    rw [toPys_ints]; rfl
  unfold oEqW
  rw [e1, e1]
  dsimp only
  rw [shaped_tup, shaped_tup]
  rfl
theorem eq_plain {k k' : Int} {x y z w : Str} {is js : List Int} (hx : PyData.canLay0 (.str x) = true) (hy : PyData.canLay0 (.str y) = true) (hz : PyData.canLay0 (.str z) = true) (hw : PyData.canLay0 (.str w) = true) :
    oEq (.tup [.int k, .str x, .str y, .tup (is.map DV.int)]) (.tup [.int k', .str z, .str w, .tup (js.map DV.int)]) = .ok (.bl ((k == k') && ((x == z) && ((y == w) && eqI is js)))) := by
  have e1 : ∀ (k : Int) (x y : Str) (is : List Int), toPy (.tup [.int k, .str x, .str y, .tup (is.map DV.int)]) = some (.tuple [.int k, .str x, .str y, .tuple (is.map PyData.int)]) := fun k x y is => by
    simp only [toPy, toPys, toPys_ints, Option.map_some]
  have s : ∀ (k : Int) (x y : Str) (is : List Int), PyData.canLay0 (.str x) = true → PyData.canLay0 (.str y) = true → SeqAt.shaped (.tuple [.int k, .str x, .str y, .tuple (is.map PyData.int)]) = true := fun k x y is hx hy => by
    unfold SeqAt.shaped
    have d := depth_ints is
    have c := canAll_ints is
    simp only [PyData.canLay0, PyData.canLayAll0, PyData.depth, PyData.depthAll, Bool.and_eq_true, decide_eq_true_eq] at hx hy ⊢
    refine ⟨⟨trivial, hx, hy, c, trivial⟩, ?_⟩
    simp [PyData.depth, PyData.depthAll]
    omega
  unfold oEq oEqW
  rw [e1, e1]
  dsimp only
  rw [s k x y is hx hy, s k' z w js hz hw]
  simp [PyData.eqv, PyData.eqvAll, eqI]
theorem cl_in {p : Pl} : (["After", "Within", "Close"] : List Str).contains p.cl = true := by
  unfold Pl.cl
  by_cases h : p.k = 0
  · rw [if_pos h]; decide
  · rw [if_neg h]
    by_cases h : p.k = 2
    · rw [if_pos h]; decide
    · rw [if_neg h]; decide

theorem eqF {p q : Pl} (hp : p.Fit) (hq : q.Fit) (fp : p.isF = true) (fq : q.isF = true) : ∃ b, oEqO ["After", "Within", "Close"] m_Fact_eq p.fact q.fact = .ok (.bl b) ∧ oEq p.d q.d = .ok (.bl b) := by
  obtain ⟨x, y, is, hx, hy, hi, cx, cy⟩ := valid hp fp
  obtain ⟨z, w, js, hz, hw, hj, cz, cw⟩ := valid hq fq
  have kp := hp.k
  have kq := hq.k
  unfold Pl.fact
  rw [if_pos fp, if_pos fq]
  unfold Pl.d
  rw [hx, hy, hi, hz, hw, hj, eq_plain cx cy cz cw]
  refine ⟨_, ?_, rfl⟩
  have ew1 := eq_pair cx cy cz cw false
  have ew2 := eq_nums is js false
  have e : m_Fact_eq [.obj p.cl [("pair", .tup [.str x, .str y]), ("bounds", .tup (is.map DV.int))], .obj q.cl [("pair", .tup [.str z, .str w]), ("bounds", .tup (js.map DV.int))]] = .ok (.bl ((p.k == q.k) && ((x == z) && ((y == w) && eqI is js)))) := by
    rw [show ∀ a b, m_Fact_eq [a, b] = outR (F_Fact_eq [.pu a, .pu b]) from fun _ _ => rfl]
    have k1 : ∀ {c : Str} {fs : List (Str × DV)} {d : DV}, (["After", "Within", "Close"] : List Str).contains c = true → fs.lookup ("pair" : Str) = some d → xFld ["After", "Within", "Close"] "pair" (xVar 0) [.pu (.obj c fs)] = .ok d := fun {c fs d} hc hl => by
      show (if _ then R.ofO (fs.lookup _) else .bad) = _
      rw [if_pos hc, hl]; rfl
    unfold Pl.cl
    have same : ∀ c : Str, c = "After" ∨ c = "Within" ∨ c = "Close" → outR (F_Fact_eq [.pu (.obj c [("pair", .tup [.str x, .str y]), ("bounds", .tup (is.map DV.int))]), .pu (.obj c [("pair", .tup [.str z, .str w]), ("bounds", .tup (js.map DV.int))])]) = .ok (.bl ((x == z) && ((y == w) && eqI is js))) := fun c hc => by
      have e0 : outR (F_Fact_eq [.pu (.obj c [("pair", .tup [.str x, .str y]), ("bounds", .tup (is.map DV.int))]), .pu (.obj c [("pair", .tup [.str z, .str w]), ("bounds", .tup (js.map DV.int))])]) =
          outR (xS ((oEqW false (.tup [.str x, .str y]) (.tup [.str z, .str w])).bind fun v => (asB v).bind fun t => if t = true then oEqW false (.tup (is.map DV.int)) (.tup (js.map DV.int)) else .ok (.bl false)) [.pu (.obj c [("pair", .tup [.str x, .str y]), ("bounds", .tup (is.map DV.int))]), .pu (.obj c [("pair", .tup [.str z, .str w]), ("bounds", .tup (js.map DV.int))])] .rt) := by
        rcases hc with rfl | rfl | rfl <;> kernel_rfl
      rw [e0, ew1, ew2]
      simp only [R.bind_ok, e_asB, if_false, Bool.false_eq_true]
      cases x == z <;> cases y == w <;> rfl
    rcases kp with h1 | h1 | h1 <;> rcases kq with h2 | h2 | h2 <;> rw [h1, h2]
    · exact same "After" (.inl rfl)
    · kernel_rfl
    · kernel_rfl
    · kernel_rfl
    · exact same "Within" (.inr (.inl rfl))
    · kernel_rfl
    · kernel_rfl
    · kernel_rfl
    · exact same "Close" (.inr (.inr rfl))
  show (if _ then _ else _) = _
  rw [if_pos (by rw [cl_in, cl_in]; rfl), e]

/-! ### the law -/
theorem fact_non {p : Pl} (h : p.isF = false) : p.fact = .non := by unfold Pl.fact; rw [h]; rfl
theorem names_ev {p : Pl} (h : p.isF = true) : (xProps ["After", "Within", "Close"] m_Fact_names (xC p.fact)) [] = .ok (.tup [p.a, p.b]) := by
  unfold Pl.fact
  rw [if_pos h]
  show (if _ then noX (m_Fact_names [_]) else .bad) = _
  rw [if_pos cl_in]
  rw [show ∀ a, m_Fact_names [a] = outR (F_Fact_names [.pu a]) from fun _ => rfl]
  show noX (outR (xS (if _ then R.ofO _ else .bad) _ _)) = _
  rw [if_pos cl_in]
  rfl
theorem numbers_ev {p : Pl} (h : p.isF = true) : (xProps ["After", "Within", "Close"] m_Fact_numbers (xC p.fact)) [] = .ok (.tup p.cs) := by
  unfold Pl.fact
  rw [if_pos h]
  show (if _ then noX (m_Fact_numbers [_]) else .bad) = _
  rw [if_pos cl_in]
  rw [show ∀ a, m_Fact_numbers [a] = outR (F_Fact_numbers [.pu a]) from fun _ => rfl]
  show noX (outR (xS (if _ then R.ofO _ else .bad) _ _)) = _
  rw [if_pos cl_in]
  rfl
theorem isi_fact {p : Pl} (h : p.isF = true) : oIsi T3 p.fact = .ok (.bl true) := by
  unfold Pl.fact Pl.cl
  rw [if_pos h]
  by_cases h : p.k = 0
  · rw [if_pos h]; rfl
  · rw [if_neg h]
    by_cases h : p.k = 2
    · rw [if_pos h]; rfl
    · rw [if_neg h]; rfl
theorem isN_ev {p : Pl} : oIsN p.fact .non = .ok (.bl (!p.isF)) := by
  unfold Pl.fact
  cases p.isF <;> rfl
theorem notN_ev {p : Pl} : oNotN p.fact .non = .ok (.bl p.isF) := by
  unfold Pl.fact
  cases p.isF <;> rfl
theorem body1 {p : Pl} (h : p.Fit) {s0 s1 s2 t5 t6 t7 t8 : Sl} : B_law_1 [s0, s1, s2, .pu p.d, .pu p.fact, t5, t6, t7, t8] = .nx [s0, s1, s2, .pu p.d, .pu p.fact, t5, t6, t7, t8] := by
  unfold B_law_1
  have e1 := isF h
  simp only [e_sSeq, e_sIf, e_sSet, e_sPar, e_sAsg, e_sRaise, e_xTest, e_xOp, e_xUn, e_xCB, e_xCall, e_xCons, e_xNil, e_xIf, e_xAnd, e_xOr, e_xNot, e_xAndV, e_xOrV, e_xNotV, e_xSl, e_xPart, e_xNo, e_asI, e_v0, e_v1, e_v2, e_v3, e_v4, e_v5, e_v6, e_v7, e_v8, e_xC, R.bind_ok, R.bind_exc, o_int, o_neg, o_sub, o_add, o_gt, o_lt, o_le, o_ge, e_asB, e_xS_ok, e_xS_exc, e_sNx, e_nx, e_rt, e_ex, e_sRet, e_xTup, e_xLst, small_ok, List.length_cons, List.length_nil, Nat.reduceAdd, Nat.reduceLeDiff, Nat.zero_le, if_true, if_false, Bool.false_eq_true, o_ixt, o_ixl, outR_nx, outR_rt, outR_ex, List.set_cons_succ, List.set_cons_zero, e_gT, e_gsCons, e_gsNil, e_gN, R.ofO, Bool.not_true, Bool.not_false, isN_ev, notN_ev, e1, o_eqb]
  cases hf : p.isF with
  | false => simp only [e_sSeq, e_sIf, e_sSet, e_sPar, e_sAsg, e_sRaise, e_xTest, e_xOp, e_xUn, e_xCB, e_xCall, e_xCons, e_xNil, e_xIf, e_xAnd, e_xOr, e_xNot, e_xAndV, e_xOrV, e_xNotV, e_xSl, e_xPart, e_xNo, e_asI, e_v0, e_v1, e_v2, e_v3, e_v4, e_v5, e_v6, e_v7, e_v8, e_xC, R.bind_ok, R.bind_exc, o_int, o_neg, o_sub, o_add, o_gt, o_lt, o_le, o_ge, e_asB, e_xS_ok, e_xS_exc, e_sNx, e_nx, e_rt, e_ex, e_sRet, e_xTup, e_xLst, small_ok, List.length_cons, List.length_nil, Nat.reduceAdd, Nat.reduceLeDiff, Nat.zero_le, if_true, if_false, Bool.false_eq_true, o_ixt, o_ixl, outR_nx, outR_rt, outR_ex, List.set_cons_succ, List.set_cons_zero, e_gT, e_gsCons, e_gsNil, e_gN, R.ofO, Bool.not_true, Bool.not_false, show (true == false) = false from rfl, notN_ev, hf]
  | true =>
    obtain ⟨x, y, is, hx, hy, hi, cx, cy⟩ := valid h hf
    have en : (xProps ["After", "Within", "Close"] m_Fact_names (xVar 4)) [s0, s1, s2, .pu p.d, .pu p.fact, t5, t6, t7, t8] = .ok (.tup [p.a, p.b]) := names_ev hf
    have em : (xProps ["After", "Within", "Close"] m_Fact_numbers (xVar 4)) [s0, s1, s2, .pu p.d, .pu p.fact, t5, t6, t7, t8] = .ok (.tup p.cs) := numbers_ev hf
    have es : oSl p.d (some 1) (some 3) = .ok (.tup [p.a, p.b]) := rfl
    have ei : oIx p.d (.int 3) = .ok (.tup p.cs) := rfl
    have q1 : oNe (.tup [p.a, p.b]) (.tup [p.a, p.b]) = .ok (.bl false) := by
      rw [hx, hy]
      have := eq_pair cx cy cx cy true
      simp only [beq_self_eq_true, Bool.and_self, if_true, Bool.not_true] at this
      exact this
    have q2 : oNe (.tup p.cs) (.tup p.cs) = .ok (.bl false) := by
      rw [hi]
      have := eq_nums is is true
      simp only [eqI_self, if_true, Bool.not_true] at this
      exact this
    simp only [e_sSeq, e_sIf, e_sSet, e_sPar, e_sAsg, e_sRaise, e_xTest, e_xOp, e_xUn, e_xCB, e_xCall, e_xCons, e_xNil, e_xIf, e_xAnd, e_xOr, e_xNot, e_xAndV, e_xOrV, e_xNotV, e_xSl, e_xPart, e_xNo, e_asI, e_v0, e_v1, e_v2, e_v3, e_v4, e_v5, e_v6, e_v7, e_v8, e_xC, R.bind_ok, R.bind_exc, o_int, o_neg, o_sub, o_add, o_gt, o_lt, o_le, o_ge, e_asB, e_xS_ok, e_xS_exc, e_sNx, e_nx, e_rt, e_ex, e_sRet, e_xTup, e_xLst, small_ok, List.length_cons, List.length_nil, Nat.reduceAdd, Nat.reduceLeDiff, Nat.zero_le, if_true, if_false, Bool.false_eq_true, o_ixt, o_ixl, outR_nx, outR_rt, outR_ex, List.set_cons_succ, List.set_cons_zero, e_gT, e_gsCons, e_gsNil, e_gN, R.ofO, Bool.not_true, Bool.not_false, show (false == true) = false from rfl, notN_ev, hf, e_xIsi, isi_fact hf, en, em, es, ei, q1, q2]
theorem body2 {p q : Pl} (hp : p.Fit) (hq : q.Fit) {s0 s1 s2 t3 t4 : Sl} : B_law_2 [s0, s1, s2, t3, t4, .pu p.d, .pu p.fact, .pu q.d, .pu q.fact] = .nx [s0, s1, s2, t3, t4, .pu p.d, .pu p.fact, .pu q.d, .pu q.fact] := by
  unfold B_law_2
  simp only [e_sSeq, e_sIf, e_sSet, e_sPar, e_sAsg, e_sRaise, e_xTest, e_xOp, e_xUn, e_xCB, e_xCall, e_xCons, e_xNil, e_xIf, e_xAnd, e_xOr, e_xNot, e_xAndV, e_xOrV, e_xNotV, e_xSl, e_xPart, e_xNo, e_asI, e_v0, e_v1, e_v2, e_v3, e_v4, e_v5, e_v6, e_v7, e_v8, e_xC, R.bind_ok, R.bind_exc, o_int, o_neg, o_sub, o_add, o_gt, o_lt, o_le, o_ge, e_asB, e_xS_ok, e_xS_exc, e_sNx, e_nx, e_rt, e_ex, e_sRet, e_xTup, e_xLst, small_ok, List.length_cons, List.length_nil, Nat.reduceAdd, Nat.reduceLeDiff, Nat.zero_le, if_true, if_false, Bool.false_eq_true, o_ixt, o_ixl, outR_nx, outR_rt, outR_ex, List.set_cons_succ, List.set_cons_zero, e_gT, e_gsCons, e_gsNil, e_gN, R.ofO, Bool.not_true, Bool.not_false, notN_ev]
  cases fp : p.isF with
  | false => simp only [e_sSeq, e_sIf, e_sSet, e_sPar, e_sAsg, e_sRaise, e_xTest, e_xOp, e_xUn, e_xCB, e_xCall, e_xCons, e_xNil, e_xIf, e_xAnd, e_xOr, e_xNot, e_xAndV, e_xOrV, e_xNotV, e_xSl, e_xPart, e_xNo, e_asI, e_v0, e_v1, e_v2, e_v3, e_v4, e_v5, e_v6, e_v7, e_v8, e_xC, R.bind_ok, R.bind_exc, o_int, o_neg, o_sub, o_add, o_gt, o_lt, o_le, o_ge, e_asB, e_xS_ok, e_xS_exc, e_sNx, e_nx, e_rt, e_ex, e_sRet, e_xTup, e_xLst, small_ok, List.length_cons, List.length_nil, Nat.reduceAdd, Nat.reduceLeDiff, Nat.zero_le, if_true, if_false, Bool.false_eq_true, o_ixt, o_ixl, outR_nx, outR_rt, outR_ex, List.set_cons_succ, List.set_cons_zero, e_gT, e_gsCons, e_gsNil, e_gN, R.ofO, Bool.not_true, Bool.not_false]
  | true =>
    cases fq : q.isF with
    | false => simp only [e_sSeq, e_sIf, e_sSet, e_sPar, e_sAsg, e_sRaise, e_xTest, e_xOp, e_xUn, e_xCB, e_xCall, e_xCons, e_xNil, e_xIf, e_xAnd, e_xOr, e_xNot, e_xAndV, e_xOrV, e_xNotV, e_xSl, e_xPart, e_xNo, e_asI, e_v0, e_v1, e_v2, e_v3, e_v4, e_v5, e_v6, e_v7, e_v8, e_xC, R.bind_ok, R.bind_exc, o_int, o_neg, o_sub, o_add, o_gt, o_lt, o_le, o_ge, e_asB, e_xS_ok, e_xS_exc, e_sNx, e_nx, e_rt, e_ex, e_sRet, e_xTup, e_xLst, small_ok, List.length_cons, List.length_nil, Nat.reduceAdd, Nat.reduceLeDiff, Nat.zero_le, if_true, if_false, Bool.false_eq_true, o_ixt, o_ixl, outR_nx, outR_rt, outR_ex, List.set_cons_succ, List.set_cons_zero, e_gT, e_gsCons, e_gsNil, e_gN, R.ofO, Bool.not_true, Bool.not_false, notN_ev, fq]
    | true =>
      obtain ⟨b, e1, e2⟩ := eqF hp hq fp fq
      simp only [e_sSeq, e_sIf, e_sSet, e_sPar, e_sAsg, e_sRaise, e_xTest, e_xOp, e_xUn, e_xCB, e_xCall, e_xCons, e_xNil, e_xIf, e_xAnd, e_xOr, e_xNot, e_xAndV, e_xOrV, e_xNotV, e_xSl, e_xPart, e_xNo, e_asI, e_v0, e_v1, e_v2, e_v3, e_v4, e_v5, e_v6, e_v7, e_v8, e_xC, R.bind_ok, R.bind_exc, o_int, o_neg, o_sub, o_add, o_gt, o_lt, o_le, o_ge, e_asB, e_xS_ok, e_xS_exc, e_sNx, e_nx, e_rt, e_ex, e_sRet, e_xTup, e_xLst, small_ok, List.length_cons, List.length_nil, Nat.reduceAdd, Nat.reduceLeDiff, Nat.zero_le, if_true, if_false, Bool.false_eq_true, o_ixt, o_ixl, outR_nx, outR_rt, outR_ex, List.set_cons_succ, List.set_cons_zero, e_gT, e_gsCons, e_gsNil, e_gN, R.ofO, Bool.not_true, Bool.not_false, notN_ev, fq, e1, e2, o_neb, beq_self_eq_true]
theorem math (ns : List Int) (hl : ns.length ≤ 63) : m_law [scr ns] = .ok (.bl true) := by
  obtain ⟨ps, hz, hps, e⟩ := plains (ns := ns)
  have em : lcD (gN 3) xYes (xCall m__law_made (xCons (xVar 3) (xNil))) [.pu (scr ns), .pu (.lst (ps.map Pl.d)), .un, .un, .un, .un, .un, .un, .un] (ps.map Pl.d) = .ok (ps.map Pl.fact) := by
    have key : ∀ qs : List Pl, (∀ p ∈ qs, p.Fit) → lcD (gN 3) xYes (xCall m__law_made (xCons (xVar 3) (xNil))) [.pu (scr ns), .pu (.lst (ps.map Pl.d)), .un, .un, .un, .un, .un, .un, .un] (qs.map Pl.d) = .ok (qs.map Pl.fact) := by
      intro qs
      induction qs with
      | nil => intro _; rfl
      | cons q qs ih =>
        intro hq
        have e0 := made (hq q List.mem_cons_self)
        show lcD _ _ _ _ (q.d :: qs.map Pl.d) = _
        unfold lcD
        simp only [e_sSeq, e_sIf, e_sSet, e_sPar, e_sAsg, e_sRaise, e_xTest, e_xOp, e_xUn, e_xCB, e_xCall, e_xCons, e_xNil, e_xIf, e_xAnd, e_xOr, e_xNot, e_xAndV, e_xOrV, e_xNotV, e_xSl, e_xPart, e_xNo, e_asI, e_v0, e_v1, e_v2, e_v3, e_v4, e_v5, e_v6, e_v7, e_v8, e_xC, R.bind_ok, R.bind_exc, o_int, o_neg, o_sub, o_add, o_gt, o_lt, o_le, o_ge, e_asB, e_xS_ok, e_xS_exc, e_sNx, e_nx, e_rt, e_ex, e_sRet, e_xTup, e_xLst, small_ok, List.length_cons, List.length_nil, Nat.reduceAdd, Nat.reduceLeDiff, Nat.zero_le, if_true, if_false, Bool.false_eq_true, o_ixt, o_ixl, outR_nx, outR_rt, outR_ex, List.set_cons_succ, List.set_cons_zero, e_gT, e_gsCons, e_gsNil, e_gN, R.ofO, Bool.not_true, Bool.not_false, noX, e_xYes, e0]
        rw [ih fun p hp => hq p (List.mem_cons_of_mem _ hp)]
        rfl
    exact key ps hps
  have hs : small (ps.map Pl.fact).length = true := small_ok (by rw [List.length_map]; omega)
  have hzip : asZip [.lst (ps.map Pl.d), .lst (ps.map Pl.fact)] = .ok (ps.map fun p => .tup [p.d, p.fact]) := by
    show R.ok (zipD _ _) = _
    rw [zip_map]
  have mem : ∀ d ∈ ps.map (fun p => DV.tup [p.d, p.fact]), ∃ p : Pl, p.Fit ∧ d = .tup [p.d, p.fact] := fun d hd => by
    obtain ⟨p, hp, rfl⟩ := List.mem_map.mp hd
    exact ⟨p, hps p hp, rfl⟩
  rw [show m_law [scr ns] = outR (F_law [.pu (scr ns), .un, .un, .un, .un, .un, .un, .un, .un]) from rfl]
  unfold F_law
  simp only [e_sSeq, e_sIf, e_sSet, e_sPar, e_sAsg, e_sRaise, e_xTest, e_xOp, e_xUn, e_xCB, e_xCall, e_xCons, e_xNil, e_xIf, e_xAnd, e_xOr, e_xNot, e_xAndV, e_xOrV, e_xNotV, e_xSl, e_xPart, e_xNo, e_asI, e_v0, e_v1, e_v2, e_v3, e_v4, e_v5, e_v6, e_v7, e_v8, e_xC, R.bind_ok, R.bind_exc, o_int, o_neg, o_sub, o_add, o_gt, o_lt, o_le, o_ge, e_asB, e_xS_ok, e_xS_exc, e_sNx, e_nx, e_rt, e_ex, e_sRet, e_xTup, e_xLst, small_ok, List.length_cons, List.length_nil, Nat.reduceAdd, Nat.reduceLeDiff, Nat.zero_le, if_true, if_false, Bool.false_eq_true, o_ixt, o_ixl, outR_nx, outR_rt, outR_ex, List.set_cons_succ, List.set_cons_zero, e_gT, e_gsCons, e_gsNil, e_gN, R.ofO, Bool.not_true, Bool.not_false, e, e_sSetLc, e_lcs, e_xSrc, asAny, e_wc, e_wn, em, hs, e_sFor, e_xIt, hzip]
  -- the first loop
  obtain ⟨δ', e1, t3, t4, t5, t6, t7, t8, hδ, _⟩ := forD_inv (g := gT 2 (gsCons (gN 3) (gsCons (gN 4) (gsNil)))) (F := B_law_1) (fun ds δ => ∃ t3 t4 t5 t6 t7 t8, δ = [.pu (scr ns), .pu (.lst (ps.map Pl.d)), .pu (.lst (ps.map Pl.fact)), t3, t4, t5, t6, t7, t8] ∧ ∀ d ∈ ds, ∃ p : Pl, p.Fit ∧ d = .tup [p.d, p.fact])
    (fun d ds δ ⟨t3, t4, t5, t6, t7, t8, hδ, hd⟩ => by
      subst hδ
      obtain ⟨p, hp, rfl⟩ := hd d List.mem_cons_self
      exact ⟨_, _, rfl, body1 hp, _, _, _, _, _, _, rfl, fun d h => hd d (List.mem_cons_of_mem _ h)⟩)
    (ps.map fun p => .tup [p.d, p.fact]) _ ⟨_, _, _, _, _, _, rfl, mem⟩
  rw [e1]
  subst hδ
  simp only [e_sSeq, e_sIf, e_sSet, e_sPar, e_sAsg, e_sRaise, e_xTest, e_xOp, e_xUn, e_xCB, e_xCall, e_xCons, e_xNil, e_xIf, e_xAnd, e_xOr, e_xNot, e_xAndV, e_xOrV, e_xNotV, e_xSl, e_xPart, e_xNo, e_asI, e_v0, e_v1, e_v2, e_v3, e_v4, e_v5, e_v6, e_v7, e_v8, e_xC, R.bind_ok, R.bind_exc, o_int, o_neg, o_sub, o_add, o_gt, o_lt, o_le, o_ge, e_asB, e_xS_ok, e_xS_exc, e_sNx, e_nx, e_rt, e_ex, e_sRet, e_xTup, e_xLst, small_ok, List.length_cons, List.length_nil, Nat.reduceAdd, Nat.reduceLeDiff, Nat.zero_le, if_true, if_false, Bool.false_eq_true, o_ixt, o_ixl, outR_nx, outR_rt, outR_ex, List.set_cons_succ, List.set_cons_zero, e_gT, e_gsCons, e_gsNil, e_gN, R.ofO, Bool.not_true, Bool.not_false, e_sFor, e_xIt, hzip]
  -- the second
  obtain ⟨δ', e2, t3, t4, t5, t6, t7, t8, hδ, _⟩ := forD_inv (g := gT 2 (gsCons (gN 5) (gsCons (gN 6) (gsNil)))) (F := B_law_3) (fun ds δ => ∃ t3 t4 t5 t6 t7 t8, δ = [.pu (scr ns), .pu (.lst (ps.map Pl.d)), .pu (.lst (ps.map Pl.fact)), t3, t4, t5, t6, t7, t8] ∧ ∀ d ∈ ds, ∃ p : Pl, p.Fit ∧ d = .tup [p.d, p.fact])
    (fun d ds δ ⟨t3, t4, t5, t6, t7, t8, hδ, hd⟩ => by
      subst hδ
      obtain ⟨p, hp, rfl⟩ := hd d List.mem_cons_self
      obtain ⟨δ', e2, t7, t8, hδ, _⟩ := forD_inv (g := gT 2 (gsCons (gN 7) (gsCons (gN 8) (gsNil)))) (F := B_law_2) (fun ds δ => ∃ t7 t8, δ = [.pu (scr ns), .pu (.lst (ps.map Pl.d)), .pu (.lst (ps.map Pl.fact)), t3, t4, .pu p.d, .pu p.fact, t7, t8] ∧ ∀ d ∈ ds, ∃ p : Pl, p.Fit ∧ d = .tup [p.d, p.fact])
        (fun d ds δ ⟨t7, t8, hδ, hd⟩ => by
          subst hδ
          obtain ⟨q, hq, rfl⟩ := hd d List.mem_cons_self
          exact ⟨_, _, rfl, body2 hp hq, _, _, rfl, fun d h => hd d (List.mem_cons_of_mem _ h)⟩)
        (ps.map fun p => .tup [p.d, p.fact]) _ ⟨_, _, rfl, mem⟩
      subst hδ
      refine ⟨_, [.pu (scr ns), .pu (.lst (ps.map Pl.d)), .pu (.lst (ps.map Pl.fact)), t3, t4, .pu p.d, .pu p.fact, t7, t8], rfl, ?_, t3, t4, .pu p.d, .pu p.fact, t7, t8, rfl, fun d h => hd d (List.mem_cons_of_mem _ h)⟩
      unfold B_law_3
      simp only [e_sSeq, e_sIf, e_sSet, e_sPar, e_sAsg, e_sRaise, e_xTest, e_xOp, e_xUn, e_xCB, e_xCall, e_xCons, e_xNil, e_xIf, e_xAnd, e_xOr, e_xNot, e_xAndV, e_xOrV, e_xNotV, e_xSl, e_xPart, e_xNo, e_asI, e_v0, e_v1, e_v2, e_v3, e_v4, e_v5, e_v6, e_v7, e_v8, e_xC, R.bind_ok, R.bind_exc, o_int, o_neg, o_sub, o_add, o_gt, o_lt, o_le, o_ge, e_asB, e_xS_ok, e_xS_exc, e_sNx, e_nx, e_rt, e_ex, e_sRet, e_xTup, e_xLst, small_ok, List.length_cons, List.length_nil, Nat.reduceAdd, Nat.reduceLeDiff, Nat.zero_le, if_true, if_false, Bool.false_eq_true, o_ixt, o_ixl, outR_nx, outR_rt, outR_ex, List.set_cons_succ, List.set_cons_zero, e_gT, e_gsCons, e_gsNil, e_gN, R.ofO, Bool.not_true, Bool.not_false, e_sFor, e_xIt, hzip]
      exact e2)
    (ps.map fun p => .tup [p.d, p.fact]) _ ⟨_, _, _, _, _, _, rfl, mem⟩
  rw [e2]
  simp only [e_sSeq, e_sIf, e_sSet, e_sPar, e_sAsg, e_sRaise, e_xTest, e_xOp, e_xUn, e_xCB, e_xCall, e_xCons, e_xNil, e_xIf, e_xAnd, e_xOr, e_xNot, e_xAndV, e_xOrV, e_xNotV, e_xSl, e_xPart, e_xNo, e_asI, e_v0, e_v1, e_v2, e_v3, e_v4, e_v5, e_v6, e_v7, e_v8, e_xC, R.bind_ok, R.bind_exc, o_int, o_neg, o_sub, o_add, o_gt, o_lt, o_le, o_ge, e_asB, e_xS_ok, e_xS_exc, e_sNx, e_nx, e_rt, e_ex, e_sRet, e_xTup, e_xLst, small_ok, List.length_cons, List.length_nil, Nat.reduceAdd, Nat.reduceLeDiff, Nat.zero_le, if_true, if_false, Bool.false_eq_true, o_ixt, o_ixl, outR_nx, outR_rt, outR_ex, List.set_cons_succ, List.set_cons_zero, e_gT, e_gsCons, e_gsNil, e_gN, R.ofO, Bool.not_true, Bool.not_false]
end G40

set_option maxHeartbeats 0
namespace G40
open PySem PySem.Spec PyProof.Rows L2 LD
def looseN : List Str := ["TimeError", "InvalidFact", "LETTERS", "MAX_NAME", "MAX_TIME", "is_integer", "is_whole", "is_name", "Fact", "After", "Within", "Close", "_law_number", "_law_name", "_law_count", "_law_plain", "_law_is_name", "_law_is_count", "_law_is_fact", "_law_made", "_law_fit", "_law_plains"]
abbrev R : PySem.W.OpenRow := PySem.W.OpenLaw.row PySem.Challenge.rw_surelater_k40_whole_facts
abbrev hk : PySem.W.Hook := hookL PP 6 fa fn
def ob (s : PySem.W.SharedT) : AlL := obsLG PP 6 fa fn (HandSHeadRun.getT s)
theorem ob_eq (s : PySem.W.SharedT) : ob s = hk.obs s.abs := obsLG_eq (HandSHeadRun.getT_eq s)
theorem run (w : World) : HandSHeadRun.RunEq R (PySem.W.view R.prog [25]) hk ob 4000 looseN w := by
  intro os
  kernel_rfl
end G40

set_option maxHeartbeats 0
open PySem PySem.W PySem.Calls PyProof.Rows
theorem PySem.Challenge.cw_surelater_k40_whole_facts_holds : PySem.Challenge.rw_surelater_k40_whole_facts.Holds := by
  w_on; o_law
  refine HandSHeadRun.head_any (r := OpenLaw.row PySem.Challenge.rw_surelater_k40_whole_facts) (q := view (OpenLaw.row PySem.Challenge.rw_surelater_k40_whole_facts).prog [25]) (H := G40.hk) (ob := G40.ob) (M := 4000) (loose := G40.looseN) (d := HandSHeadRun.topDef (OpenLaw.row PySem.Challenge.rw_surelater_k40_whole_facts).prog 25) (kwd := []) G40.ob_eq
    (by kernel_rfl) (fun s => by kernel_rfl) G40.run (by kernel_rfl) (by kernel_rfl) (by kernel_rfl) (by rfl) (by first | assumption | decide +kernel) (by decide +kernel) ⟨rfl, rfl, rfl, rfl, rfl, by decide +kernel⟩ ?hw ?hc
  case hw => w_witness2
  case hc =>
    refine L2.walk_ofE (l := PySem.Challenge.rw_surelater_k40_whole_facts) (n := 63) (k := 8) (x := "_law_script") (CX := L2.CX0) rfl (by decide) (by kernel_rfl) ⟨rfl, by decide, by decide⟩ ?F (fun _ _ _ _ z => z)
    exact LD.law_F (l := PySem.Challenge.rw_surelater_k40_whole_facts) (fa := G40.fa) (fn := G40.fn) (i := G40.lawFact) (m := G40.m_law) (by rfl) (fun x => G40.ok_law x) (fun ns hl => G40.math ns hl) (by kernel_rfl)
