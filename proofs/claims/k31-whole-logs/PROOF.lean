import PyProof.Rows.All
import Wide.All
import OpenK.AllK
import Wide.FinOn
import HandS.ForMost
import HandS.ForExc
import HandS.HeadHook1
import HandS.HeadHook2
import HandS.IsInst
import HandS.Strs
import HandS.Wide
import HandS.TupAny
import HandS.Text
import HandS.Property
import HandS.Zip
import HandS.NestedK
import KE.KSuper
import HandS.Head2
import HandS.HeadEnd
import HandS.More
import HandS.DictComp
import HandS.Star
import HandS.Walk
import KE.KIndexOf
import KE.KCallOwn
import HandS.Style
import PyProof.InstNe
import HandS.GenList
import PySem.Challenge.RW_surelater_k31_whole_logs
import KE.KStateDown
import HandS.Head0
import HandS.Head1
set_option Elab.async false
set_option linter.all false
set_option maxRecDepth 100000
set_option maxHeartbeats 2000000
/-! Layer D, part A: Python values as plain data, how they lie in the heap, results, readings by functions. -/
namespace LD
open PySem PySem.Spec PyProof.Rows L2

/-! ### data -/
inductive DV where
  | non | bl (b : Bool) | int (i : Int) | str (x : Str)
  | tup (xs : List DV) | lst (xs : List DV)
  /-- a list that may only be read: the script -/
  | ro (xs : List DV)
  | dic (kvs : List (Key × DV)) | dit (kvs : List (List Key × DV))
  | obj (c : Str) (fs : List (Str × DV))
  deriving Inhabited

mutual
/-- v is d, told by the part G of the heap that no one changes any more -/
inductive DRep (K : PySem.W.Frag) (G : Hp) : V → DV → Prop
  | non : DRep K G .non .non
  | bl (b : Bool) : DRep K G (.bl b) (.bl b)
  | int (i : Int) : DRep K G (.int i) (.int i)
  | str (x : Str) : DRep K G (.str x) (.str x)
  | tup {a : Addr} {vs : List V} {ds : List DV} : G a = some (.tup vs) → DReps K G vs ds → DRep K G (.ref a) (.tup ds)
  | lst {a : Addr} {vs : List V} {ds : List DV} : G a = some (.lst vs) → DReps K G vs ds → DRep K G (.ref a) (.lst ds)
  | ro {a : Addr} {vs : List V} {ds : List DV} : SqL K G a vs → DReps K G vs ds → DRep K G (.ref a) (.ro ds)
  | dic {a : Addr} {o : Obj} {vs : List (Key × V)} {ds : List (Key × DV)} : G a = some (.frz o (.dK vs)) → KReps K G vs ds → DRep K G (.ref a) (.dic ds)
  | dit {a : Addr} {o : Obj} {vs : List (List Key × V)} {ds : List (List Key × DV)} : G a = some (.frz o (.dT vs)) → TReps K G vs ds → DRep K G (.ref a) (.dit ds)
  | obj {a dx : Addr} {c : Str} {vs : List (Str × V)} {ds : List (Str × DV)} : G a = some (.ins (He.ga K c) dx vs) → FReps K G vs ds → DRep K G (.ref a) (.obj c ds)
inductive DReps (K : PySem.W.Frag) (G : Hp) : List V → List DV → Prop
  | nil : DReps K G [] []
  | cons {v : V} {d : DV} {vs : List V} {ds : List DV} : DRep K G v d → DReps K G vs ds → DReps K G (v :: vs) (d :: ds)
inductive KReps (K : PySem.W.Frag) (G : Hp) : List (Key × V) → List (Key × DV) → Prop
  | nil : KReps K G [] []
  | cons {k : Key} {v : V} {d : DV} {vs : List (Key × V)} {ds : List (Key × DV)} : DRep K G v d → KReps K G vs ds → KReps K G ((k, v) :: vs) ((k, d) :: ds)
inductive TReps (K : PySem.W.Frag) (G : Hp) : List (List Key × V) → List (List Key × DV) → Prop
  | nil : TReps K G [] []
  | cons {k : List Key} {v : V} {d : DV} {vs : List (List Key × V)} {ds : List (List Key × DV)} : DRep K G v d → TReps K G vs ds → TReps K G ((k, v) :: vs) ((k, d) :: ds)
inductive FReps (K : PySem.W.Frag) (G : Hp) : List (Str × V) → List (Str × DV) → Prop
  | nil : FReps K G [] []
  | cons {k : Str} {v : V} {d : DV} {vs : List (Str × V)} {ds : List (Str × DV)} : DRep K G v d → FReps K G vs ds → FReps K G ((k, v) :: vs) ((k, d) :: ds)
end

theorem _root_.L2.SqT.same {K : PySem.W.Frag} {G G' : Hp} {a : Addr} {xs : List V} (e : Same G G') (h : SqT K G a xs) : SqT K G' a xs := by
  rcases h with (h | ⟨o, h⟩) | h
  · exact .inl (.inl (e _ _ h))
  · exact .inl (.inr ⟨o, e _ _ h⟩)
  · exact .inr h
section
variable {K : PySem.W.Frag} {G G' : Hp}
mutual
theorem DRep.mono (s : Same G G') : ∀ {v : V} {d : DV}, DRep K G v d → DRep K G' v d
  | _, _, .non => .non
  | _, _, .bl b => .bl b
  | _, _, .int i => .int i
  | _, _, .str x => .str x
  | _, _, .tup h r => .tup (s _ _ h) (DReps.mono s r)
  | _, _, .lst h r => .lst (s _ _ h) (DReps.mono s r)
  | _, _, .ro h r => .ro (Same.seq s h) (DReps.mono s r)
  | _, _, .dic h r => .dic (s _ _ h) (KReps.mono s r)
  | _, _, .dit h r => .dit (s _ _ h) (TReps.mono s r)
  | _, _, .obj h r => .obj (s _ _ h) (FReps.mono s r)
theorem DReps.mono (s : Same G G') : ∀ {v : List V} {d : List DV}, DReps K G v d → DReps K G' v d
  | _, _, .nil => .nil
  | _, _, .cons a b => .cons (DRep.mono s a) (DReps.mono s b)
theorem KReps.mono (s : Same G G') : ∀ {v : List (Key × V)} {d : List (Key × DV)}, KReps K G v d → KReps K G' v d
  | _, _, .nil => .nil
  | _, _, .cons a b => .cons (DRep.mono s a) (KReps.mono s b)
theorem TReps.mono (s : Same G G') : ∀ {v : List (List Key × V)} {d : List (List Key × DV)}, TReps K G v d → TReps K G' v d
  | _, _, .nil => .nil
  | _, _, .cons a b => .cons (DRep.mono s a) (TReps.mono s b)
theorem FReps.mono (s : Same G G') : ∀ {v : List (Str × V)} {d : List (Str × DV)}, FReps K G v d → FReps K G' v d
  | _, _, .nil => .nil
  | _, _, .cons a b => .cons (DRep.mono s a) (FReps.mono s b)
end
theorem DReps.length : ∀ {vs : List V} {ds : List DV}, DReps K G vs ds → vs.length = ds.length
  | _, _, .nil => rfl
  | _, _, .cons _ b => by rw [List.length_cons, List.length_cons, b.length]
theorem DReps.get : ∀ {vs : List V} {ds : List DV} {i : Nat} {d : DV}, DReps K G vs ds → ds[i]? = some d → ∃ v, vs[i]? = some v ∧ DRep K G v d
  | _, _, _, _, .nil, e => by simp at e
  | _, _, 0, _, .cons r _, e => by simp at e; subst e; exact ⟨_, rfl, r⟩
  | _, _, i + 1, d, .cons _ t, e => by
    obtain ⟨u, h1, h2⟩ := DReps.get (i := i) (d := d) t (by simpa using e)
    exact ⟨u, by simpa using h1, h2⟩
theorem DReps.get' : ∀ {vs : List V} {ds : List DV} {i : Nat} {v : V}, DReps K G vs ds → vs[i]? = some v → ∃ d, ds[i]? = some d ∧ DRep K G v d
  | _, _, _, _, .nil, e => by simp at e
  | _, _, 0, _, .cons r _, e => by simp at e; subst e; exact ⟨_, rfl, r⟩
  | _, _, i + 1, d, .cons _ t, e => by
    obtain ⟨u, h1, h2⟩ := DReps.get' (i := i) (v := d) t (by simpa using e)
    exact ⟨u, by simpa using h1, h2⟩
theorem DReps.append : ∀ {vs ws : List V} {ds es : List DV}, DReps K G vs ds → DReps K G ws es → DReps K G (vs ++ ws) (ds ++ es)
  | _, _, _, _, .nil, s => s
  | _, _, _, _, .cons r t, s => .cons r (DReps.append t s)
theorem DReps.take : ∀ {vs : List V} {ds : List DV} (n : Nat), DReps K G vs ds → DReps K G (vs.take n) (ds.take n)
  | _, _, 0, _ => .nil
  | _, _, _ + 1, .nil => .nil
  | _, _, n + 1, .cons r t => .cons r (DReps.take n t)
theorem DReps.drop : ∀ {vs : List V} {ds : List DV} (n : Nat), DReps K G vs ds → DReps K G (vs.drop n) (ds.drop n)
  | _, _, 0, r => r
  | _, _, _ + 1, .nil => .nil
  | _, _, n + 1, .cons _ t => DReps.drop n t
theorem DReps.ints : ∀ (ns : List Int), DReps K G (ns.map V.int) (ns.map DV.int)
  | [] => .nil
  | n :: ns => .cons (.int n) (DReps.ints ns)
theorem FReps.length : ∀ {vs : List (Str × V)} {ds : List (Str × DV)}, FReps K G vs ds → vs.length = ds.length
  | _, _, .nil => rfl
  | _, _, .cons _ b => by rw [List.length_cons, List.length_cons, b.length]
theorem FReps.lookup {f : Str} : ∀ {vs : List (Str × V)} {ds : List (Str × DV)} {d : DV}, FReps K G vs ds → ds.lookup f = some d → ∃ v, vs.lookup f = some v ∧ DRep K G v d
  | _, _, _, .nil, e => by simp at e
  | _, _, d, .cons (k := k) r t, e => by
    rw [List.lookup_cons] at e ⊢
    cases h : f == k with
    | true => rw [h] at e; simp at e; subst e; exact ⟨_, rfl, r⟩
    | false => rw [h] at e; exact FReps.lookup t e
theorem FReps.none {f : Str} : ∀ {vs : List (Str × V)} {ds : List (Str × DV)}, FReps K G vs ds → ds.lookup f = none → vs.lookup f = none
  | _, _, .nil, _ => rfl
  | _, _, .cons (k := k) r t, e => by
    rw [List.lookup_cons] at e ⊢
    cases h : f == k with
    | true => rw [h] at e; simp at e
    | false => rw [h] at e; exact FReps.none t e
end

/-! ### what changes: objects are made; the rest stands -/
structure Tr (G H G' H' : Hp) : Prop where
  sm : Same H H'
  gg : Same G G'
  gh : Same G' H'
  nw : ∀ a, H a ≠ none → G' a = G a
section
variable {G H G' H' G2 H2 : Hp}
theorem Tr.refl (h : Same G H) : Tr G H G H := ⟨Same.refl _, Same.refl _, h, fun _ _ => rfl⟩
theorem Tr.trans (a : Tr G H G' H') (b : Tr G' H' G2 H2) : Tr G H G2 H2 := ⟨a.sm.trans b.sm, a.gg.trans b.gg, b.gh, fun c hc => by
  have hc' : H' c ≠ none := by
    cases q : H c with
    | none => exact absurd q hc
    | some o => rw [a.sm c o q]; simp
  rw [b.nw c hc', a.nw c hc]⟩
theorem _root_.L2.Same.upd {H : Hp} {p : Addr} {o : HO} (h : H p = none) : Same H (upd H p o) := fun a u e => by rw [upd_ne (ne_of_none e h)]; exact e
theorem _root_.L2.Same.none {G H : Hp} (s : Same G H) {p : Addr} (h : H p = none) : G p = none := by
  cases q : G p with
  | none => rfl
  | some o => rw [s p o q] at h; cases h
/-- a new object, to be changed by no one -/
theorem Tr.new (h : Same G H) {p : Addr} (o : HO) (hp : H p = none) : Tr G H (upd G p o) (upd H p o) := by
  refine ⟨Same.upd hp, Same.upd (h.none hp), fun a u e => ?_, fun a ha => ?_⟩
  · by_cases q : a = p
    · subst q; rw [upd_same] at e ⊢; exact e
    · rw [upd_ne q] at e ⊢; exact h a u e
  · have : a ≠ p := fun q => ha (by rw [q]; exact hp)
    rw [upd_ne this]
/-- a new object that stays the def's own -/
theorem Tr.own (h : Same G H) {p : Addr} (o : HO) (hp : H p = none) : Tr G H G (upd H p o) :=
  ⟨Same.upd hp, Same.refl _, h.trans (Same.upd hp), fun _ _ => rfl⟩
end

/-! ### results -/
inductive R (α : Type) where
  | ok (a : α)
  | exc (c : Str) (fs : List (Str × DV))
  | bad
namespace R
def bind {α β : Type} (r : R α) (f : α → R β) : R β := match r with
  | .ok a => f a
  | .exc c fs => .exc c fs
  | .bad => .bad
instance : Monad R where
  pure := .ok
  bind := R.bind
@[simp] theorem bind_ok {α β : Type} (a : α) (f : α → R β) : (R.ok a).bind f = f a := rfl
@[simp] theorem bind_exc {α β : Type} (c : Str) (fs : List (Str × DV)) (f : α → R β) : (R.exc c fs : R α).bind f = .exc c fs := rfl
@[simp] theorem bind_bad {α β : Type} (f : α → R β) : (R.bad : R α).bind f = .bad := rfl
def ofO {α : Type} : Option α → R α
  | some a => .ok a
  | none => .bad
end R

/-- an exception's own attributes -/
def XRep (K : PySem.W.Frag) (G H : Hp) (d : Option Addr) (fs : List (Str × DV)) : Prop :=
  (d = none ∧ fs = []) ∨ ∃ dx vs, d = some dx ∧ H dx = some (.xd vs) ∧ FReps K G vs fs

abbrev Rel (α β : Type) := Hp → β → α → Prop
/-- what a result asks of what follows -/
def Rq {α β : Type} (K : PySem.W.Frag) (rep : Rel α β) (W : Value → Option Addr → Hp → Prop) (G H : Hp) (r : R α) (Q : β → Hp → Prop) : Prop := match r with
  | .ok a => ∀ b H' G', Tr G H G' H' → rep G' b a → Q b H'
  | .exc c fs => ∀ H' G' d, Tr G H G' H' → XRep K G' H' d fs → W (.ref (He.ga K c)) d H'
  | .bad => False
section
variable {α β γ δ : Type} {K : PySem.W.Frag} {rep : Rel α β} {rep' : Rel γ δ} {W : Value → Option Addr → Hp → Prop} {G H G1 H1 : Hp} {r : R α} {Q : β → Hp → Prop} {Q' : δ → Hp → Prop}
theorem Rq.tr (t : Tr G H G1 H1) (h : Rq K rep W G H r Q) : Rq K rep W G1 H1 r Q := by
  cases r with
  | ok a => exact fun b H' G' t' => h b H' G' (t.trans t')
  | exc c fs => exact fun H' G' d t' => h H' G' d (t.trans t')
  | bad => exact h
theorem Rq.bind {k : α → R γ} (h : Rq K rep' W G H (r.bind k) Q') (c : ∀ a, r = .ok a → ∀ b H1 G1, Tr G H G1 H1 → rep G1 b a → Rq K rep' W G1 H1 (k a) Q' → Q b H1) : Rq K rep W G H r Q := by
  cases r with
  | ok a => exact fun b H1 G1 t p => c a rfl b H1 G1 t p (Rq.tr t h)
  | exc _ _ => exact h
  | bad => exact h
theorem Rq.ok_self (s : Same G H) {a : α} {b : β} (h : Rq K rep W G H (.ok a) Q) (p : rep G b a) : Q b H := h b H G (Tr.refl s) p
theorem Rq.ok_new (s : Same G H) {a : α} {b : β} {o : HO} {p : Addr} (hp : H p = none) (h : Rq K rep W G H (.ok a) Q) (q : rep (upd G p o) b a) : Q b (upd H p o) := h b _ _ (Tr.new s o hp) q
theorem Rq.imp {r' : R α} (e : r = r') (h : Rq K rep W G H r' Q) : Rq K rep W G H r Q := e ▸ h
end
abbrev BRep : Rel Bool Bool := fun _ b a => b = a

/-! ### slots -/
inductive Sl where
  | un
  | pu (d : DV)
  /-- a list that only this name holds -/
  | ol (ds : List DV)
  /-- an instance that is being made -/
  | oo (c : Str) (fs : List (Str × DV))
  /-- a dict (int and text keys) that only this name holds -/
  | od (kvs : List (Key × DV))
  deriving Inhabited
abbrev Ev := List Sl
/-- the object that only this name holds -/
def OwnAt (K : PySem.W.Frag) (G H : Hp) (a : Addr) : Sl → Prop
  | .ol ds => ∃ vs, H a = some (.lst vs) ∧ DReps K G vs ds
  | .oo c fs => ∃ dx vs, H a = some (.ins (He.ga K c) dx vs) ∧ FReps K G vs fs
  | .od kvs => ∃ vs, H a = some (.dK vs) ∧ KReps K G vs kvs
  | _ => False
def SlOk (K : PySem.W.Frag) (H0 G H : Hp) (s : Sl) (v : Option V) : Prop := match s with
  | .un => True
  | .pu d => ∃ x, v = some x ∧ DRep K G x d
  | s => ∃ a, v = some (.ref a) ∧ H0 a = none ∧ G a = none ∧ OwnAt K G H a s
def isOwn : Sl → Bool
  | .un => false
  | .pu _ => false
  | _ => true

/-- a def's entry: the heap, what no one changes, the instance that is being made or changed -/
structure Bas where
  H0 : Hp
  G0 : Hp
  pa : Option Addr := none
structure SOk (K : PySem.W.Frag) (B : Bas) (G H : Hp) (δ : Ev) (σ : L2.St) : Prop where
  tr : Tr B.G0 B.H0 G H
  len : σ.length = δ.length
  sl : ∀ (i : Nat) (s : Sl), δ[i]? = some s → SlOk K B.H0 G H s (σ[i]?.join)
  dj : ∀ (i j : Nat) (s t : Sl) (a : Addr), δ[i]? = some s → δ[j]? = some t → isOwn s = true → isOwn t = true → σ[i]? = some (some (.ref a)) → σ[j]? = some (some (.ref a)) → i = j
  me : ∀ (i : Nat) (c : Str) (fs : List (Str × DV)), δ[i]? = some (.oo c fs) → ∃ p, B.pa = some p ∧ σ[i]? = some (some (.ref p))

section
variable {K : PySem.W.Frag} {B : Bas} {H0 G0 G H G' H' : Hp} {δ : Ev} {σ : L2.St}
theorem SlOk.own {s : Sl} {v : Option V} (o : isOwn s = true) (h : SlOk K H0 G H s v) : ∃ a, v = some (.ref a) ∧ H0 a = none ∧ G a = none ∧ OwnAt K G H a s := by
  cases s with
  | un => cases o
  | pu _ => cases o
  | ol _ => exact h
  | oo _ _ => exact h
  | od _ => exact h
theorem SlOk.mk {s : Sl} {a : Addr} (o : isOwn s = true) (h : H0 a = none ∧ G a = none ∧ OwnAt K G H a s) : SlOk K H0 G H s (some (.ref a)) := by
  cases s with
  | un => cases o
  | pu _ => cases o
  | ol _ => exact ⟨a, rfl, h⟩
  | oo _ _ => exact ⟨a, rfl, h⟩
  | od _ => exact ⟨a, rfl, h⟩
theorem OwnAt.there {s : Sl} {a : Addr} (h : OwnAt K G H a s) : H a ≠ none := by
  cases s with
  | un => exact h.elim
  | pu _ => exact h.elim
  | ol _ => obtain ⟨_, e, _⟩ := h; rw [e]; simp
  | oo _ _ => obtain ⟨_, _, e, _⟩ := h; rw [e]; simp
  | od _ => obtain ⟨_, e, _⟩ := h; rw [e]; simp
theorem OwnAt.step {s : Sl} {a : Addr} (gg : Same G G') (e : ∀ o, H a = some o → H' a = some o) (h : OwnAt K G H a s) : OwnAt K G' H' a s := by
  cases s with
  | un => exact h
  | pu _ => exact h
  | ol _ => obtain ⟨vs, e1, r⟩ := h; exact ⟨vs, e _ e1, r.mono gg⟩
  | oo _ _ => obtain ⟨dx, vs, e1, r⟩ := h; exact ⟨dx, vs, e _ e1, r.mono gg⟩
  | od _ => obtain ⟨vs, e1, r⟩ := h; exact ⟨vs, e _ e1, r.mono gg⟩
theorem SlOk.step {s : Sl} {v : Option V} (gg : Same G G') (e : ∀ a o, isOwn s = true → v = some (.ref a) → H a = some o → H' a = some o) (n : ∀ a, isOwn s = true → v = some (.ref a) → H a ≠ none → G a = none → G' a = none) (h : SlOk K H0 G H s v) : SlOk K H0 G' H' s v := by
  cases o : isOwn s with
  | true =>
    obtain ⟨a, rfl, h1, h2, h3⟩ := h.own o
    exact .mk o ⟨h1, n a o rfl h3.there h2, h3.step gg fun ob => e a ob o rfl⟩
  | false =>
    cases s with
    | un => trivial
    | pu d => obtain ⟨x, e1, r⟩ := h; exact ⟨x, e1, r.mono gg⟩
    | ol _ => cases o
    | oo _ _ => cases o
    | od _ => cases o
theorem SOk.gh (S : SOk K B G H δ σ) : Same G H := S.tr.gh
/-- objects are made, no own one is touched -/
theorem SOk.step (S : SOk K B G H δ σ) (t : Tr G H G' H') : SOk K B G' H' δ σ where
  tr := S.tr.trans t
  len := S.len
  sl := fun i s e => (S.sl i s e).step t.gg (fun a o _ _ q => t.sm a o q) fun a _ _ ha hg => by rw [t.nw a ha]; exact hg
  dj := S.dj
  me := S.me
theorem SOk.pu (S : SOk K B G H δ σ) {i : Nat} {d : DV} (e : δ[i]? = some (.pu d)) : ∃ v, σ[i]? = some (some v) ∧ DRep K G v d := by
  obtain ⟨x, h, r⟩ := S.sl i _ e
  cases q : σ[i]? with
  | none => rw [q] at h; cases h
  | some w => rw [q] at h; exact ⟨x, by rw [show w = some x from h], r⟩
theorem join_some {o : Option (Option V)} {v : V} (h : o.join = some v) : o = some (some v) := by
  cases o with
  | none => cases h
  | some w => exact congrArg some h
theorem SOk.own (S : SOk K B G H δ σ) {i : Nat} {s : Sl} (e : δ[i]? = some s) (o : isOwn s = true) : ∃ a, σ[i]? = some (some (.ref a)) ∧ B.H0 a = none ∧ G a = none ∧ OwnAt K G H a s := by
  obtain ⟨a, h, r⟩ := (S.sl i s e).own o
  exact ⟨a, join_some h, r⟩
/-- a name gets a value -/
theorem SOk.set (S : SOk K B G H δ σ) (i : Nat) {v : V} {d : DV} (r : DRep K G v d) : SOk K B G H (δ.set i (.pu d)) (σ.set i (some v)) := by
  refine ⟨S.tr, by rw [List.length_set, List.length_set, S.len], fun j s e => ?_, fun j k s t a e1 e2 o1 o2 h1 h2 => ?_, fun j c fs e => ?_⟩
  · by_cases q : i = j
    · subst q
      have hi : i < δ.length := by
        have := (List.getElem?_eq_some_iff.mp e).1
        rwa [List.length_set] at this
      rw [List.getElem?_set_self hi] at e
      cases e
      rw [List.getElem?_set_self (by rw [S.len]; exact hi)]
      exact ⟨v, rfl, r⟩
    · rw [List.getElem?_set_ne q] at e ⊢
      exact S.sl j s e
  · have ne : ∀ {j : Nat} {s : Sl}, (δ.set i (.pu d))[j]? = some s → isOwn s = true → i ≠ j := fun {j s} e o q => by
      subst q
      have hi : i < δ.length := by
        have := (List.getElem?_eq_some_iff.mp e).1
        rwa [List.length_set] at this
      rw [List.getElem?_set_self hi] at e
      cases e; cases o
    have n1 := ne e1 o1
    have n2 := ne e2 o2
    rw [List.getElem?_set_ne n1] at e1 h1
    rw [List.getElem?_set_ne n2] at e2 h2
    exact S.dj j k s t a e1 e2 o1 o2 h1 h2
  · by_cases q : i = j
    · subst q
      have hi : i < δ.length := by
        have := (List.getElem?_eq_some_iff.mp e).1
        rwa [List.length_set] at this
      rw [List.getElem?_set_self hi] at e
      cases e
    · rw [List.getElem?_set_ne q] at e ⊢
      exact S.me j c fs e
/-- a name gets a new object of its own, or its own object is changed -/
theorem SOk.setOwn (S : SOk K B G H δ σ) (i : Nat) {a : Addr} {s : Sl} (ho : isOwn s = true) (t : Tr B.G0 B.H0 G H') (h0 : B.H0 a = none) (hg : G a = none) (r : OwnAt K G H' a s)
    (keep : ∀ b o, b ≠ a → H b = some o → H' b = some o) (new : ∀ j u, j ≠ i → δ[j]? = some u → isOwn u = true → σ[j]? ≠ some (some (.ref a))) (hme : ∀ c fs, s = .oo c fs → B.pa = some a) : SOk K B G H' (δ.set i s) (σ.set i (some (.ref a))) := by
  refine ⟨t, by rw [List.length_set, List.length_set, S.len], fun j u e => ?_, fun j k u w b e1 e2 o1 o2 h1 h2 => ?_, fun j c fs e => ?_⟩
  · by_cases q : i = j
    · subst q
      have hi : i < δ.length := by
        have := (List.getElem?_eq_some_iff.mp e).1
        rwa [List.length_set] at this
      rw [List.getElem?_set_self hi] at e
      cases e
      rw [List.getElem?_set_self (by rw [S.len]; exact hi)]
      exact .mk ho ⟨h0, hg, r⟩
    · rw [List.getElem?_set_ne q] at e ⊢
      refine (S.sl j u e).step (Same.refl _) (fun b o ou hb q2 => keep b o (fun z => ?_) q2) fun _ _ _ _ x => x
      subst z
      exact new j u (Ne.symm q) e ou (join_some hb)
  · have un : ∀ {j : Nat} {u : Sl}, i ≠ j → (δ.set i s)[j]? = some u → δ[j]? = some u := fun {j u} q e => by rwa [List.getElem?_set_ne q] at e
    by_cases q1 : i = j
    · by_cases q2 : i = k
      · rw [← q1, ← q2]
      · subst q1
        rw [List.getElem?_set_ne q2] at h2
        have hi : i < σ.length := by
          have := (List.getElem?_eq_some_iff.mp h1).1
          rwa [List.length_set] at this
        rw [List.getElem?_set_self hi] at h1
        have : a = b := by injection h1 with h1; injection h1 with h1; injection h1
        subst this
        exact absurd h2 (new k w (Ne.symm q2) (un q2 e2) o2)
    · by_cases q2 : i = k
      · subst q2
        rw [List.getElem?_set_ne q1] at h1
        have hi : i < σ.length := by
          have := (List.getElem?_eq_some_iff.mp h2).1
          rwa [List.length_set] at this
        rw [List.getElem?_set_self hi] at h2
        have : a = b := by injection h2 with h2; injection h2 with h2; injection h2
        subst this
        exact absurd h1 (new j u (Ne.symm q1) (un q1 e1) o1)
      · rw [List.getElem?_set_ne q1] at h1
        rw [List.getElem?_set_ne q2] at h2
        exact S.dj j k u w b (un q1 e1) (un q2 e2) o1 o2 h1 h2
  · by_cases q : i = j
    · subst q
      have hi : i < δ.length := by
        have := (List.getElem?_eq_some_iff.mp e).1
        rwa [List.length_set] at this
      rw [List.getElem?_set_self hi] at e
      cases e
      rw [List.getElem?_set_self (by rw [S.len]; exact hi)]
      exact ⟨a, hme c fs rfl, rfl⟩
    · rw [List.getElem?_set_ne q] at e ⊢
      exact S.me j c fs e
/-- a name's slot forgotten -/
theorem SOk.forget (S : SOk K B G H δ σ) (i : Nat) (v : Option V) : SOk K B G H (δ.set i .un) (σ.set i v) := by
  refine ⟨S.tr, by rw [List.length_set, List.length_set, S.len], fun j s e => ?_, fun j k s t a e1 e2 o1 o2 h1 h2 => ?_, fun j c fs e => ?_⟩
  · by_cases q : i = j
    · subst q
      have hi : i < δ.length := by
        have := (List.getElem?_eq_some_iff.mp e).1
        rwa [List.length_set] at this
      rw [List.getElem?_set_self hi] at e
      cases e
      trivial
    · rw [List.getElem?_set_ne q] at e ⊢
      exact S.sl j s e
  · have ne : ∀ {j : Nat} {s : Sl}, (δ.set i .un)[j]? = some s → isOwn s = true → i ≠ j := fun {j s} e o q => by
      subst q
      have hi : i < δ.length := by
        have := (List.getElem?_eq_some_iff.mp e).1
        rwa [List.length_set] at this
      rw [List.getElem?_set_self hi] at e
      cases e; cases o
    have n1 := ne e1 o1
    have n2 := ne e2 o2
    rw [List.getElem?_set_ne n1] at e1 h1
    rw [List.getElem?_set_ne n2] at e2 h2
    exact S.dj j k s t a e1 e2 o1 o2 h1 h2
  · by_cases q : i = j
    · subst q
      have hi : i < δ.length := by
        have := (List.getElem?_eq_some_iff.mp e).1
        rwa [List.length_set] at this
      rw [List.getElem?_set_self hi] at e
      cases e
    · rw [List.getElem?_set_ne q] at e ⊢
      exact S.me j c fs e
/-- an own object is changed by no one from here on -/
def frz (δ : Ev) (i : Nat) : Ev := match δ[i]? with
  | some (.ol ds) => δ.set i (.pu (.lst ds))
  | some (.oo c fs) => δ.set i (.pu (.obj c fs))
  | _ => δ
theorem Tr.freeze (t : Tr G0 H0 G H) {a : Addr} {o : HO} (h0 : H0 a = none) (hg : G a = none) (h : H a = some o) : Tr G0 H0 (upd G a o) H ∧ Same G (upd G a o) := by
  refine ⟨⟨t.sm, t.gg.trans (Same.upd hg), fun b u e => ?_, fun b hb => ?_⟩, Same.upd hg⟩
  · by_cases q : b = a
    · subst q; rw [upd_same] at e; rw [← e]; exact h
    · rw [upd_ne q] at e; exact t.gh b u e
  · have : b ≠ a := fun q => hb (by rw [q]; exact h0)
    rw [upd_ne this]; exact t.nw b hb
theorem SOk.frz (S : SOk K B G H δ σ) (i : Nat) : ∃ G', Same G G' ∧ SOk K B G' H (frz δ i) σ := by
  have go : ∀ {s : Sl} {d : DV} {a : Addr} {o : HO}, δ[i]? = some s → isOwn s = true → σ[i]? = some (some (.ref a)) → B.H0 a = none → G a = none → H a = some o → DRep K (upd G a o) (.ref a) d → ∃ G', Same G G' ∧ SOk K B G' H (δ.set i (.pu d)) σ := fun {s d a o} e os es h0 hg h r => by
    obtain ⟨t, gg⟩ := S.tr.freeze h0 hg h
    have S' : SOk K B (L2.upd G a o) H (δ.set i .un) (σ.set i (some (.ref a))) := by
      refine ⟨t, by rw [List.length_set, List.length_set, S.len], fun j u e' => ?_, (S.forget i (some (.ref a))).dj, (S.forget i (some (.ref a))).me⟩
      by_cases q : i = j
      · subst q
        have hi : i < δ.length := (List.getElem?_eq_some_iff.mp e).1
        rw [List.getElem?_set_self hi] at e'
        cases e'; trivial
      · have z := (S.forget i (some (.ref a))).sl j u e'
        refine z.step gg (fun _ _ _ _ x => x) fun b ou hb _ hgb => ?_
        have : b ≠ a := fun z => by
          subst z
          rw [List.getElem?_set_ne q] at e' hb
          exact q (S.dj i j s u b e e' os ou es (join_some hb))
        rw [upd_ne this]; exact hgb
    have S2 := S'.set i r
    rw [List.set_set, List.set_set] at S2
    have es' : σ.set i (some (.ref a)) = σ := by
      apply List.ext_getElem?
      intro j
      by_cases q : i = j
      · subst q
        rw [List.getElem?_set_self (List.getElem?_eq_some_iff.mp es).1, es]
      · rw [List.getElem?_set_ne q]
    rw [es'] at S2
    exact ⟨_, gg, S2⟩
  unfold LD.frz
  split
  · rename_i ds e
    obtain ⟨a, es, h0, hg, vs, h, r⟩ := S.own e rfl
    exact go e rfl es h0 hg h (.lst upd_same (r.mono (Same.upd hg)))
  · rename_i c fs e
    obtain ⟨a, es, h0, hg, dx, vs, h, r⟩ := S.own e rfl
    exact go e rfl es h0 hg h (.obj upd_same (r.mono (Same.upd hg)))
  · exact ⟨G, Same.refl _, S⟩
end
end LD

set_option maxHeartbeats 2000000
/-! Layer D, part B: expressions. -/
namespace LD
open PySem PySem.Spec PyProof.Rows L2

/-! ### the judgements -/
structure PD (X : Cx) (W : WX) (e : Expr) (f : Ev → R DV) : Prop where
  ex : ∃ t : TE, PE X e t ∧ ∀ {B : Bas} {G H : Hp} {δ : Ev} {σ : L2.St} {Q : VK}, SOk X.K B G H δ σ → Rq X.K (DRep X.K) (fun c d H' => W c d σ H') G H (f δ) Q → t σ H Q
structure PDT (X : Cx) (W : WX) (e : Expr) (f : Ev → R Bool) : Prop where
  ex : ∃ t : TT, PT X e t ∧ ∀ {B : Bas} {G H : Hp} {δ : Ev} {σ : L2.St} {Q : Bool → Hp → Prop}, SOk X.K B G H δ σ → Rq X.K BRep (fun c d H' => W c d σ H') G H (f δ) Q → t σ H Q
structure PDW (X : Cx) (W : WX) (e : Expr) (f : Ev → R Bool) : Prop where
  ex : ∃ t : TT, PW X e t ∧ ∀ {B : Bas} {G H : Hp} {δ : Ev} {σ : L2.St} {Q : Bool → Hp → Prop}, SOk X.K B G H δ σ → Rq X.K BRep (fun c d H' => W c d σ H') G H (f δ) Q → t σ H Q
structure PDA (X : Cx) (W : WX) (es : List Expr) (f : Ev → R (List DV)) : Prop where
  ex : ∃ t : TA, PA X es t ∧ ∀ {B : Bas} {G H : Hp} {δ : Ev} {σ : L2.St} {Q : List V → Hp → Prop}, SOk X.K B G H δ σ → Rq X.K (DReps X.K) (fun c d H' => W c d σ H') G H (f δ) Q → t σ H Q

/-! ### readings -/
def xVar (i : Nat) : Ev → R DV := fun δ => match δ[i]? with
  | some (.pu d) => .ok d
  | _ => .bad
def xC (d : DV) : Ev → R DV := fun _ => .ok d
def xOp (op : DV → DV → R DV) (a b : Ev → R DV) : Ev → R DV := fun δ => (a δ).bind fun x => (b δ).bind fun y => op x y
def xUn (op : DV → R DV) (a : Ev → R DV) : Ev → R DV := fun δ => (a δ).bind op
def asB : DV → R Bool
  | .bl b => .ok b
  | _ => .bad
def xTest (a : Ev → R DV) : Ev → R Bool := fun δ => (a δ).bind asB
def xIf (c : Ev → R Bool) (a b : Ev → R DV) : Ev → R DV := fun δ => (c δ).bind fun z => if z = true then a δ else b δ
def xAnd (a b : Ev → R Bool) : Ev → R Bool := fun δ => (a δ).bind fun z => if z = true then b δ else .ok false
def xOr (a b : Ev → R Bool) : Ev → R Bool := fun δ => (a δ).bind fun z => if z = true then .ok true else b δ
def xNot (a : Ev → R Bool) : Ev → R Bool := fun δ => (a δ).bind fun z => .ok (!z)
def xAndV (a b : Ev → R DV) : Ev → R DV := fun δ => (a δ).bind fun x => (asB x).bind fun z => if z = true then b δ else .ok (.bl false)
def xOrV (a b : Ev → R DV) : Ev → R DV := fun δ => (a δ).bind fun x => (asB x).bind fun z => if z = true then .ok (.bl true) else b δ
def xNotV (a : Ev → R DV) : Ev → R DV := fun δ => (a δ).bind fun x => (asB x).bind fun z => .ok (.bl (!z))
def xNil : Ev → R (List DV) := fun _ => .ok []
def xCons (a : Ev → R DV) (r : Ev → R (List DV)) : Ev → R (List DV) := fun δ => (a δ).bind fun x => (r δ).bind fun xs => .ok (x :: xs)
def small (n : Nat) : Bool := Nat.ble n 16777216
theorem small_le {n : Nat} (h : small n = true) : n ≤ sizeLine := by rw [sizeLine_eq]; exact Nat.le_of_ble_eq_true h
def xTup (r : Ev → R (List DV)) : Ev → R DV := fun δ => (r δ).bind fun xs => if small xs.length = true then .ok (.tup xs) else .bad
def xLst (r : Ev → R (List DV)) : Ev → R DV := fun δ => (r δ).bind fun xs => if small xs.length = true then .ok (.lst xs) else .bad
/-- a chain a < b < c -/
def xChain (o o' : DV → DV → R DV) (a b c : Ev → R DV) : Ev → R DV := fun δ => (a δ).bind fun x => (b δ).bind fun y => (o x y).bind fun z => (asB z).bind fun k => if k = true then (c δ).bind fun w => o' y w else .ok (.bl false)

/-! ### operators by data -/
def OpD (X : Cx) (r : R2) (op : DV → DV → R DV) : Prop :=
  ∀ {G H : Hp} {x y : V} {dx dy : DV} {Q : VK} {W : Value → Option Addr → Hp → Prop}, Same G H → DRep X.K G x dx → DRep X.K G y dy → Rq X.K (DRep X.K) W G H (op dx dy) Q → r x y H Q
/-- only values, no object -/
theorem OpD.flat {X : Cx} {r : R2} {op : DV → DV → R DV} (noexc : ∀ dx dy c fs, op dx dy ≠ .exc c fs)
    (h : ∀ {G H : Hp} {x y : V} {dx dy d : DV} {Q : VK}, DRep X.K G x dx → DRep X.K G y dy → op dx dy = .ok d → (∀ v, DRep X.K G v d → Q v H) → r x y H Q) : OpD X r op := by
  intro G H x y dx dy Q W s rx ry q
  cases e : op dx dy with
  | ok d =>
    rw [e] at q
    exact h rx ry e fun v p => q v H G (Tr.refl s) p
  | exc c fs => exact absurd e (noexc _ _ _ _)
  | bad => rw [e] at q; exact q.elim

section
variable {X : Cx} {W : WX} {a b c : Expr} {es : List Expr} {fa fb fc : Ev → R DV} {fes : Ev → R (List DV)} {ga gb : Ev → R Bool} {pos : Pos}

theorem d_var (i : Nat) {x : Str} (hN : X.N[i]? = some x := by rfl) (hv : Vis X.env.scope x := by first | exact Or.inl rfl | exact Or.inr (Or.inl rfl) | exact Or.inr (Or.inr rfl)) (hd : (x == ("__debug__" : Str)) = false := by decide)
    (hcd : (x == ("__classdict__" : Str)) = false := by decide) : PD X W (.Name x pos) (xVar i) := by
  refine ⟨tVar i, pv i hN hv hd hcd, fun {B0 G H δ σ Q} S h => ?_⟩
  unfold xVar at h
  split at h
  · rename_i d e
    obtain ⟨v, hv', r⟩ := S.pu e
    exact ⟨v, hv', h.ok_self S.gh r⟩
  · exact h.elim
theorem d_c {v : V} {d : DV} (p : PE X a (tC v)) (r : ∀ G, DRep X.K G v d) : PD X W a (xC d) :=
  ⟨tC v, p, fun {B0 G H δ σ Q} S h => Rq.ok_self (rep := DRep X.K) S.gh h (r G)⟩
theorem d_int {i j} : PD X W (.Constant (.int i) j pos) (xC (.int i)) := d_c pe_int fun _ => .int i
theorem d_bl {b j} : PD X W (.Constant (.bool b) j pos) (xC (.bl b)) := d_c pe_bl fun _ => .bl b
theorem d_non {j} : PD X W (.Constant .none j pos) (xC .non) := d_c pe_non fun _ => .non
theorem d_str {x j} : PD X W (.Constant (.str x) j pos) (xC (.str x)) := d_c pe_str fun _ => .str x
theorem d_gint {x : Str} {i : Int} (hm : ∃ t, X.mg x = some (.int i t)) (hg : Gl X x := by rfl) (hd : (x == ("__debug__" : Str)) = false := by decide) : PD X W (.Name x pos) (xC (.int i)) := by
  obtain ⟨t, hm⟩ := hm
  exact d_c (pe_glob hg hm (v := .int i) ⟨t, rfl⟩ hd) fun _ => .int i
theorem d_gstr {x z : Str} (hm : ∃ t, X.mg x = some (.str z t)) (hg : Gl X x := by rfl) (hd : (x == ("__debug__" : Str)) = false := by decide) : PD X W (.Name x pos) (xC (.str z)) := by
  obtain ⟨t, hm⟩ := hm
  exact d_c (pe_glob hg hm (v := .str z) ⟨t, rfl⟩ hd) fun _ => .str z

theorem d_op {o : Operator} {r : R2} {op : DV → DV → R DV} (ho : OpR X (binaryOp o) r) (od : OpD X r op) (A : PD X W a fa) (B : PD X W b fb) : PD X W (.BinOp a o b pos) (xOp op fa fb) := by
  obtain ⟨ta, pa, ha⟩ := A.ex
  obtain ⟨tb, pb, hb⟩ := B.ex
  refine ⟨_, pe_op ho pa pb, fun {B0 G H δ σ Q} S h => ?_⟩
  refine ha S (Rq.bind (rep := DRep X.K) h fun x ex v H1 G1 t1 r1 h1 => ?_)
  refine hb (S.step t1) (Rq.bind (rep := DRep X.K) h1 fun y ey w H2 G2 t2 r2 h2 => ?_)
  exact od t2.gh (r1.mono t2.gg) r2 h2
theorem d_cmp {o : CmpOp} {r : R2} {op : DV → DV → R DV} (ho : OpR X (compareOp o) r) (od : OpD X r op) (A : PD X W a fa) (B : PD X W b fb) (hm : behindInMarks o b = false := by first | exact nomark _ | rfl) : PD X W (.Compare a [o] [b] pos) (xOp op fa fb) := by
  obtain ⟨ta, pa, ha⟩ := A.ex
  obtain ⟨tb, pb, hb⟩ := B.ex
  refine ⟨_, pe_cmpR ho pa pb hm, fun {B0 G H δ σ Q} S h => ?_⟩
  refine ha S (Rq.bind (rep := DRep X.K) h fun x ex v H1 G1 t1 r1 h1 => ?_)
  refine hb (S.step t1) (Rq.bind (rep := DRep X.K) h1 fun y ey w H2 G2 t2 r2 h2 => ?_)
  exact od t2.gh (r1.mono t2.gg) r2 h2
theorem asB_rep {K : PySem.W.Frag} {G : Hp} {v : V} {d : DV} {k : Bool} (r : DRep K G v d) (e : asB d = .ok k) : v = .bl k := by
  cases r with
  | bl b => cases e; rfl
  | _ => cases e
/-- a comparison as a test -/
theorem dt_cmp {o : CmpOp} {r : R2} {op : DV → DV → R DV} (ho : OpR X (compareOp o) r) (od : OpD X r op) (A : PD X W a fa) (B : PD X W b fb) (hm : behindInMarks o b = false := by first | exact nomark _ | rfl) : PDT X W (.Compare a [o] [b] pos) (xTest (xOp op fa fb)) := by
  obtain ⟨ta, pa, ha⟩ := A.ex
  obtain ⟨tb, pb, hb⟩ := B.ex
  refine ⟨_, pt_cmpR ho pa pb hm, fun {B0 G H δ σ Q} S h => ?_⟩
  have h' : Rq X.K BRep (fun c d H' => W c d σ H') G H ((fa δ).bind fun x => (fb δ).bind fun y => (op x y).bind asB) Q := by
    have e : xTest (xOp op fa fb) δ = ((fa δ).bind fun x => (fb δ).bind fun y => (op x y).bind asB) := by
      unfold xTest xOp
      cases fa δ with
      | ok x => cases fb δ <;> rfl
      | _ => rfl
    rw [← e]; exact h
  refine ha S (Rq.bind (rep := DRep X.K) h' fun x ex v H1 G1 t1 r1 h1 => ?_)
  refine hb (S.step t1) (Rq.bind (rep := DRep X.K) h1 fun y ey w H2 G2 t2 r2 h2 => ?_)
  refine od t2.gh (r1.mono t2.gg) r2 (Rq.bind (rep := DRep X.K) h2 fun z ez u H3 G3 t3 r3 h3 => ?_)
  cases q : asB z with
  | ok k =>
    rw [q] at h3
    exact ⟨k, asB_rep r3 q, Rq.ok_self (rep := BRep) t3.gh h3 rfl⟩
  | exc c fs => cases z <;> cases q
  | bad => rw [q] at h3; exact h3.elim
/-- an expression as a test -/
theorem dt_val (A : PD X W a fa) (he : ∀ whole, isTrue a X.env whole = (do let v ← whole; standAt a.pos; holding [v] (truthy v)) := by intro _; rfl) : PDT X W a (xTest fa) := by
  obtain ⟨ta, pa, ha⟩ := A.ex
  refine ⟨_, pt_val pa he, fun {B0 G H δ σ Q} S h => ?_⟩
  refine ha S (Rq.bind (rep := DRep X.K) h fun z ez u H3 G3 t3 r3 h3 => ?_)
  cases q : asB z with
  | ok k =>
    rw [q] at h3
    exact ⟨k, asB_rep r3 q, Rq.ok_self (rep := BRep) t3.gh h3 rfl⟩
  | exc c fs => cases z <;> cases q
  | bad => rw [q] at h3; exact h3.elim
theorem dt_not (A : PDT X W a ga) : PDT X W (.UnaryOp .Not a pos) (xNot ga) := by
  obtain ⟨ta, pa, ha⟩ := A.ex
  refine ⟨_, pt_not pa, fun {B0 G H δ σ Q} S h => ?_⟩
  exact ha S (Rq.bind (rep := BRep) h fun z ez u H3 G3 t3 r3 h3 => by cases r3; exact Rq.ok_self (rep := BRep) t3.gh h3 rfl)
theorem dw_pt (A : PDW X W a ga) : PDT X W a ga := by
  obtain ⟨ta, pa, ha⟩ := A.ex
  exact ⟨ta, pa.pt, ha⟩
variable {rest : List Expr}
theorem dw_and1 (A : PDT X W a ga) : PDW X W (.BoolOp .And [a] pos) ga := by
  obtain ⟨ta, pa, ha⟩ := A.ex
  exact ⟨ta, pw_and1 pa, ha⟩
theorem dw_or1 (A : PDT X W a ga) : PDW X W (.BoolOp .Or [a] pos) ga := by
  obtain ⟨ta, pa, ha⟩ := A.ex
  exact ⟨ta, pw_or1 pa, ha⟩
theorem dw_and (A : PDT X W a ga) (B : PDW X W (.BoolOp .And (b :: rest) pos) gb) : PDW X W (.BoolOp .And (a :: b :: rest) pos) (xAnd ga gb) := by
  obtain ⟨ta, pa, ha⟩ := A.ex
  obtain ⟨tb, pb, hb⟩ := B.ex
  refine ⟨_, pw_and pa pb, fun {B0 G H δ σ Q} S h => ?_⟩
  refine ha S (Rq.bind (rep := BRep) h fun z ez u H1 G1 t1 r1 h1 => ?_)
  cases r1
  cases z with
  | true => exact hb (S.step t1) h1
  | false => exact Rq.ok_self (rep := BRep) t1.gh h1 rfl
theorem dw_or (A : PDT X W a ga) (B : PDW X W (.BoolOp .Or (b :: rest) pos) gb) : PDW X W (.BoolOp .Or (a :: b :: rest) pos) (xOr ga gb) := by
  obtain ⟨ta, pa, ha⟩ := A.ex
  obtain ⟨tb, pb, hb⟩ := B.ex
  refine ⟨_, pw_or pa pb, fun {B0 G H δ σ Q} S h => ?_⟩
  refine ha S (Rq.bind (rep := BRep) h fun z ez u H1 G1 t1 r1 h1 => ?_)
  cases r1
  cases z with
  | true => exact Rq.ok_self (rep := BRep) t1.gh h1 rfl
  | false => exact hb (S.step t1) h1
/-- and, or, not as values -/
theorem d_one {op : BoolOp} (A : PD X W a fa) : PD X W (.BoolOp op [a] pos) fa := by
  obtain ⟨ta, pa, ha⟩ := A.ex
  exact ⟨ta, pe_one pa, ha⟩
theorem asB_no {d : DV} {c : Str} {fs : List (Str × DV)} : asB d ≠ .exc c fs := by cases d <;> exact fun e => nomatch e
theorem d_and (A : PD X W a fa) (B : PD X W (.BoolOp .And (b :: rest) pos) fb) : PD X W (.BoolOp .And (a :: b :: rest) pos) (xAndV fa fb) := by
  obtain ⟨ta, pa, ha⟩ := A.ex
  obtain ⟨tb, pb, hb⟩ := B.ex
  refine ⟨_, pe_and pa pb, fun {B0 G H δ σ Q} S h => ?_⟩
  refine ha S (Rq.bind (rep := DRep X.K) h fun z ez u H1 G1 t1 r1 h1 => ?_)
  cases q : asB z with
  | ok k =>
    rw [q] at h1
    refine ⟨k, asB_rep r1 q, ?_⟩
    cases k with
    | true => exact hb (S.step t1) h1
    | false => exact Rq.ok_self (rep := DRep X.K) t1.gh h1 (.bl false)
  | exc c fs => exact absurd q asB_no
  | bad => rw [q] at h1; exact h1.elim
theorem d_or (A : PD X W a fa) (B : PD X W (.BoolOp .Or (b :: rest) pos) fb) : PD X W (.BoolOp .Or (a :: b :: rest) pos) (xOrV fa fb) := by
  obtain ⟨ta, pa, ha⟩ := A.ex
  obtain ⟨tb, pb, hb⟩ := B.ex
  refine ⟨_, pe_or pa pb, fun {B0 G H δ σ Q} S h => ?_⟩
  refine ha S (Rq.bind (rep := DRep X.K) h fun z ez u H1 G1 t1 r1 h1 => ?_)
  cases q : asB z with
  | ok k =>
    rw [q] at h1
    refine ⟨k, asB_rep r1 q, ?_⟩
    cases k with
    | true => exact Rq.ok_self (rep := DRep X.K) t1.gh h1 (.bl true)
    | false => exact hb (S.step t1) h1
  | exc c fs => exact absurd q asB_no
  | bad => rw [q] at h1; exact h1.elim
theorem d_not (A : PD X W a fa) : PD X W (.UnaryOp .Not a pos) (xNotV fa) := by
  obtain ⟨ta, pa, ha⟩ := A.ex
  refine ⟨_, pe_not pa, fun {B0 G H δ σ Q} S h => ?_⟩
  refine ha S (Rq.bind (rep := DRep X.K) h fun z ez u H1 G1 t1 r1 h1 => ?_)
  cases q : asB z with
  | ok k =>
    rw [q] at h1
    exact ⟨k, asB_rep r1 q, Rq.ok_self (rep := DRep X.K) t1.gh h1 (.bl (!k))⟩
  | exc c fs => exact absurd q asB_no
  | bad => rw [q] at h1; exact h1.elim
theorem d_if (C : PDT X W c ga) (A : PD X W a fa) (B : PD X W b fb) : PD X W (.IfExp c a b pos) (xIf ga fa fb) := by
  obtain ⟨tc, pc, hc⟩ := C.ex
  obtain ⟨ta, pa, ha⟩ := A.ex
  obtain ⟨tb, pb, hb⟩ := B.ex
  refine ⟨_, pe_ifExp pc pa pb, fun {B0 G H δ σ Q} S h => ?_⟩
  refine hc S (Rq.bind (rep := BRep) h fun z ez u H1 G1 t1 r1 h1 => ?_)
  cases r1
  cases z with
  | true => exact ha (S.step t1) h1
  | false => exact hb (S.step t1) h1
/-- arguments -/
theorem da_nil : PDA X W [] xNil := ⟨tNil, pa_nil, fun {B0 G H δ σ Q} S h => Rq.ok_self (rep := DReps X.K) S.gh h .nil⟩
theorem da_cons (A : PD X W a fa) (B : PDA X W es fes) (hs : starEach (a :: es) X.env = (false, eval a X.env) :: starEach es X.env := by rfl) : PDA X W (a :: es) (xCons fa fes) := by
  obtain ⟨ta, pa, ha⟩ := A.ex
  obtain ⟨tb, pb, hb⟩ := B.ex
  refine ⟨_, pa_cons pa pb hs, fun {B0 G H δ σ Q} S h => ?_⟩
  refine ha S (Rq.bind (rep := DRep X.K) h fun x ex v H1 G1 t1 r1 h1 => ?_)
  refine hb (S.step t1) (Rq.bind (rep := DReps X.K) h1 fun y ey w H2 G2 t2 r2 h2 => ?_)
  exact Rq.ok_self (rep := DReps X.K) t2.gh h2 (.cons (r1.mono t2.gg) r2)
theorem d_tup {k} (A : PDA X W es fes) : PD X W (.Tuple es k pos) (xTup fes) := by
  obtain ⟨ta, pa, ha⟩ := A.ex
  refine ⟨_, pe_tup pa, fun {B0 G H δ σ Q} S h => ?_⟩
  refine ha S (Rq.bind (rep := DReps X.K) h fun xs ex vs H1 G1 t1 r1 h1 => ?_)
  cases q : small xs.length with
  | true =>
    rw [q, if_pos rfl] at h1
    exact ⟨by rw [r1.length]; exact small_le q, fun p hp => Rq.ok_new (rep := DRep X.K) t1.gh hp h1 (.tup upd_same (r1.mono (Same.upd (t1.gh.none hp))))⟩
  | false => rw [q, if_neg (by decide)] at h1; exact h1.elim
theorem d_lst (A : PDA X W es fes) : PD X W (.List es pos) (xLst fes) := by
  obtain ⟨ta, pa, ha⟩ := A.ex
  refine ⟨_, pe_lst pa, fun {B0 G H δ σ Q} S h => ?_⟩
  refine ha S (Rq.bind (rep := DReps X.K) h fun xs ex vs H1 G1 t1 r1 h1 => ?_)
  cases q : small xs.length with
  | true =>
    rw [q, if_pos rfl] at h1
    exact ⟨by rw [r1.length]; exact small_le q, fun p hp => Rq.ok_new (rep := DRep X.K) t1.gh hp h1 (.lst upd_same (r1.mono (Same.upd (t1.gh.none hp))))⟩
  | false => rw [q, if_neg (by decide)] at h1; exact h1.elim
theorem d_un {o : UnaryOp} {r : V → Hp → VK → Prop} {op : DV → R DV} (ho : UnR X (unaryOp o) r)
    (od : ∀ {G H : Hp} {x : V} {dx : DV} {Q : VK} {W : Value → Option Addr → Hp → Prop}, Same G H → DRep X.K G x dx → Rq X.K (DRep X.K) W G H (op dx) Q → r x H Q) (A : PD X W a fa) : PD X W (.UnaryOp o a pos) (xUn op fa) := by
  obtain ⟨ta, pa, ha⟩ := A.ex
  refine ⟨_, pe_un ho pa, fun {B0 G H δ σ Q} S h => ?_⟩
  exact ha S (Rq.bind (rep := DRep X.K) h fun x ex v H1 G1 t1 r1 h1 => od t1.gh r1 h1)
theorem d_chain {o o' : CmpOp} {r r' : R2} {op op' : DV → DV → R DV} (ho : OpR X (compareOp o) r) (ho' : OpR X (compareOp o') r') (od : OpD X r op) (od' : OpD X r' op') (A : PD X W a fa) (B : PD X W b fb) (C : PD X W c fc) (hm : lastMarks [o, o'] [b, c] = false := by with_unfolding_all rfl) :
    PD X W (.Compare a [o, o'] [b, c] pos) (xChain op op' fa fb fc) := by
  obtain ⟨ta, pa, ha⟩ := A.ex
  obtain ⟨tb, pb, hb⟩ := B.ex
  obtain ⟨tc, pc, hc⟩ := C.ex
  refine ⟨_, pe_chain ho ho' pa pb pc hm, fun {B0 G H δ σ Q} S h => ?_⟩
  refine ha S (Rq.bind (rep := DRep X.K) h fun x ex v H1 G1 t1 r1 h1 => ?_)
  refine hb (S.step t1) (Rq.bind (rep := DRep X.K) h1 fun y ey w H2 G2 t2 r2 h2 => ?_)
  refine od t2.gh (r1.mono t2.gg) r2 (Rq.bind (rep := DRep X.K) h2 fun z ez u H3 G3 t3 r3 h3 => ?_)
  cases q : asB z with
  | ok k =>
    rw [q] at h3
    refine ⟨k, asB_rep r3 q, ?_⟩
    cases k with
    | true =>
      rw [if_pos rfl]
      exact hc ((S.step t1).step (t2.trans t3)) (Rq.bind (rep := DRep X.K) h3 fun y' ey' w' H4 G4 t4 r4 h4 => od' t4.gh (r2.mono (t3.gg.trans t4.gg)) r4 h4)
    | false =>
      rw [if_neg (by decide)]
      exact Rq.ok_self (rep := DRep X.K) t3.gh h3 (.bl false)
  | exc c fs => exact absurd q asB_no
  | bad => rw [q] at h3; exact h3.elim
end
end LD

set_option maxHeartbeats 2000000
/-! Layer D, part C: operators, subscripts, built-ins. -/
namespace LD
open PySem PySem.Spec PyProof.Rows L2

/-! ### numbers -/
def iBin (g : Int → Int → R DV) : DV → DV → R DV
  | .int i, .int j => g i j
  | _, _ => .bad
def inM (i : Int) : Bool := decide (-(2 ^ 64) < i) && decide (i < 2 ^ 64)
theorem inM_ok {i : Int} (h : inM i = true) : -(2 ^ 64) < i ∧ i < 2 ^ 64 := by
  obtain ⟨a, b⟩ := Bool.and_eq_true_iff.mp h
  exact ⟨of_decide_eq_true a, of_decide_eq_true b⟩
/-- + of ints, texts, lists, tuples -/
def oAdd : DV → DV → R DV
  | .int i, .int j => .ok (.int (i + j))
  | .str x, .str y => if small (x.length + y.length) = true then .ok (.str (x ++ y)) else .bad
  | .lst xs, .lst ys => if small (xs.length + ys.length) = true then .ok (.lst (xs ++ ys)) else .bad
  | .tup xs, .tup ys => if small (xs.length + ys.length) = true then .ok (.tup (xs ++ ys)) else .bad
  | _, _ => .bad
def oSub : DV → DV → R DV := iBin fun i j => .ok (.int (i - j))
def oMul : DV → DV → R DV := iBin fun i j => if inM i || inM j then .ok (.int (i * j)) else .bad
def oDiv : DV → DV → R DV := iBin fun i j => if decide (0 < j) && decide (j < 1073741824) then .ok (.int (i / j)) else .bad
def oMod : DV → DV → R DV := iBin fun i j => if decide (0 < j) then .ok (.int (i % j)) else .bad
def oPow : DV → DV → R DV := iBin fun i j => if decide (0 ≤ j) && (decide (j ≤ 1000000) && decide (i.natAbs < 2 ^ 64)) then .ok (.int (i ^ j.toNat)) else .bad
def oLt : DV → DV → R DV := iBin fun i j => .ok (.bl (decide (i < j)))
def oLe : DV → DV → R DV := iBin fun i j => .ok (.bl (decide (i ≤ j)))
def oGt : DV → DV → R DV := iBin fun i j => .ok (.bl (decide (j < i)))
def oGe : DV → DV → R DV := iBin fun i j => .ok (.bl (decide (j ≤ i)))
def oNeg : DV → R DV
  | .int i => .ok (.int (-i))
  | _ => .bad
section
variable {X : Cx}
theorem iBin_ok {K : PySem.W.Frag} {G H : Hp} {x y : V} {dx dy : DV} {g : Int → Int → R DV} {W : Value → Option Addr → Hp → Prop} {Q : VK} (rx : DRep K G x dx) (ry : DRep K G y dy) (h : Rq K (DRep K) W G H (iBin g dx dy) Q) :
    ∃ i j, x = .int i ∧ y = .int j ∧ Rq K (DRep K) W G H (g i j) Q := by
  cases rx with
  | int i =>
    cases ry with
    | int j => exact ⟨i, j, rfl, rfl, h⟩
    | _ => exact h.elim
  | _ => exact h.elim
theorem rq_if {K : PySem.W.Frag} {G H : Hp} {W : Value → Option Addr → Hp → Prop} {Q : VK} {c : Bool} {d : DV} (h : Rq K (DRep K) W G H (if c = true then .ok d else .bad) Q) : c = true ∧ Rq K (DRep K) W G H (.ok d) Q := by
  cases c with
  | true => exact ⟨rfl, h⟩
  | false => exact h.elim
theorem od_sub : OpD X (rI0 fun i j => .int (i - j)) oSub := fun {G H x y dx dy Q W} s rx ry h => by
  obtain ⟨i, j, rfl, rfl, q⟩ := iBin_ok rx ry h
  exact ⟨i, j, rfl, rfl, q.ok_self s (.int _)⟩
theorem od_mul : OpD X (rI CMul fun i j => .int (i * j)) oMul := fun {G H x y dx dy Q W} s rx ry h => by
  obtain ⟨i, j, rfl, rfl, q⟩ := iBin_ok rx ry h
  obtain ⟨c, q⟩ := rq_if q
  exact ⟨i, j, rfl, rfl, (Bool.or_eq_true_iff.mp c).elim (fun z => .inl (inM_ok z)) (fun z => .inr (inM_ok z)), q.ok_self s (.int _)⟩
theorem od_div : OpD X (rI CDiv fun i j => .int (i / j)) oDiv := fun {G H x y dx dy Q W} s rx ry h => by
  obtain ⟨i, j, rfl, rfl, q⟩ := iBin_ok rx ry h
  obtain ⟨c, q⟩ := rq_if q
  obtain ⟨c1, c2⟩ := Bool.and_eq_true_iff.mp c
  exact ⟨i, j, rfl, rfl, ⟨of_decide_eq_true c1, of_decide_eq_true c2⟩, q.ok_self s (.int _)⟩
theorem od_mod : OpD X (rI (fun _ j => 0 < j) fun i j => .int (i % j)) oMod := fun {G H x y dx dy Q W} s rx ry h => by
  obtain ⟨i, j, rfl, rfl, q⟩ := iBin_ok rx ry h
  obtain ⟨c, q⟩ := rq_if q
  exact ⟨i, j, rfl, rfl, of_decide_eq_true c, q.ok_self s (.int _)⟩
theorem od_pow : OpD X (rI CPow fun i j => .int (i ^ j.toNat)) oPow := fun {G H x y dx dy Q W} s rx ry h => by
  obtain ⟨i, j, rfl, rfl, q⟩ := iBin_ok rx ry h
  obtain ⟨c, q⟩ := rq_if q
  obtain ⟨c1, c⟩ := Bool.and_eq_true_iff.mp c
  obtain ⟨c2, c3⟩ := Bool.and_eq_true_iff.mp c
  exact ⟨i, j, rfl, rfl, ⟨of_decide_eq_true c1, of_decide_eq_true c2, of_decide_eq_true c3⟩, q.ok_self s (.int _)⟩
theorem od_lt : OpD X (rI0 fun i j => .bl (decide (i < j))) oLt := fun {G H x y dx dy Q W} s rx ry h => by
  obtain ⟨i, j, rfl, rfl, q⟩ := iBin_ok rx ry h
  exact ⟨i, j, rfl, rfl, q.ok_self s (.bl _)⟩
theorem od_le : OpD X (rI0 fun i j => .bl (decide (i ≤ j))) oLe := fun {G H x y dx dy Q W} s rx ry h => by
  obtain ⟨i, j, rfl, rfl, q⟩ := iBin_ok rx ry h
  exact ⟨i, j, rfl, rfl, q.ok_self s (.bl _)⟩
theorem od_gt : OpD X (rI0 fun i j => .bl (decide (j < i))) oGt := fun {G H x y dx dy Q W} s rx ry h => by
  obtain ⟨i, j, rfl, rfl, q⟩ := iBin_ok rx ry h
  exact ⟨i, j, rfl, rfl, q.ok_self s (.bl _)⟩
theorem od_ge : OpD X (rI0 fun i j => .bl (decide (j ≤ i))) oGe := fun {G H x y dx dy Q W} s rx ry h => by
  obtain ⟨i, j, rfl, rfl, q⟩ := iBin_ok rx ry h
  exact ⟨i, j, rfl, rfl, q.ok_self s (.bl _)⟩
theorem od_neg {G H : Hp} {x : V} {dx : DV} {Q : VK} {W : Value → Option Addr → Hp → Prop} (s : Same G H) (r : DRep X.K G x dx) (h : Rq X.K (DRep X.K) W G H (oNeg dx) Q) : rU (fun i => .int (-i)) x H Q := by
  cases r with
  | int i => exact ⟨i, rfl, h.ok_self s (.int _)⟩
  | _ => exact h.elim

/-! ### + -/
theorem od_add : OpD X (fun x y H Q => rI0 (fun i j => .int (i + j)) x y H Q ∨ (∃ i j, x = .str i ∧ y = .str j ∧ i.length + j.length ≤ sizeLine ∧ Q (.str (i ++ j)) H) ∨ rCat x y H Q ∨ rCatA X.K x y H Q) oAdd := fun {G H x y dx dy Q W} s rx ry h => by
  cases rx with
  | int i =>
    cases ry with
    | int j => exact .inl ⟨i, j, rfl, rfl, h.ok_self s (.int _)⟩
    | _ => exact h.elim
  | str i =>
    cases ry with
    | str j =>
      obtain ⟨c, q⟩ := rq_if h
      exact .inr (.inl ⟨i, j, rfl, rfl, small_le c, q.ok_self s (.str _)⟩)
    | _ => exact h.elim
  | lst e r =>
    cases ry with
    | lst e' r' =>
      obtain ⟨c, q⟩ := rq_if h
      exact .inr (.inr (.inl ⟨_, _, _, _, rfl, rfl, s _ _ e, s _ _ e', by rw [r.length, r'.length]; exact small_le c, fun p hp => q.ok_new s hp (.lst upd_same ((r.append r').mono (Same.upd (s.none hp))))⟩))
    | _ => exact h.elim
  | tup e r =>
    cases ry with
    | tup e' r' =>
      obtain ⟨c, q⟩ := rq_if h
      refine .inr (.inr (.inr ⟨_, _, _, _, rfl, rfl, SqT.of (s _ _ e), SqT.of (s _ _ e'), by rw [r.length, r'.length]; exact small_le c, fun z => ?_, fun _ z => ?_, fun _ _ p hp => q.ok_new s hp (.tup upd_same ((r.append r').mono (Same.upd (s.none hp))))⟩))
      · subst z; cases r; exact q.ok_self s (.tup e' r')
      · subst z; cases r'; rw [List.append_nil] at q; exact q.ok_self s (.tup e r)
    | _ => exact h.elim
  | _ => exact h.elim
theorem op_addA : OpR X (binaryOp .Add) (fun x y H Q => rI0 (fun i j => .int (i + j)) x y H Q ∨ (∃ i j, x = .str i ∧ y = .str j ∧ i.length + j.length ≤ sizeLine ∧ Q (.str (i ++ j)) H) ∨ rCat x y H Q ∨ rCatA X.K x y H Q) :=
  OpR.or op_add (OpR.or op_add_str (OpR.or op_cat op_catA))

/-! ### == of plain data -/
mutual
def toPy : DV → Option PyData
  | .non => some .none
  | .bl b => some (.bool b)
  | .int i => some (.int i)
  | .str x => some (.str x)
  | .tup xs => (toPys xs).map .tuple
  | .lst xs => (toPys xs).map .list
  | .ro xs => (toPys xs).map .list
  | .dic _ => none
  | .dit _ => none
  | .obj _ _ => none
def toPys : List DV → Option (List PyData)
  | [] => some []
  | x :: xs => match toPy x, toPys xs with
    | some p, some ps => some (p :: ps)
    | _, _ => none
end
mutual
theorem toPy_dp {K : PySem.W.Frag} {G H : Hp} (s : Same G H) : ∀ {v : V} {d : DV} {p : PyData}, DRep K G v d → toPy d = some p → Dp K H v p
  | _, _, _, .non, e => by cases e; exact .non
  | _, _, _, .bl b, e => by cases e; exact .bl b
  | _, _, _, .int i, e => by cases e; exact .int i
  | _, _, _, .str x, e => by cases e; exact .str x
  | _, _, p, .tup (ds := ds) h r, e => by
    cases q : toPys ds with
    | none => simp only [toPy, q] at e; cases e
    | some ps => simp only [toPy, q] at e; cases e; exact .tup (SqT.of (s _ _ h)) (toPys_dp s r q)
  | _, _, p, .lst (ds := ds) h r, e => by
    cases q : toPys ds with
    | none => simp only [toPy, q] at e; cases e
    | some ps => simp only [toPy, q] at e; cases e; exact .lst (SqL.of (s _ _ h)) (toPys_dp s r q)
  | _, _, p, .ro (ds := ds) h r, e => by
    cases q : toPys ds with
    | none => simp only [toPy, q] at e; cases e
    | some ps => simp only [toPy, q] at e; cases e; exact .lst (Same.seq s h) (toPys_dp s r q)
  | _, _, _, .dic _ _, e => by simp only [toPy] at e; cases e
  | _, _, _, .dit _ _, e => by simp only [toPy] at e; cases e
  | _, _, _, .obj _ _, e => by simp only [toPy] at e; cases e
theorem toPys_dp {K : PySem.W.Frag} {G H : Hp} (s : Same G H) : ∀ {v : List V} {d : List DV} {p : List PyData}, DReps K G v d → toPys d = some p → DpAll K H v p
  | _, _, _, .nil, e => by cases e; exact .nil
  | _, _, p, .cons (d := d) (ds := ds) a b, e => by
    cases q1 : toPy d with
    | none => simp only [toPys, q1] at e; cases e
    | some p1 =>
      cases q2 : toPys ds with
      | none => simp only [toPys, q1, q2] at e; cases e
      | some p2 => simp only [toPys, q1, q2] at e; cases e; exact .cons (toPy_dp s a q1) (toPys_dp s b q2)
end
def oEqW (neg : Bool) (x y : DV) : R DV := match toPy x, toPy y with
  | some p, some q => if SeqAt.shaped p && SeqAt.shaped q then .ok (.bl (if neg then !PyData.eqv p q else PyData.eqv p q)) else .bad
  | _, _ => .bad
def oEq : DV → DV → R DV := oEqW false
def oNe : DV → DV → R DV := oEqW true
theorem od_eqW {neg : Bool} {G H : Hp} {x y : V} {dx dy : DV} {Q : VK} {W : Value → Option Addr → Hp → Prop} (s : Same G H) (rx : DRep X.K G x dx) (ry : DRep X.K G y dy) (h : Rq X.K (DRep X.K) W G H (oEqW neg dx dy) Q) :
    ∃ d e, Dp X.K H x d ∧ Dp X.K H y e ∧ SeqAt.shaped d = true ∧ SeqAt.shaped e = true ∧ Q (.bl (if neg then !PyData.eqv d e else PyData.eqv d e)) H := by
  unfold oEqW at h
  cases q1 : toPy dx with
  | none => rw [q1] at h; exact h.elim
  | some p =>
    cases q2 : toPy dy with
    | none => rw [q1, q2] at h; exact h.elim
    | some q =>
      rw [q1, q2] at h
      obtain ⟨c, z⟩ := rq_if h
      obtain ⟨c1, c2⟩ := Bool.and_eq_true_iff.mp c
      exact ⟨p, q, toPy_dp s rx q1, toPy_dp s ry q2, c1, c2, z.ok_self s (.bl _)⟩
theorem od_eq : OpD X (rEqD X.K) oEq := fun {G H x y dx dy Q W} s rx ry h => od_eqW s rx ry h
theorem od_ne : OpD X (rNeD X.K) oNe := fun {G H x y dx dy Q W} s rx ry h => od_eqW s rx ry h
/-- is None -/
def oIsN : DV → DV → R DV
  | x, .non => .ok (.bl (match x with | .non => true | _ => false))
  | _, _ => .bad
def oNotN : DV → DV → R DV
  | x, .non => .ok (.bl (match x with | .non => false | _ => true))
  | _, _ => .bad
theorem isN_rep {K : PySem.W.Frag} {G : Hp} {x : V} {d : DV} (r : DRep K G x d) : decide (x = .non) = (match d with | .non => true | _ => false) := by
  cases r <;> rfl
theorem od_isN : OpD X (fun x y H Q => y = .non ∧ Q (.bl (decide (x = .non))) H) oIsN := fun {G H x y dx dy Q W} s rx ry h => by
  cases ry with
  | non =>
    refine ⟨rfl, ?_⟩
    rw [isN_rep rx]
    cases dx <;> exact h.ok_self s (.bl _)
  | _ => cases dx <;> exact h.elim
theorem od_notN : OpD X (fun x y H Q => y = .non ∧ Q (.bl (!decide (x = .non))) H) oNotN := fun {G H x y dx dy Q W} s rx ry h => by
  cases ry with
  | non =>
    refine ⟨rfl, ?_⟩
    rw [isN_rep rx]
    cases dx <;> exact h.ok_self s (.bl _)
  | _ => cases dx <;> exact h.elim
/-- one sign in a text -/
def oInS : DV → DV → R DV
  | .str c, .str z => match c.cps.toList with
    | [k] => .ok (.bl (decide (k ∈ z.cps.toList)))
    | _ => .bad
  | _, _ => .bad
theorem str_one {c : Str} {k : Nat} (h : c.cps.toList = [k]) : c = ⟨#[k]⟩ := by
  obtain ⟨⟨l⟩⟩ := c
  simp only at h
  rw [h]
theorem od_inS : OpD X (fun x y H Q => ∃ (c : Nat) (z : Str), x = .str ⟨#[c]⟩ ∧ y = .str z ∧ Q (.bl (decide (c ∈ z.cps.toList))) H) oInS := fun {G H x y dx dy Q W} s rx ry h => by
  cases rx with
  | str c =>
    cases ry with
    | str z =>
      unfold oInS at h
      dsimp only at h
      split at h
      · rename_i k e
        exact ⟨k, z, by rw [str_one e], rfl, h.ok_self s (.bl _)⟩
      · exact h.elim
    | _ => exact h.elim
  | _ => exact h.elim

/-! ### subscripts -/
def oIx : DV → DV → R DV
  | .lst xs, .int i => R.ofO (atI xs i)
  | .ro xs, .int i => R.ofO (atI xs i)
  | .tup xs, .int i => R.ofO (atI xs i)
  | .str z, .int i => if small z.length then R.ofO ((atI z.cps.toList i).map fun c => .str ⟨#[c]⟩) else .bad
  | _, _ => .bad
theorem atI_rep {K : PySem.W.Frag} {G : Hp} {vs : List V} {ds : List DV} {i : Int} {d : DV} (r : DReps K G vs ds) (h : atI ds i = some d) : ∃ v, atI vs i = some v ∧ DRep K G v d := by
  unfold atI at h ⊢
  rw [r.length]
  cases q : ixN ds.length i with
  | none => rw [q] at h; cases h
  | some j => rw [q] at h; exact r.get h
theorem od_ix : OpD X (rIx X.K) oIx := fun {G H x y dx dy Q W} s rx ry h => by
  have key : ∀ {vs : List V} {ds : List DV} {i : Int}, DReps X.K G vs ds → Rq X.K (DRep X.K) W G H (R.ofO (atI ds i)) Q → ∃ v, atI vs i = some v ∧ Q v H := fun {vs ds i} r h => by
    cases e : atI ds i with
    | none => rw [e] at h; exact h.elim
    | some d =>
      rw [e] at h
      obtain ⟨v, hv, p⟩ := atI_rep r e
      exact ⟨v, hv, Rq.ok_self (rep := DRep X.K) s h p⟩
  cases ry with
  | int i =>
    cases rx with
    | lst e r =>
      obtain ⟨v, hv, q⟩ := key r h
      exact .inl ⟨_, _, i, v, rfl, rfl, SqL.of (s _ _ e), hv, q⟩
    | ro e r =>
      obtain ⟨v, hv, q⟩ := key r h
      exact .inl ⟨_, _, i, v, rfl, rfl, Same.seq s e, hv, q⟩
    | tup e r =>
      obtain ⟨v, hv, q⟩ := key r h
      exact .inr (.inl ⟨_, _, i, v, rfl, rfl, SqT.of (s _ _ e), hv, q⟩)
    | str z =>
      unfold oIx at h
      dsimp only at h
      cases c : small z.length with
      | false => rw [c] at h; exact h.elim
      | true =>
        rw [c, if_pos rfl] at h
        cases e : atI z.cps.toList i with
        | none => rw [e] at h; exact h.elim
        | some k => rw [e] at h; exact .inr (.inr ⟨z, i, k, rfl, rfl, small_le c, e, Rq.ok_self (rep := DRep X.K) s h (.str _)⟩)
    | _ => exact h.elim
  | _ => cases rx <;> exact h.elim
end
section
variable {X : Cx} {W : WX} {a b : Expr} {es : List Expr} {fa fb : Ev → R DV} {fes : Ev → R (List DV)} {pos : Pos}
theorem d_ixW {r : R2} {op : DV → DV → R DV} (hr : IxR X r) (od : OpD X r op) (A : PD X W a fa) (B : PD X W b fb) (hs : PlainIx b := by exact fun _ _ => rfl) : PD X W (.Subscript a b pos) (xOp op fa fb) := by
  obtain ⟨ta, pa, ha⟩ := A.ex
  obtain ⟨tb, pb, hb⟩ := B.ex
  refine ⟨_, pe_ix hr pa pb hs, fun {B0 G H δ σ Q} S h => ?_⟩
  refine ha S (Rq.bind (rep := DRep X.K) h fun x ex v H1 G1 t1 r1 h1 => ?_)
  refine hb (S.step t1) (Rq.bind (rep := DRep X.K) h1 fun y ey w H2 G2 t2 r2 h2 => ?_)
  exact od t2.gh (r1.mono t2.gg) r2 h2
theorem d_ix (A : PD X W a fa) (B : PD X W b fb) (hs : PlainIx b := by exact fun _ _ => rfl) : PD X W (.Subscript a b pos) (xOp oIx fa fb) := d_ixW ix_seq od_ix A B hs

/-! ### slices -/
structure PDO (X : Cx) (W : WX) (e : Option Expr) (f : Ev → R (Option Int)) : Prop where
  ex : ∃ t : TO, PO X e t ∧ ∀ {B : Bas} {G H : Hp} {δ : Ev} {σ : L2.St} {Q : Option Int → Hp → Prop}, SOk X.K B G H δ σ → Rq X.K (fun _ b a => b = a) (fun c d H' => W c d σ H') G H (f δ) Q → t σ H Q
def xNo : Ev → R (Option Int) := fun _ => .ok none
def asI : DV → R (Option Int)
  | .int i => .ok (some i)
  | _ => .bad
def xPart (fa : Ev → R DV) : Ev → R (Option Int) := fun δ => (fa δ).bind asI
theorem do_none : PDO X W none xNo := ⟨_, po_none, fun {B0 G H δ σ Q} S h => h none H G (Tr.refl S.gh) rfl⟩
theorem do_some (A : PD X W a fa) : PDO X W (some a) (xPart fa) := by
  obtain ⟨ta, pa, ha⟩ := A.ex
  refine ⟨_, po_some pa, fun {B0 G H δ σ Q} S h => ?_⟩
  refine ha S (Rq.bind (rep := DRep X.K) h fun x ex v H1 G1 t1 r1 h1 => ?_)
  cases r1 with
  | int i => exact ⟨i, rfl, h1 (some i) H1 G1 (Tr.refl t1.gh) rfl⟩
  | _ => exact h1.elim
def cutD {α : Type} (xs : List α) (lo hi : Option Int) : List α := (xs.drop (HT.sIx xs.length 0 lo)).take (HT.sIx xs.length xs.length hi - HT.sIx xs.length 0 lo)
def oSl (d : DV) (lo hi : Option Int) : R DV := match d with
  | .lst xs => .ok (.lst (cutD xs lo hi))
  | .ro xs => .ok (.lst (cutD xs lo hi))
  | .tup xs => .ok (.tup (cutD xs lo hi))
  | .str z => if small z.length then .ok (.str (cutS z lo hi)) else .bad
  | _ => .bad
theorem cut_rep {K : PySem.W.Frag} {G : Hp} {vs : List V} {ds : List DV} {lo hi : Option Int} (r : DReps K G vs ds) : DReps K G (cutV vs lo hi) (cutD ds lo hi) := by
  unfold cutV cutD
  rw [r.length]
  exact (r.drop _).take _
theorem sIx_le (n d : Nat) (h : d ≤ n) (o : Option Int) : HT.sIx n d o ≤ n := by
  unfold HT.sIx
  cases o with
  | none => exact h
  | some i =>
    dsimp only
    repeat (first | split | omega)
theorem cut_whole {α : Type} {xs : List α} {lo hi : Option Int} (h : HT.sIx xs.length 0 lo = 0 ∧ HT.sIx xs.length xs.length hi = xs.length) : cutD xs lo hi = xs := by
  unfold cutD
  rw [h.1, h.2]
  simp
def xSl (fa : Ev → R DV) (fl fh : Ev → R (Option Int)) : Ev → R DV := fun δ => (fa δ).bind fun x => (fl δ).bind fun l => (fh δ).bind fun u => oSl x l u
theorem d_slice {lo hi : Option Expr} {fl fh : Ev → R (Option Int)} {p2 : Pos} (A : PD X W a fa) (L : PDO X W lo fl) (U : PDO X W hi fh) : PD X W (.Subscript a (.Slice lo hi none p2) pos) (xSl fa fl fh) := by
  obtain ⟨ta, pa, ha⟩ := A.ex
  obtain ⟨tl, pl, hl⟩ := L.ex
  obtain ⟨tu, pu, hu⟩ := U.ex
  refine ⟨_, pe_slice (SlR.or sl_list (SlR.or sl_tupA sl_str)) pa pl pu, fun {B0 G H δ σ Q} S h => ?_⟩
  refine ha S (Rq.bind (rep := DRep X.K) h fun x ex v H1 G1 t1 r1 h1 => ?_)
  refine hl (S.step t1) (Rq.bind h1 fun l el l' H2 G2 t2 e2 h2 => ?_)
  subst e2
  refine hu ((S.step t1).step t2) (Rq.bind h2 fun u eu u' H3 G3 t3 e3 h3 => ?_)
  subst e3
  have r := r1.mono (t2.gg.trans t3.gg)
  have s := t3.gh
  cases r with
  | lst e r => exact .inl ⟨_, _, rfl, SqL.of (s _ _ e), fun p hp => Rq.ok_new (rep := DRep X.K) s hp h3 (.lst upd_same ((cut_rep r).mono (Same.upd (s.none hp))))⟩
  | ro e r => exact .inl ⟨_, _, rfl, Same.seq s e, fun p hp => Rq.ok_new (rep := DRep X.K) s hp h3 (.lst upd_same ((cut_rep r).mono (Same.upd (s.none hp))))⟩
  | tup e r =>
    refine .inr (.inl ⟨_, _, rfl, SqT.of (s _ _ e), fun z => ?_, fun _ p hp => Rq.ok_new (rep := DRep X.K) s hp h3 (.tup upd_same ((cut_rep r).mono (Same.upd (s.none hp))))⟩)
    rw [r.length] at z
    have q : oSl (.tup _) l' u' = .ok (.tup _) := congrArg (fun y => R.ok (DV.tup y)) (cut_whole z)
    rw [q] at h3
    exact Rq.ok_self (rep := DRep X.K) s h3 (.tup e r)
  | str z =>
    obtain ⟨c, q⟩ := rq_if h3
    exact .inr (.inr ⟨z, rfl, small_le c, Rq.ok_self (rep := DRep X.K) s q (.str _)⟩)
  | _ => exact h3.elim

/-! ### built-ins by name -/
/-- a built-in's reading by data -/
def CbD (X : Cx) (r : List V → Hp → VK → Prop) (op : List DV → R DV) : Prop :=
  ∀ {G H : Hp} {vs : List V} {ds : List DV} {Q : VK} {W : Value → Option Addr → Hp → Prop}, Same G H → DReps X.K G vs ds → Rq X.K (DRep X.K) W G H (op ds) Q → r vs H Q
def xCB (op : List DV → R DV) (fes : Ev → R (List DV)) : Ev → R DV := fun δ => (fes δ).bind op
variable {x : Str} {p : Pos} {id T : String} {r : List V → Hp → VK → Prop} {op : List DV → R DV}
theorem d_callB (hc : CallR X (.builtin id) r) (od : CbD X r op) (hm : X.mg x = none) (hv : bootBuiltins x = some (.builtin id)) (A : PDA X W (a :: es) fes) (hg : Gl X x := by rfl) (hn : x ≠ "__name__" := by decide) (hdb : (x == ("__debug__" : Str)) = false := by decide)
    (he : starEach (a :: es) X.env = (false, eval a X.env) :: starEach es X.env := by rfl) (hpl : (backTo pos (starEach es X.env)).any (·.1) = false := by rfl) : PD X W (.Call (.Name x p) (a :: es) [] pos) (xCB op fes) := by
  obtain ⟨ta, pa, ha⟩ := A.ex
  refine ⟨_, pe_callB hc hg hm hv pa hn hdb he hpl, fun {B0 G H δ σ Q} S h => ?_⟩
  exact ha S (Rq.bind (rep := DReps X.K) h fun xs ex vs H1 G1 t1 r1 h1 => od t1.gh r1 h1)
theorem d_callTy (hc : CallR X (.type T) r) (od : CbD X r op) (hm : X.mg x = none) (hv : bootBuiltins x = some (.type T)) (A : PDA X W (a :: es) fes) (hg : Gl X x := by rfl) (hn : x ≠ "__name__" := by decide) (hdb : (x == ("__debug__" : Str)) = false := by decide)
    (he : starEach (a :: es) X.env = (false, eval a X.env) :: starEach es X.env := by rfl) (hpl : (backTo pos (starEach es X.env)).any (·.1) = false := by rfl) : PD X W (.Call (.Name x p) (a :: es) [] pos) (xCB op fes) := by
  obtain ⟨ta, pa, ha⟩ := A.ex
  refine ⟨_, pe_callTy hc hg hm hv pa hn hdb he hpl, fun {B0 G H δ σ Q} S h => ?_⟩
  exact ha S (Rq.bind (rep := DReps X.K) h fun xs ex vs H1 G1 t1 r1 h1 => od t1.gh r1 h1)
end
end LD

set_option maxHeartbeats 2000000
/-! Layer D, part D: statements. -/
namespace LD
open PySem PySem.Spec PyProof.Rows L2

inductive SR where
  | nx (δ : Ev)
  | rt (d : DV)
  | bk (δ : Ev)
  | ct (δ : Ev)
  | ex (c : Str) (fs : List (Str × DV)) (δ : Ev)
  | bad
def SRq (K : PySem.W.Frag) (W : WX) (D : Ends) (B : Bas) (G : Hp) (r : SR) : Prop := match r with
  | .nx δ => ∀ σ H' G', Same G G' → SOk K B G' H' δ σ → D.nx σ H'
  | .bk δ => ∀ σ H' G', Same G G' → SOk K B G' H' δ σ → D.bk σ H'
  | .ct δ => ∀ σ H' G', Same G G' → SOk K B G' H' δ σ → D.ct σ H'
  | .rt d => ∀ v H' G', Tr B.G0 B.H0 G' H' → DRep K G' v d → D.rt v H'
  | .ex c fs δ => ∀ σ H' G' dx, Same G G' → SOk K B G' H' δ σ → XRep K G' H' dx fs → W (.ref (He.ga K c)) dx σ H'
  | .bad => False
theorem SRq.gg {K : PySem.W.Frag} {W : WX} {D : Ends} {B : Bas} {G G1 : Hp} {r : SR} (s : Same G G1) (h : SRq K W D B G r) : SRq K W D B G1 r := by
  cases r with
  | nx δ => exact fun σ H' G' g => h σ H' G' (s.trans g)
  | bk δ => exact fun σ H' G' g => h σ H' G' (s.trans g)
  | ct δ => exact fun σ H' G' g => h σ H' G' (s.trans g)
  | rt d => exact h
  | ex c fs δ => exact fun σ H' G' dx g => h σ H' G' dx (s.trans g)
  | bad => exact h

structure PSD (X : Cx) (W : WX) (st : Stmt) (F : Ev → SR) : Prop where
  ex : ∃ t : TS, PS X st t ∧ ∀ {B : Bas} {G H : Hp} {δ : Ev} {σ : L2.St} {D : Ends}, SOk X.K B G H δ σ → SRq X.K W D B G (F δ) → t D σ H
structure PSSD (X : Cx) (W : WX) (st : List Stmt) (F : Ev → SR) : Prop where
  ex : ∃ t : TS, PSs X st t ∧ ∀ {B : Bas} {G H : Hp} {δ : Ev} {σ : L2.St} {D : Ends}, SOk X.K B G H δ σ → SRq X.K W D B G (F δ) → t D σ H

/-- from an expression's result to a statement's -/
def xS {α : Type} (r : R α) (δ : Ev) (k : α → SR) : SR := match r with
  | .ok a => k a
  | .exc c fs => .ex c fs δ
  | .bad => .bad
theorem SRq.of {α β : Type} {K : PySem.W.Frag} {rep : Rel α β} {W : WX} {D : Ends} {B : Bas} {G H : Hp} {δ : Ev} {σ : L2.St} {r : R α} {k : α → SR} {Q : β → Hp → Prop} (S : SOk K B G H δ σ) (h : SRq K W D B G (xS r δ k))
    (c : ∀ a, r = .ok a → ∀ b H1 G1, Tr G H G1 H1 → rep G1 b a → SRq K W D B G1 (k a) → Q b H1) : Rq K rep (fun c d H' => W c d σ H') G H r Q := by
  cases r with
  | ok a => exact fun b H' G' t p => c a rfl b H' G' t p (h.gg t.gg)
  | exc cl fs => exact fun H' G' d t x => h σ H' G' d t.gg (S.step t) x
  | bad => exact h

/-! ### targets -/
structure PGD (X : Cx) (tg : Expr) (ix : List Nat) (g : DV → Ev → R Ev) : Prop where
  ex : ∃ t : TG, PG X tg t ∧ ∀ {B : Bas} {G H : Hp} {δ δ' : Ev} {σ : L2.St} {v : V} {d : DV} {Q : L2.St → Hp → Prop}, SOk X.K B G H δ σ → DRep X.K G v d → g d δ = .ok δ' →
    (∀ σ', SOk X.K B G H δ' σ' → (∀ vs : List Nat, (∀ i ∈ ix, i ∈ vs) → wipe σ' vs = wipe σ vs) → Q σ' H) → t v σ H Q
structure PGsD (X : Cx) (tg : List Expr) (ix : List Nat) (g : List DV → Ev → R Ev) : Prop where
  ex : ∃ t : TGs, PGs X tg t ∧ ∀ {B : Bas} {G H : Hp} {δ δ' : Ev} {σ : L2.St} {v : List V} {d : List DV} {Q : L2.St → Hp → Prop}, SOk X.K B G H δ σ → DReps X.K G v d → g d δ = .ok δ' →
    (∀ σ', SOk X.K B G H δ' σ' → (∀ vs : List Nat, (∀ i ∈ ix, i ∈ vs) → wipe σ' vs = wipe σ vs) → Q σ' H) → t v σ H Q
def gN (i : Nat) : DV → Ev → R Ev := fun d δ => .ok (δ.set i (.pu d))
def gsNil : List DV → Ev → R Ev := fun ds δ => match ds with
  | [] => .ok δ
  | _ => .bad
def gsCons (g : DV → Ev → R Ev) (gs : List DV → Ev → R Ev) : List DV → Ev → R Ev := fun ds δ => match ds with
  | d :: ds => (g d δ).bind (gs ds)
  | [] => .bad
def gT (n : Nat) (gs : List DV → Ev → R Ev) : DV → Ev → R Ev := fun d δ => match d with
  | .tup ds => if Nat.beq ds.length n then gs ds δ else .bad
  | .lst ds => if Nat.beq ds.length n then gs ds δ else .bad
  | _ => .bad
theorem wipe_set {σ : L2.St} {i : Nat} {v : Option V} : ∀ {vs : List Nat}, i ∈ vs → wipe (σ.set i v) vs = wipe σ vs
  | j :: vs, h => by
    show (wipe (σ.set i v) vs).set j none = (wipe σ vs).set j none
    by_cases q : i ∈ vs
    · rw [wipe_set q]
    · have e : i = j := (List.mem_cons.mp h).resolve_right q
      subst e
      have key : ∀ (ws : List Nat) (τ : L2.St), (wipe (τ.set i v) ws).set i none = (wipe τ ws).set i none := by
        intro ws
        induction ws with
        | nil => intro τ; show (τ.set i v).set i none = τ.set i none; rw [List.set_set]
        | cons k ws ih =>
          intro τ
          show ((wipe (τ.set i v) ws).set k none).set i none = ((wipe τ ws).set k none).set i none
          by_cases e : k = i
          · subst e; rw [List.set_set, List.set_set]; exact ih τ
          · rw [List.set_comm _ _ e, List.set_comm _ _ e, ih τ]
      exact key vs σ
section
variable {X : Cx} {W : WX} {a b c : Expr} {es : List Expr} {fa fb fc : Ev → R DV} {fes : Ev → R (List DV)} {ga gb : Ev → R Bool} {pos : Pos}
theorem dg_name (i : Nat) {x : Str} (hN : X.N.Nodup) (hi : X.N[i]? = some x := by rfl) (hx : Loc X.env.scope x := by first | exact Or.inl rfl | exact Or.inr rfl)
    (hf : X.fn x = true ∨ X.env.scope.names.lookup x = some .local := by first | exact .inl rfl | exact .inr rfl) : PGD X (.Name x pos) [i] (gN i) := by
  refine ⟨_, pg_name hN hi hx hf, fun {B0 G H δ δ' σ v d Q} S r e h => ?_⟩
  cases e
  exact h _ (S.set i r) fun vs hv => wipe_set (hv i (List.mem_singleton.mpr rfl))
theorem dgs_nil : PGsD X [] [] gsNil := by
  refine ⟨_, pgs_nil, fun {B0 G H δ δ' σ v d Q} S r e h => ?_⟩
  cases r with
  | nil => cases e; exact ⟨rfl, h _ S fun _ _ => rfl⟩
  | cons _ _ => cases e
theorem dgs_cons {ix jx : List Nat} {g : DV → Ev → R Ev} {gs : List DV → Ev → R Ev} (A : PGD X a ix g) (B : PGsD X es jx gs)
    (hs : (assignEach (a :: es) X.env).map (·.2) = assign a X.env :: (assignEach es X.env).map (·.2) := by rfl) : PGsD X (a :: es) (ix ++ jx) (gsCons g gs) := by
  obtain ⟨ta, pa, ha⟩ := A.ex
  obtain ⟨tb, pb, hb⟩ := B.ex
  refine ⟨_, pgs_cons pa pb hs, fun {B0 G H δ δ' σ v d Q} S r e h => ?_⟩
  cases r with
  | nil => cases e
  | cons r1 r2 =>
    rename_i v1 d1 vs ds
    have e' : (g d1 δ).bind (gs ds) = .ok δ' := e
    cases q : g d1 δ with
    | ok δ1 =>
      rw [q] at e'
      refine ⟨_, _, rfl, ha S r1 q fun σ1 S1 w1 => hb S1 r2 e' fun σ2 S2 w2 => h σ2 S2 fun vs hv => ?_⟩
      rw [w2 vs fun i hi => hv i (List.mem_append_right _ hi), w1 vs fun i hi => hv i (List.mem_append_left _ hi)]
    | exc _ _ => rw [q] at e'; cases e'
    | bad => rw [q] at e'; cases e'
/-- what unpacks: a tuple or a list -/
def gSeq (K : PySem.W.Frag) (n : Nat) (t : TGs) : TG := fun v σ H Q => gTup K n t v σ H Q ∨ gLst K n t v σ H Q
theorem PG.or {tg : Expr} {t u : TG} (A : PG X tg t) (B : PG X tg u) : PG X tg (fun v σ H Q => t v σ H Q ∨ u v σ H Q) :=
  ⟨fun pins s σ H v w Q I r h => h.elim (fun z => A.run pins s σ H v w Q I r z) fun z => B.run pins s σ H v w Q I r z⟩
theorem dg_tup {ix : List Nat} {gs : List DV → Ev → R Ev} {k n : Nat} (hc : X.calm = true) (A : PGsD X es ix gs) (hn : (assignEach es X.env).length = n := by rfl) (hst : (assignEach es X.env).findIdx? (·.1) = none := by rfl) :
    PGD X (.Tuple es k pos) ix (gT n gs) := by
  obtain ⟨ta, pa, ha⟩ := A.ex
  refine ⟨_, PG.or (pg_tup hc pa hn hst) (pg_lst hc pa hn hst), fun {B0 G H δ δ' σ v d Q} S r e h => ?_⟩
  cases r with
  | tup e1 r1 =>
    rename_i p vs ds
    have e' : (if Nat.beq ds.length n = true then gs ds δ else .bad) = .ok δ' := e
    cases q : Nat.beq ds.length n with
    | true =>
      rw [q, if_pos rfl] at e'
      exact .inl ⟨p, vs, rfl, SqT.of (S.gh _ _ e1), by rw [r1.length]; exact Nat.eq_of_beq_eq_true q, ha S r1 e' h⟩
    | false => rw [q] at e'; cases e'
  | lst e1 r1 =>
    rename_i p vs ds
    have e' : (if Nat.beq ds.length n = true then gs ds δ else .bad) = .ok δ' := e
    cases q : Nat.beq ds.length n with
    | true =>
      rw [q, if_pos rfl] at e'
      exact .inr ⟨p, vs, rfl, SqL.of (S.gh _ _ e1), by rw [r1.length]; exact Nat.eq_of_beq_eq_true q, ha S r1 e' h⟩
    | false => rw [q] at e'; cases e'
  | _ => cases e

/-! ### simple statements -/
def sSeq (F F' : Ev → SR) : Ev → SR := fun δ => match F δ with
  | .nx δ' => F' δ'
  | r => r
def sNx : Ev → SR := fun δ => .nx δ
def sSet (i : Nat) (f : Ev → R DV) : Ev → SR := fun δ => xS (f δ) δ fun d => .nx (δ.set i (.pu d))
def sAsg (f : Ev → R DV) (g : DV → Ev → R Ev) : Ev → SR := fun δ => xS (f δ) δ fun d => match g d δ with
  | .ok δ' => .nx δ'
  | _ => .bad
def sPar (i j : Nat) (f f' : Ev → R DV) : Ev → SR := fun δ => xS (f δ) δ fun d => xS (f' δ) δ fun d' => .nx ((δ.set i (.pu d)).set j (.pu d'))
def sRet (f : Ev → R DV) : Ev → SR := fun δ => xS (f δ) δ .rt
def sDrop (f : Ev → R DV) : Ev → SR := fun δ => xS (f δ) δ fun _ => .nx δ
def sIf (c : Ev → R Bool) (F F' : Ev → SR) : Ev → SR := fun δ => xS (c δ) δ fun z => if z = true then F δ else F' δ
variable {st : Stmt} {sts : List Stmt} {F F' : Ev → SR}
theorem dss_nil : PSSD X W [] sNx := ⟨tNext, pss_nil, fun {B0 G H δ σ D} S h => h σ H G (Same.refl _) S⟩
theorem seq_req {K : PySem.W.Frag} {D : Ends} {B : Bas} {G : Hp} {δ : Ev} {u : TS} (h : SRq K W D B G (sSeq F F' δ)) (k : ∀ δ' σ H' G', Same G G' → SOk K B G' H' δ' σ → SRq K W D B G' (F' δ') → u D σ H') :
    SRq K W { D with nx := u D } B G (F δ) := by
  unfold sSeq at h
  cases q : F δ with
  | nx δ' => rw [q] at h; exact fun σ H' G' g S => k δ' σ H' G' g S (h.gg g)
  | rt d => rw [q] at h; exact h
  | bk δ' => rw [q] at h; exact h
  | ct δ' => rw [q] at h; exact h
  | ex c fs δ' => rw [q] at h; exact h
  | bad => rw [q] at h; exact h
theorem dss_cons (A : PSD X W st F) (B : PSSD X W sts F') : PSSD X W (st :: sts) (sSeq F F') := by
  obtain ⟨ta, pa, ha⟩ := A.ex
  obtain ⟨tb, pb, hb⟩ := B.ex
  exact ⟨_, pss_cons pa pb, fun {B0 G H δ σ D} S h => ha S (seq_req h fun δ' σ' H' G' g S' h' => hb S' h')⟩
theorem dss_one (A : PSD X W st F) : PSSD X W [st] F := by
  obtain ⟨ta, pa, ha⟩ := A.ex
  exact ⟨ta, pss_one pa, ha⟩
/-- ahead of a statement: the i-th name's own object is changed by no one from here on -/
theorem dss_frz (i : Nat) (A : PSSD X W sts F) : PSSD X W sts (fun δ => F (frz δ i)) := by
  obtain ⟨ta, pa, ha⟩ := A.ex
  refine ⟨ta, pa, fun {B0 G H δ σ D} S h => ?_⟩
  obtain ⟨G', g, S'⟩ := S.frz i
  exact ha S' (h.gg g)
theorem ds_set (i : Nat) {x : Str} {pos' : Pos} (hN : X.N.Nodup) (A : PD X W a fa) (hi : X.N[i]? = some x := by rfl) (hx : Loc X.env.scope x := by first | exact Or.inl rfl | exact Or.inr rfl) (hs : swapsWith a (some (.Name x pos')) pos.line X.env = pure false := by rfl)
    (hf : X.fn x = true ∨ X.env.scope.names.lookup x = some .local := by first | exact .inl rfl | exact .inr rfl) : PSD X W (.Assign [.Name x pos'] a pos) (sSet i fa) := by
  obtain ⟨ta, pa, ha⟩ := A.ex
  refine ⟨_, L2.ps_set hN hi hx pa hs hf, fun {B0 G H δ σ D} S h => ?_⟩
  exact ha S (SRq.of S h fun d e v H1 G1 t1 r1 h1 => h1 _ _ _ (Same.refl _) ((S.step t1).set i r1))
theorem ds_asg {ix : List Nat} {g : DV → Ev → R Ev} (A : PD X W b fb) (B : PGD X a ix g) (hs : swapsWithSole [a] b pos.line X.env = pure false := by rfl) (hw : swappedStores [a] b X.env = pure none := by rfl)
    (h1 : (assignEach [a] X.env).map (·.2) = [assign a X.env] := by rfl) : PSD X W (.Assign [a] b pos) (sAsg fb g) := by
  obtain ⟨ta, pa, ha⟩ := A.ex
  obtain ⟨tb, pb, hb⟩ := B.ex
  refine ⟨_, ps_asg pa pb hs hw h1, fun {B0 G H δ σ D} S h => ?_⟩
  refine ha S (SRq.of S h fun d e v H1 G1 t1 r1 h1 => ?_)
  cases q : g d δ with
  | ok δ' => rw [q] at h1; exact hb (S.step t1) r1 q fun σ' S' _ => h1 _ _ _ (Same.refl _) S'
  | exc _ _ => rw [q] at h1; exact h1.elim
  | bad => rw [q] at h1; exact h1.elim
theorem ds_par (i j : Nat) {x y : Str} {px py pt : Pos} {kt k2 pt2} (hc : X.calm = true) (hN : X.N.Nodup) (A : PD X W a fa) (B : PD X W b fb) (hi : X.N[i]? = some x := by rfl) (hj : X.N[j]? = some y := by rfl) (hij : i ≠ j := by decide)
    (hx : X.env.scope.names.lookup x = some .local := by rfl) (hy : X.env.scope.names.lookup y = some .local := by rfl)
    (hw : swappedStores [.Tuple [.Name x px, .Name y py] kt pt] (.Tuple [a, b] k2 pt2) X.env = pure (some [x, y]) := by rfl)
    (hs : swapsWithSole [.Tuple [.Name x px, .Name y py] kt pt] (.Tuple [a, b] k2 pt2) pos.line X.env = pure false := by rfl)
    (hs1 : starEach (a :: [b]) X.env = (false, eval a X.env) :: starEach [b] X.env := by rfl) (hs2 : starEach (b :: []) X.env = (false, eval b X.env) :: starEach [] X.env := by rfl) :
    PSD X W (.Assign [.Tuple [.Name x px, .Name y py] kt pt] (.Tuple [a, b] k2 pt2) pos) (sPar i j fa fb) := by
  obtain ⟨ta, pa, ha⟩ := A.ex
  obtain ⟨tb, pb, hb⟩ := B.ex
  refine ⟨_, L2.ps_par hc hN hi hj hij hx hy (pa_cons pa (pa_cons pb pa_nil hs2) hs1) hw hs, fun {B0 G H δ σ D} S h => ?_⟩
  refine ha S (SRq.of S h fun d e v H1 G1 t1 r1 h1 => ?_)
  refine hb (S.step t1) (SRq.of (S.step t1) h1 fun d' e' v' H2 G2 t2 r2 h2 => ?_)
  exact ⟨v, v', rfl, h2 _ _ _ (Same.refl _) ((((S.step t1).step t2).set i (r1.mono t2.gg)).set j r2)⟩
theorem ds_ret (A : PD X W a fa) : PSD X W (.Return (some a) pos) (sRet fa) := by
  obtain ⟨ta, pa, ha⟩ := A.ex
  refine ⟨_, L2.ps_ret pa, fun {B0 G H δ σ D} S h => ?_⟩
  exact ha S (SRq.of S h fun d e v H1 G1 t1 r1 h1 => h1 v H1 G1 (S.step t1).tr r1)
theorem ds_retN : PSD X W (.Return none pos) (fun _ => .rt .non) := ⟨_, ps_retN, fun {B0 G H δ σ D} S h => h .non H G S.tr .non⟩
theorem ds_pass : PSD X W (.Pass pos) sNx := ⟨_, ps_pass, fun {B0 G H δ σ D} S h => h σ H G (Same.refl _) S⟩
theorem ds_break : PSD X W (.Break pos) (fun δ => .bk δ) := ⟨_, ps_break, fun {B0 G H δ σ D} S h => h σ H G (Same.refl _) S⟩
theorem ds_continue : PSD X W (.Continue pos) (fun δ => .ct δ) := ⟨_, ps_continue, fun {B0 G H δ σ D} S h => h σ H G (Same.refl _) S⟩
theorem ds_drop (A : PD X W a fa) (hs : swapsWith a none pos.line X.env = pure false := by rfl) : PSD X W (.Expr a pos) (sDrop fa) := by
  obtain ⟨ta, pa, ha⟩ := A.ex
  refine ⟨_, ps_expr pa hs, fun {B0 G H δ σ D} S h => ?_⟩
  exact ha S (SRq.of S h fun d e v H1 G1 t1 r1 h1 => h1 _ _ _ (Same.refl _) (S.step t1))
theorem ds_if {st1 st2 : List Stmt} (C : PDT X W c ga) (A : PSSD X W st1 F) (B : PSSD X W st2 F') : PSD X W (.If c st1 st2 pos) (sIf ga F F') := by
  obtain ⟨tc, pc, hc⟩ := C.ex
  obtain ⟨ta, pa, ha⟩ := A.ex
  obtain ⟨tb, pb, hb⟩ := B.ex
  refine ⟨_, L2.ps_if pc pa pb, fun {B0 G H δ σ D} S h => ?_⟩
  refine hc S (SRq.of S h fun z e b H1 G1 t1 r1 h1 => ?_)
  cases r1
  cases z with
  | true => exact ha (S.step t1) h1
  | false => exact hb (S.step t1) h1

/-! ### what is walked -/
structure Walks (K : PySem.W.Frag) (J : It) (ds : List DV) (G : Hp) : Prop where
  stop : ∀ H, Same G H → J.stop ds.length H
  go : ∀ i H, Same G H → i < ds.length → J.go i H
  yld : ∀ i H x H' Gc, Same G Gc → Same Gc H → i < ds.length → J.yld i H x H' → ∃ G' d, Tr Gc H G' H' ∧ ds[i]? = some d ∧ DRep K G' x d
structure PID (X : Cx) (W : WX) (tg iter : Expr) (f : Ev → R (List DV)) : Prop where
  ex : ∃ wi : TI, PI X tg iter wi ∧ ∀ {B : Bas} {G H : Hp} {δ : Ev} {σ : L2.St} {Q : It → Hp → Prop}, SOk X.K B G H δ σ → Rq X.K (fun G' J ds => Walks X.K J ds G') (fun c d H' => W c d σ H') G H (f δ) Q → wi σ H Q
def asSeq : DV → R (List DV)
  | .lst xs => .ok xs
  | .ro xs => .ok xs
  | _ => .bad
def asTup : DV → R (List DV)
  | .tup xs => .ok xs
  | _ => .bad
def asSigns : DV → R (List DV)
  | .str z => .ok (z.cps.toList.map fun c => .str ⟨#[c]⟩)
  | _ => .bad
def xSrc (as_ : DV → R (List DV)) (f : Ev → R DV) : Ev → R (List DV) := fun δ => (f δ).bind as_
theorem walks_list {K : PySem.W.Frag} {G : Hp} {p : Addr} {vs : List V} {ds : List DV} (h : SqL K G p vs) (r : DReps K G vs ds) : Walks K (Itl K p) ds G := by
  refine ⟨fun H s => ⟨vs, Same.seq s h, by rw [r.length]; exact Nat.le_refl _⟩, fun i H s hi => ?_, fun i H x H' Gc g s hi y => ?_⟩
  · rw [← r.length] at hi
    exact ⟨vs, vs[i], Same.seq s h, List.getElem?_eq_getElem hi⟩
  · obtain ⟨e, y⟩ := y
    subst e
    have e1 := y vs (Same.seq (g.trans s) h)
    obtain ⟨d, hd, p⟩ := r.get' e1
    exact ⟨Gc, d, Tr.refl s, hd, p.mono g⟩
theorem walks_tup {K : PySem.W.Frag} {G : Hp} {p : Addr} {vs : List V} {ds : List DV} (h : SqT K G p vs) (r : DReps K G vs ds) : Walks K (Itt K p) ds G := by
  refine ⟨fun H s => ⟨vs, SqT.same s h, by rw [r.length]; exact Nat.le_refl _⟩, fun i H s hi => ?_, fun i H x H' Gc g s hi y => ?_⟩
  · rw [← r.length] at hi
    exact ⟨vs, vs[i], SqT.same s h, List.getElem?_eq_getElem hi⟩
  · obtain ⟨e, y⟩ := y
    subst e
    have e1 := y vs (SqT.same (g.trans s) h)
    obtain ⟨d, hd, p⟩ := r.get' e1
    exact ⟨Gc, d, Tr.refl s, hd, p.mono g⟩
variable {tg iter : Expr}
theorem di_list (A : PD X W iter fa) : PID X W tg iter (xSrc asSeq fa) := by
  obtain ⟨ta, pa, ha⟩ := A.ex
  refine ⟨_, pi_list pa, fun {B0 G H δ σ Q} S h => ?_⟩
  refine ha S (Rq.bind (rep := DRep X.K) h fun x ex v H1 G1 t1 r1 h1 => ?_)
  cases r1 with
  | lst e r => exact ⟨_, rfl, ⟨_, SqL.of (t1.gh _ _ e)⟩, h1 _ H1 G1 (Tr.refl t1.gh) (walks_list (SqL.of e) r)⟩
  | ro e r => exact ⟨_, rfl, ⟨_, Same.seq t1.gh e⟩, h1 _ H1 G1 (Tr.refl t1.gh) (walks_list e r)⟩
  | _ => exact h1.elim
theorem di_tup (A : PD X W iter fa) : PID X W tg iter (xSrc asTup fa) := by
  obtain ⟨ta, pa, ha⟩ := A.ex
  refine ⟨_, pi_tup pa, fun {B0 G H δ σ Q} S h => ?_⟩
  refine ha S (Rq.bind (rep := DRep X.K) h fun x ex v H1 G1 t1 r1 h1 => ?_)
  cases r1 with
  | tup e r => exact ⟨_, rfl, ⟨_, SqT.of (t1.gh _ _ e)⟩, h1 _ H1 G1 (Tr.refl t1.gh) (walks_tup (SqT.of e) r)⟩
  | _ => exact h1.elim
theorem di_str (A : PD X W iter fa) : PID X W tg iter (xSrc asSigns fa) := by
  obtain ⟨ta, pa, ha⟩ := A.ex
  refine ⟨_, pi_str pa, fun {B0 G H δ σ Q} S h => ?_⟩
  refine ha S (Rq.bind (rep := DRep X.K) h fun x ex v H1 G1 t1 r1 h1 => ?_)
  cases r1 with
  | str z =>
    refine ⟨z, rfl, h1 _ H1 G1 (Tr.refl t1.gh) ⟨fun H s => ?_, fun i H s hi => ?_, fun i H x H' Gc g s hi y => ?_⟩⟩
    · show z.cps.size ≤ _
      simp
    · show i < z.cps.size
      simpa using hi
    · obtain ⟨e, c, hc, rfl⟩ := y
      subst e
      exact ⟨Gc, .str ⟨#[c]⟩, Tr.refl s, by simp [hc], .str _⟩
  | _ => exact h1.elim
def intsFrom (lo : Int) (n : Nat) : List DV := (List.range n).map fun i : Nat => DV.int (lo + (i : Int))
theorem walks_range {K : PySem.W.Frag} {G : Hp} (lo : Int) (n : Nat) : Walks K (Itr lo n) (intsFrom lo n) G := by
  have hl : (intsFrom lo n).length = n := by simp [intsFrom]
  refine ⟨fun H s => ?_, fun i H s hi => ?_, fun i H x H' Gc g s hi y => ?_⟩
  · rw [hl]; exact Nat.le_refl n
  · rw [hl] at hi; exact hi
  · obtain ⟨e, rfl⟩ := y
    subst e
    rw [hl] at hi
    exact ⟨Gc, .int (lo + i), Tr.refl s, by simp [intsFrom, hi], .int _⟩
def rng62 (i : Int) : Bool := decide (-(2 ^ 62) ≤ i) && decide (i < 2 ^ 62)
def asRange1 : List DV → R (List DV)
  | [.int j] => if rng62 j then .ok (intsFrom 0 j.toNat) else .bad
  | _ => .bad
def asRange2 : List DV → R (List DV)
  | [.int i, .int j] => if rng62 i && rng62 j then .ok (intsFrom i (j - i).toNat) else .bad
  | _ => .bad
theorem rng62_ok {i : Int} (h : rng62 i = true) : -(2 ^ 62) ≤ i ∧ i < 2 ^ 62 := by
  obtain ⟨a, b⟩ := Bool.and_eq_true_iff.mp h
  exact ⟨of_decide_eq_true a, of_decide_eq_true b⟩
theorem rq_ifB {α β : Type} {K : PySem.W.Frag} {rep : Rel α β} {G H : Hp} {W : Value → Option Addr → Hp → Prop} {Q : β → Hp → Prop} {c : Bool} {a : α} (h : Rq K rep W G H (if c = true then .ok a else .bad) Q) : c = true ∧ Rq K rep W G H (.ok a) Q := by
  cases c with
  | true => exact ⟨rfl, h⟩
  | false => exact h.elim
theorem asRange1_inv {K : PySem.W.Frag} {G H : Hp} {rep : Rel (List DV) It} {W : Value → Option Addr → Hp → Prop} {Q : It → Hp → Prop} {vs : List V} {ds : List DV} (r : DReps K G vs ds) (h : Rq K rep W G H (asRange1 ds) Q) :
    ∃ j, vs = [.int j] ∧ rng62 j = true ∧ Rq K rep W G H (.ok (intsFrom 0 j.toNat)) Q := by
  unfold asRange1 at h
  split at h
  · cases r with
    | cons ra rb =>
      cases ra
      cases rb
      obtain ⟨c, q⟩ := rq_ifB h
      exact ⟨_, rfl, c, q⟩
  · exact h.elim
theorem asRange2_inv {K : PySem.W.Frag} {G H : Hp} {rep : Rel (List DV) It} {W : Value → Option Addr → Hp → Prop} {Q : It → Hp → Prop} {vs : List V} {ds : List DV} (r : DReps K G vs ds) (h : Rq K rep W G H (asRange2 ds) Q) :
    ∃ i j, vs = [.int i, .int j] ∧ rng62 i = true ∧ rng62 j = true ∧ Rq K rep W G H (.ok (intsFrom i (j - i).toNat)) Q := by
  unfold asRange2 at h
  split at h
  · cases r with
    | cons ra rb =>
      cases ra
      cases rb with
      | cons rc rd =>
        cases rc
        cases rd
        obtain ⟨c, q⟩ := rq_ifB h
        obtain ⟨c1, c2⟩ := Bool.and_eq_true_iff.mp c
        exact ⟨_, _, rfl, c1, c2, q⟩
  · exact h.elim
theorem di_range1 {p : Pos} (hm : X.mg "range" = none) (A : PDA X W [a] fes) (hg : Gl X "range" := by rfl) (hs : starEach [a] X.env = [(false, eval a X.env)] := by rfl) : PID X W tg (.Call (.Name "range" p) [a] [] pos) (fun δ => (fes δ).bind asRange1) := by
  obtain ⟨ta, pa, ha⟩ := A.ex
  refine ⟨_, pi_range1 hg hm pa hs, fun {B0 G H δ σ Q} S h => ?_⟩
  refine ha S (Rq.bind (rep := DReps X.K) h fun x ex v H1 G1 t1 r1 h1 => ?_)
  obtain ⟨j, rfl, c, q⟩ := asRange1_inv r1 h1
  exact ⟨j, rfl, (rng62_ok c).1, (rng62_ok c).2, q _ H1 G1 (Tr.refl t1.gh) (walks_range 0 j.toNat)⟩
theorem di_range2 {p : Pos} (hm : X.mg "range" = none) (A : PDA X W [a, b] fes) (hg : Gl X "range" := by rfl) (hs : starEach [a, b] X.env = [(false, eval a X.env), (false, eval b X.env)] := by rfl) (hs2 : starEach [b] X.env = [(false, eval b X.env)] := by rfl) : PID X W tg (.Call (.Name "range" p) [a, b] [] pos) (fun δ => (fes δ).bind asRange2) := by
  obtain ⟨ta, pa, ha⟩ := A.ex
  refine ⟨_, pi_range2 hg hm pa hs hs2, fun {B0 G H δ σ Q} S h => ?_⟩
  refine ha S (Rq.bind (rep := DReps X.K) h fun x ex v H1 G1 t1 r1 h1 => ?_)
  obtain ⟨i, j, rfl, c1, c2, q⟩ := asRange2_inv r1 h1
  exact ⟨i, j, rfl, ⟨(rng62_ok c1).1, (rng62_ok c1).2, (rng62_ok c2).1, (rng62_ok c2).2⟩, q _ H1 G1 (Tr.refl t1.gh) (walks_range i (j - i).toNat)⟩

/-! ### for -/
def forD (g : DV → Ev → R Ev) (F : Ev → SR) : List DV → Ev → SR
  | [], δ => .nx δ
  | d :: ds, δ => match g d δ with
    | .ok δ1 => match F δ1 with
      | .nx δ2 => forD g F ds δ2
      | .ct δ2 => forD g F ds δ2
      | .bk δ2 => .nx δ2
      | .rt d => .rt d
      | .ex c fs δ2 => .ex c fs δ2
      | .bad => .bad
    | _ => .bad
def sFor (fi : Ev → R (List DV)) (g : DV → Ev → R Ev) (F : Ev → SR) : Ev → SR := fun δ => xS (fi δ) δ fun ds => forD g F ds δ
theorem ds_for {ix : List Nat} {fi : Ev → R (List DV)} {g : DV → Ev → R Ev} (hp : PassesOwn (model X.prog X.w) X.A X.env X.xe) (hc : X.calm = true) (I : PID X W tg iter fi) (T : PGD X tg ix g) (B : PSSD X W sts F)
    (hs : ∀ x, foldedSetIterable iter X.env x = pure x := by intro _; rfl) : PSD X W (.For tg iter sts [] pos) (sFor fi g F) := by
  obtain ⟨wi, pw, hw⟩ := I.ex
  obtain ⟨tg', pg, hg⟩ := T.ex
  obtain ⟨tb, pb, hb⟩ := B.ex
  refine ⟨_, ps_for hp hc pw pg pb hs, fun {B0 G H δ σ D} S h => ?_⟩
  refine hw S (SRq.of S h fun ds e J H1 G1 t1 wk h1 => ?_)
  refine ⟨fun i m σ H => i ≤ ds.length ∧ m = ds.length - i ∧ ∃ δ' G', Same G1 G' ∧ SOk X.K B0 G' H δ' σ ∧ SRq X.K W D B0 G' (forD g F (ds.drop i) δ'), ⟨ds.length, Nat.zero_le _, by simp, δ, G1, Same.refl _, S.step t1, by simpa using h1⟩, ?_⟩
  rintro i m σ H ⟨hi, rfl, δ', G', gg, S', q⟩
  have sG : Same G1 H := gg.trans S'.gh
  by_cases hlt : i < ds.length
  · refine .inr ⟨wk.go i H sG hlt, fun σ2 H2 => ∃ δ2 G2, Same G1 G2 ∧ SOk X.K B0 G2 H2 δ2 σ2 ∧ SRq X.K W D B0 G2 (forD g F (ds.drop (i + 1)) δ2), fun σ2 H2 ⟨δ2, G2, z1, z2, z3⟩ => ⟨ds.length - (i + 1), by omega, hlt, rfl, δ2, G2, z1, z2, z3⟩, fun x H' y => ?_⟩
    obtain ⟨G2, d, t2, hd, rd⟩ := wk.yld i H x H' G' gg S'.gh hlt y
    have ed : ds.drop i = d :: ds.drop (i + 1) := by
      rw [List.drop_eq_getElem_cons hlt]
      rw [List.getElem?_eq_getElem hlt] at hd
      rw [Option.some.inj hd]
    rw [ed] at q
    have q' := q.gg t2.gg
    unfold forD at q'
    have S2 := S'.step t2
    cases eg : g d δ' with
    | ok δ1 =>
      rw [eg] at q'
      refine hg S2 rd eg fun σ3 S3 _ => hb S3 ?_
      dsimp only at q'
      cases eF : F δ1 with
      | nx δ2 => rw [eF] at q'; exact fun σ4 H4 G4 g4 S4 => ⟨δ2, G4, (gg.trans t2.gg).trans g4, S4, q'.gg g4⟩
      | ct δ2 => rw [eF] at q'; exact fun σ4 H4 G4 g4 S4 => ⟨δ2, G4, (gg.trans t2.gg).trans g4, S4, q'.gg g4⟩
      | bk δ2 => rw [eF] at q'; exact q'
      | rt d => rw [eF] at q'; exact q'
      | ex c fs δ2 => rw [eF] at q'; exact q'
      | bad => rw [eF] at q'; exact q'
    | exc _ _ => rw [eg] at q'; exact q'.elim
    | bad => rw [eg] at q'; exact q'.elim
  · have e : i = ds.length := by omega
    subst e
    refine .inl ⟨wk.stop H sG, ?_⟩
    rw [List.drop_length] at q
    exact q σ H G' (Same.refl _) S'

/-! ### raise -/
/-- what makes an exception -/
structure PMD (X : Cx) (W : WX) (e : Expr) (c : Str) (f : Ev → R (List (Str × DV))) : Prop where
  ex : ∃ t, PMk X e t ∧ ∀ {B : Bas} {G H : Hp} {δ : Ev} {σ : L2.St}, SOk X.K B G H δ σ → (match f δ with
    | .ok fs => ∀ H' G' dx, Tr G H G' H' → XRep X.K G' H' dx fs → W (.ref (He.ga X.K c)) dx σ H'
    | _ => False) → t σ H fun cls d H' => W cls d σ H'
def sRaise (c : Str) (f : Ev → R (List (Str × DV))) : Ev → SR := fun δ => match f δ with
  | .ok fs => .ex c fs δ
  | _ => .bad
theorem ds_raise {cn : Str} {f : Ev → R (List (Str × DV))} (hc : X.calm = true) (tk : Takes X W) (A : PMD X W a cn f) : PSD X W (.Raise (some a) none pos) (sRaise cn f) := by
  obtain ⟨t, pm, hm⟩ := A.ex
  refine ⟨_, ps_raise hc tk pm, fun {B0 G H δ σ D} S h => hm S ?_⟩
  unfold sRaise at h
  cases q : f δ with
  | ok fs => rw [q] at h; exact fun H' G' dx t x => h σ H' G' dx t.gg (S.step t) x
  | exc _ _ => rw [q] at h; exact h.elim
  | bad => rw [q] at h; exact h.elim
/-- C('text'), C a class of the program over ValueError without an own __init__ -/
theorem dm_own {x m : Str} {j : Nat} {p p2 : Pos} (q : PySem.W.excIn X.K (He.ga X.K x) He.veBase "ValueError.__new__" = true) (gC : X.mg x = some (.ref (He.ga X.K x))) (kC : PySem.W.keepIn X.K (.ref (He.ga X.K x)) = true)
    (h1 : PySem.W.subIn X.K (.ref (He.ga X.K x)) (.type "BaseException") = some true) (h2 : PySem.W.typeIn X.K (.ref (He.ga X.K x)) = some (.type "type")) (hg : Gl X x := by rfl) (hdb : (x == ("__debug__" : Str)) = false := by decide) :
    PMD X W (.Call (.Name x p) [.Constant (.str m) j p2] [] pos) x (fun _ => .ok []) :=
  ⟨_, pmk_own PySem.F.excBase_ValueError q gC kC (raises_own h1 h2) hg hdb, fun {B0 G H δ σ} S h => h H G none (Tr.refl S.gh) (.inl ⟨rfl, rfl⟩)⟩

/-! ### the def's own lists -/
/-- x = [..]: a list that only this name holds -/
def sNewL (i : Nat) (fes : Ev → R (List DV)) : Ev → SR := fun δ => xS (fes δ) δ fun ds => if small ds.length then .nx (δ.set i (.ol ds)) else .bad
theorem own_new {K : PySem.W.Frag} {B : Bas} {G H : Hp} {δ : Ev} {σ : L2.St} (S : SOk K B G H δ σ) (i : Nat) {p : Addr} {s : Sl} {o : HO} (hp : H p = none) (hs : isOwn s = true) (hme : ∀ c fs, s ≠ .oo c fs) (r : OwnAt K G (upd H p o) p s) : SOk K B G (upd H p o) (δ.set i s) (σ.set i (some (.ref p))) := by
  refine S.setOwn i hs (S.tr.trans (Tr.own S.gh o hp)) (S.tr.sm.free hp) (S.gh.none hp) r (fun b u hb e => by rw [upd_ne hb]; exact e) (fun j u hj e ou z => ?_) fun c fs z => absurd z (hme c fs)
  obtain ⟨a, es, _, _, oa⟩ := S.own e ou
  rw [z] at es
  have : p = a := by injection es with es; injection es with es; injection es
  subst this
  exact oa.there hp
theorem ds_newL (i : Nat) {x : Str} {pos' : Pos} {p2 : Pos} (hN : X.N.Nodup) (A : PDA X W es fes) (hi : X.N[i]? = some x := by rfl) (hx : Loc X.env.scope x := by first | exact Or.inl rfl | exact Or.inr rfl) (hs : swapsWith (.List es p2) (some (.Name x pos')) pos.line X.env = pure false := by rfl)
    (hf : X.fn x = true ∨ X.env.scope.names.lookup x = some .local := by first | exact .inl rfl | exact .inr rfl) : PSD X W (.Assign [.Name x pos'] (.List es p2) pos) (sNewL i fes) := by
  obtain ⟨ta, pa, ha⟩ := A.ex
  refine ⟨_, L2.ps_set hN hi hx (pe_lst pa) hs hf, fun {B0 G H δ σ D} S h => ?_⟩
  refine ha S (SRq.of S h fun ds e vs H1 G1 t1 r1 h1 => ?_)
  cases c : small ds.length with
  | false => rw [c] at h1; exact h1.elim
  | true =>
    rw [c, if_pos rfl] at h1
    refine ⟨by rw [r1.length]; exact small_le c, fun p hp => h1 _ _ _ (Same.refl _) (own_new (S.step t1) i hp rfl (fun _ _ z => nomatch z) ⟨vs, upd_same, r1⟩)⟩
/-- x.append(e), x's own list -/
def sApp (i : Nat) (f : Ev → R DV) : Ev → SR := fun δ => match δ[i]? with
  | some (.ol ds) => xS (f δ) δ fun d => if Nat.blt ds.length 16777216 then .nx (δ.set i (.ol (ds ++ [d]))) else .bad
  | _ => .bad
theorem tr_own_upd {H0 G0 G H : Hp} (t : Tr G0 H0 G H) {a : Addr} (o : HO) (h0 : H0 a = none) (hg : G a = none) : Tr G0 H0 G (upd H a o) := by
  refine ⟨fun b u e => ?_, t.gg, fun b u e => ?_, t.nw⟩
  · rw [upd_ne (fun z => by rw [z, h0] at e; cases e)]; exact t.sm b u e
  · rw [upd_ne (fun z => by rw [z, hg] at e; cases e)]; exact t.gh b u e
theorem own_upd {K : PySem.W.Frag} {B : Bas} {G H : Hp} {δ : Ev} {σ : L2.St} (S : SOk K B G H δ σ) {i : Nat} {a : Addr} {s s' : Sl} {o : HO} (e : δ[i]? = some s) (os : isOwn s = true) (es : σ[i]? = some (some (.ref a))) (h0 : B.H0 a = none) (hg : G a = none) (os' : isOwn s' = true)
    (hme : ∀ c fs, s' = .oo c fs → B.pa = some a) (r : OwnAt K G (upd H a o) a s') : SOk K B G (upd H a o) (δ.set i s') σ := by
  have S2 := S.setOwn i os' (tr_own_upd S.tr o h0 hg) h0 hg r (fun b u hb q => by rw [upd_ne hb]; exact q) (fun j u hj ej ou z => hj ((S.dj i j s u a e ej os ou es z).symm)) hme
  have es' : σ.set i (some (.ref a)) = σ := by
    apply List.ext_getElem?
    intro j
    by_cases q : i = j
    · subst q
      rw [List.getElem?_set_self (List.getElem?_eq_some_iff.mp es).1, es]
    · rw [List.getElem?_set_ne q]
  rw [es'] at S2
  exact S2
theorem ds_app (i : Nat) {x : Str} {pos' p3 p4 : Pos} (A : PD X W a fa) (hN : X.N[i]? = some x := by rfl) (hv : Vis X.env.scope x := by first | exact Or.inl rfl | exact Or.inr (Or.inl rfl) | exact Or.inr (Or.inr rfl)) (hd : (x == ("__debug__" : Str)) = false := by decide)
    (hcd : (x == ("__classdict__" : Str)) = false := by decide)
    (hs : starEach (a :: []) X.env = (false, eval a X.env) :: starEach [] X.env := by rfl) (hbase : attributeBase (.Name x pos') "append" X.env (eval (.Name x pos') X.env) = eval (.Name x pos') X.env := by rfl)
    (hfew : ((backTo p4 (starEach [a] X.env)).all (fun x => !x.1) && (backToKw p4 (keywordEach [] X.env)).all (fun x => x.1.isSome)
      && decide (([a] : List Expr).length + ([] : List Keyword).length + (if ([] : List Keyword).isEmpty then 0 else 1) < 30)) = true := by rfl)
    (hline : (p3.endLine == p4.line) = true := by rfl) (hsw : swapsWith (.Call (.Attribute (.Name x pos') "append" p3) [a] [] p4) none pos.line X.env = pure false := by rfl) :
    PSD X W (.Expr (.Call (.Attribute (.Name x pos') "append" p3) [a] [] p4) pos) (sApp i fa) := by
  obtain ⟨ta, pa, ha⟩ := A.ex
  have pv' : PE X (.Name x pos') (tVar i) := L2.pv i hN hv hd hcd
  refine ⟨_, ps_expr (pe_bm PySem.F.plainAttrs_list PySem.F.slot_list_append PySem.F.type_list_append mt_append pv' (pa_cons pa pa_nil hs) hbase hfew hline hs) hsw, fun {B0 G H δ σ D} S h => ?_⟩
  unfold sApp at h
  split at h
  · rename_i ds e
    obtain ⟨p, es, h0, hg, vs, hp, r⟩ := S.own e rfl
    refine ⟨_, es, .inl ⟨rfl, _, SqL.of hp⟩, ha S (SRq.of S h fun d ed v H1 G1 t1 r1 h1 => ?_)⟩
    cases c : Nat.blt ds.length 16777216 with
    | false => rw [c] at h1; exact h1.elim
    | true =>
      rw [c, if_pos rfl] at h1
      have S1 := S.step t1
      have hp1 := t1.sm _ _ hp
      have hg1 : G1 p = none := by rw [t1.nw p (by rw [hp]; simp)]; exact hg
      refine ⟨p, vs, v, rfl, rfl, hp1, ?_, ?_⟩
      · rw [r.length, sizeLine_eq]; exact Nat.le_of_ble_eq_true c
      · exact h1 _ _ _ (Same.refl _) (own_upd S1 e rfl es h0 hg1 rfl (fun _ _ z => nomatch z) ⟨vs ++ [v], upd_same, (r.mono t1.gg).append (.cons r1 .nil)⟩)
  · exact h.elim
/-- xs[k] where xs is the def's own list -/
def xIxO (i : Nat) (f : Ev → R DV) : Ev → R DV := fun δ => match δ[i]? with
  | some (.ol ds) => (f δ).bind fun k => oIx (.lst ds) k
  | _ => .bad
theorem d_ixO (i : Nat) {x : Str} {pos' : Pos} (A : PD X W a fa) (hN : X.N[i]? = some x := by rfl) (hv : Vis X.env.scope x := by first | exact Or.inl rfl | exact Or.inr (Or.inl rfl) | exact Or.inr (Or.inr rfl)) (hd : (x == ("__debug__" : Str)) = false := by decide)
    (hcd : (x == ("__classdict__" : Str)) = false := by decide) (hs : PlainIx a := by exact fun _ _ => rfl) : PD X W (.Subscript (.Name x pos') a pos) (xIxO i fa) := by
  obtain ⟨ta, pa, ha⟩ := A.ex
  have pv' : PE X (.Name x pos') (tVar i) := L2.pv i hN hv hd hcd
  refine ⟨_, pe_ix ix_list pv' pa hs, fun {B0 G H δ σ Q} S h => ?_⟩
  unfold xIxO at h
  split at h
  · rename_i ds e
    obtain ⟨p, es, h0, hg, vs, hp, r⟩ := S.own e rfl
    refine ⟨_, es, ha S (Rq.bind (rep := DRep X.K) h fun k ek v H1 G1 t1 r1 h1 => ?_)⟩
    cases r1 with
    | int j =>
      cases q : atI ds j with
      | none => rw [show oIx (.lst ds) (.int j) = R.ofO (atI ds j) from rfl, q] at h1; exact h1.elim
      | some d =>
        rw [show oIx (.lst ds) (.int j) = R.ofO (atI ds j) from rfl, q] at h1
        obtain ⟨w, hw, pw⟩ := atI_rep (r.mono t1.gg) q
        exact ⟨_, _, j, w, rfl, rfl, SqL.of (t1.sm _ _ hp), hw, Rq.ok_self (rep := DRep X.K) t1.gh h1 pw⟩
    | _ => exact h1.elim
  · exact h.elim
end
end LD

set_option maxHeartbeats 2000000
/-! Layer D, part E: defs, calls, instances, comprehensions. -/
namespace LD
open PySem PySem.Spec PyProof.Rows L2

/-! ### a def's mirror -/
abbrev Mir := List DV → R DV
def mir (n p : Nat) (F : Ev → SR) : Mir := fun ds => if Nat.beq ds.length p then (match F (ds.map Sl.pu ++ List.replicate (n - p) Sl.un) with
  | .nx _ => .ok .non
  | .rt d => .ok d
  | .ex c fs _ => .exc c fs
  | _ => .bad) else .bad
def spD (K : PySem.W.Frag) (m : Mir) : Sp := fun vs H Q E => ∃ G ds, Same G H ∧ DReps K G vs ds ∧ Rq K (DRep K) (fun c d H' => E c d H') G H (m ds) Q

section
variable {P : Program} {w : World} {K : PySem.W.Frag} {mg : Str → Option Value} {base : Heap}
theorem sok_args {G H : Hp} {vs : List V} {ds : List DV} {k m : Nat} (s : Same G H) (r : DReps K G vs ds) (hm : m = k) : SOk K ⟨H, G, none⟩ G H (ds.map Sl.pu ++ List.replicate k Sl.un) (vs.map some ++ List.replicate m none) := by
  subst hm
  have hl := r.length
  refine ⟨Tr.refl s, by simp [hl], fun i sl e => ?_, fun i j a b c e1 e2 o1 o2 => ?_, fun i c fs e => ?_⟩
  · by_cases hi : i < ds.length
    · rw [List.getElem?_append_left (by simpa using hi), List.getElem?_map] at e
      rw [List.getElem?_append_left (by simpa [hl] using hi), List.getElem?_map]
      cases q : ds[i]? with
      | none => rw [q] at e; cases e
      | some d =>
        rw [q] at e
        cases e
        obtain ⟨v, hv, p⟩ := r.get q
        rw [hv]
        exact ⟨v, rfl, p⟩
    · rw [List.getElem?_append_right (by simpa using Nat.le_of_not_lt hi), List.getElem?_replicate] at e
      split at e
      · cases e; trivial
      · cases e
  · have no : ∀ {i : Nat} {a : Sl}, (ds.map Sl.pu ++ List.replicate m Sl.un)[i]? = some a → isOwn a = false := fun {i a} e => by
      have h := List.mem_of_getElem? e
      rcases List.mem_append.mp h with h | h
      · obtain ⟨d, _, rfl⟩ := List.mem_map.mp h; rfl
      · rw [(List.mem_replicate.mp h).2]; rfl
    rw [no e1] at o1
    cases o1
  · have h := List.mem_of_getElem? e
    rcases List.mem_append.mp h with h | h
    · obtain ⟨d, _, z⟩ := List.mem_map.mp h; cases z
    · cases (List.mem_replicate.mp h).2
/-- THE RULE for a def: its body's functional reading -/
theorem fn_d {x qual : Str} {params : Arguments} {body : List Stmt} {scope : Scope} {dvs : List V} {kws : List (Str × V)} {f : Addr} {fd : FuncData} {N ps : List Str} {k : Nat} {F : Ev → SR}
    (D : FunD K x qual params body scope dvs kws f fd) (S : FnScope N ps scope) (hle : ps.length ≤ N.length)
    (hbody : ∀ (cdv : Value) (A : Around) (outer : List Env) (s : Shared) (H : Hp) (E : XK), Room k (A.deeper (envOfC qual scope s.heap.objs.size f cdv)) →
      PSSD (cxOf (L2.CX P w) P w K mg base N qual scope f cdv A outer s H E) (fun cls d _ H' => E cls d H') body F) : FnOk P w K mg base (L2.CX P w) (k + 1) f fd ps (spD K (mir N.length ps.length F)) := by
  have key : ∀ {G H : Hp} {ds : List DV} {Q : VK} {E : XK}, Rq K (DRep K) (fun c d H' => E c d H') G H (mir N.length ps.length F ds) Q → ds.length = ps.length := fun {G H ds Q E} h => by
    unfold mir at h
    cases c : Nat.beq ds.length ps.length with
    | true => exact Nat.eq_of_beq_eq_true c
    | false => rw [c] at h; exact h.elim
  refine D.ok S (fun vs H Q E h => ?_) fun cdv A outer s H vs Q E hr h => ?_
  · obtain ⟨G, ds, s, r, h⟩ := h
    rw [r.length]
    exact key h
  · obtain ⟨G, ds, s1, r, h⟩ := h
    have hl := key h
    obtain ⟨t, pt, ht⟩ := (hbody cdv A outer s H E hr).ex
    refine ⟨t, pt, ht (B := ⟨H, G, none⟩) (sok_args (k := N.length - ps.length) s1 r (by rw [r.length, hl])) ?_⟩
    unfold mir at h
    rw [show Nat.beq ds.length ps.length = true from (by rw [hl]; exact Nat.beq_refl _)] at h
    rw [if_pos rfl] at h
    cases q : F (ds.map Sl.pu ++ List.replicate (N.length - ps.length) Sl.un) with
    | nx δ => rw [q] at h; exact fun σ H' G' g S' => h .non H' G' S'.tr .non
    | rt d => rw [q] at h; exact fun v H' G' t p => h v H' G' t p
    | ex c fs δ => rw [q] at h; exact fun σ H' G' dx g S' x => h H' G' dx S'.tr x
    | bk δ => rw [q] at h; exact h.elim
    | ct δ => rw [q] at h; exact h.elim
    | bad => rw [q] at h; exact h.elim
/-- another mirror that is alike where it says something -/
theorem fn_as {f : Addr} {fd : FuncData} {ps : List Str} {k : Nat} {m m' : Mir} (F : FnOk P w K mg base (L2.CX P w) k f fd ps (spD K m)) (h : ∀ ds, m' ds ≠ .bad → m ds = m' ds) : FnOk P w K mg base (L2.CX P w) k f fd ps (spD K m') :=
  F.imp fun vs H Q E ⟨G, ds, s, r, q⟩ => ⟨G, ds, s, r, by
    have n : m' ds ≠ .bad := fun z => by rw [z] at q; exact q
    rw [h ds n]; exact q⟩
end

/-! ### calls of defs -/
def xCall (m : Mir) (fes : Ev → R (List DV)) : Ev → R DV := fun δ => (fes δ).bind m
section
variable {X : Cx} {W : WX} {a b c o : Expr} {es : List Expr} {fa fb fc : Ev → R DV} {fes : Ev → R (List DV)} {ga gb : Ev → R Bool} {pos : Pos} {k : Nat} {f C : Addr} {fd : FuncData} {ps : List Str} {m : Mir} {x : Str} {p : Pos}
theorem d_call (tk : Takes X W) (F : FnOk X.prog X.w X.K X.mg X.base (L2.CX X.prog X.w) k f fd ps (spD X.K m)) (hr : Room k X.A) (hm : X.mg x = some (.ref f)) (hk : PySem.W.keepIn X.K (.ref f) = true) (hb : Binds X.K fd ps []) (A : PDA X W (a :: es) fes) (hg : Gl X x := by rfl)
    (hdb : (x == ("__debug__" : Str)) = false := by decide) (he : starEach (a :: es) X.env = (false, eval a X.env) :: starEach es X.env := by rfl) (hpl : (backTo pos (starEach es X.env)).any (·.1) = false := by rfl) : PD X W (.Call (.Name x p) (a :: es) [] pos) (xCall m fes) := by
  obtain ⟨ta, pa, ha⟩ := A.ex
  refine ⟨_, pe_callS (E := WE W) F hr hg hm hk hb (fun σ => passAt tk σ) pa hdb he hpl, fun {B0 G H δ σ Q} S h => ?_⟩
  exact ha S (Rq.bind (rep := DReps X.K) h fun ds e vs H1 G1 t1 r1 h1 => ⟨G1, ds, t1.gh, r1, h1⟩)
theorem d_call0 (tk : Takes X W) (F : FnOk X.prog X.w X.K X.mg X.base (L2.CX X.prog X.w) k f fd ps (spD X.K m)) (hr : Room k X.A) (hm : X.mg x = some (.ref f)) (hk : PySem.W.keepIn X.K (.ref f) = true) (hb : Binds X.K fd ps []) (hg : Gl X x := by rfl)
    (hdb : (x == ("__debug__" : Str)) = false := by decide) : PD X W (.Call (.Name x p) [] [] pos) (fun _ => m []) := by
  refine ⟨fun σ H Q => spD X.K m [] H Q (WE W σ), ⟨fun pins s σ H Q I h => ?_⟩, fun {B0 G H δ σ Q} S h => ⟨G, [], S.gh, .nil, h⟩⟩
  refine wpAny_Call_Name_kw (ld_glob I hg hm ?_ hdb)
  exact PySem.W.callWith_K0 I.kIn hk (run_fnS (us := []) F hr hb (passAt tk σ) I .nil h)

/-! ### instances -/
/-- a class's facts -/
structure KC (K : PySem.W.Frag) (c : Str) : Prop where
  cl : Cls K (He.ga K c)
  ha : PySem.W.findIn K (.ref (He.ga K c)) "__class__" = some (some (.builtin "object.__class__"))
  hn : PySem.W.specialIn K (.builtin "object.__class__") "__get__" = some (some (.builtin "getset_descriptor.__get__"))
  htk : PySem.W.takesIn K (.builtin "object.__class__") = some true
  hm : PySem.W.mroIn K (He.ga K c) (.type "object") = some true
def xFld (cs : List Str) (f : Str) (fa : Ev → R DV) : Ev → R DV := fun δ => (fa δ).bind fun d => match d with
  | .obj c fs => if cs.contains c then R.ofO (fs.lookup f) else .bad
  | _ => .bad
theorem d_fld {cs : List Str} {f : Str} (A : PD X W a fa) (hf : ∀ c ∈ cs, KC X.K c ∧ NoAttr X.K (He.ga X.K c) f) (hb : attributeBase a f X.env (eval a X.env) = eval a X.env := by rfl) : PD X W (.Attribute a f pos) (xFld cs f fa) := by
  obtain ⟨ta, pa, ha⟩ := A.ex
  refine ⟨_, pe_fld pa hb, fun {B0 G H δ σ Q} S h => ?_⟩
  refine ha S (Rq.bind (rep := DRep X.K) h fun d e v H1 G1 t1 r1 h1 => ?_)
  cases r1 with
  | obj e1 r =>
    rename_i a1 dx c vs fs
    have h2 : Rq X.K (DRep X.K) (fun c d H' => W c d σ H') G1 H1 (if cs.contains c = true then R.ofO (fs.lookup f) else .bad) Q := h1
    obtain ⟨hc, h1⟩ : cs.contains c = true ∧ Rq X.K (DRep X.K) (fun c d H' => W c d σ H') G1 H1 (R.ofO (fs.lookup f)) Q := by
      by_cases q : cs.contains c = true
      · rw [if_pos q] at h2; exact ⟨q, h2⟩
      · rw [if_neg q] at h2; exact h2.elim
    obtain ⟨k1, k2⟩ := hf c (by simpa using hc)
    cases q : fs.lookup f with
    | none => rw [q] at h1; exact h1.elim
    | some d =>
      rw [q] at h1
      obtain ⟨y, hy, py⟩ := r.lookup q
      exact ⟨_, _, _, _, y, rfl, t1.gh _ _ e1, k1.cl, k2, hy, Rq.ok_self (rep := DRep X.K) t1.gh h1 py⟩
  | _ => exact h1.elim
/-- e.NAME, a constant of the class -/
def xCon (tab : List (Str × DV)) (f : Str) (fa : Ev → R DV) : Ev → R DV := fun δ => (fa δ).bind fun d => match d with
  | .obj c fs => (match fs.lookup f with
    | some _ => .bad
    | none => R.ofO (tab.lookup c))
  | _ => .bad
theorem d_con {tab : List (Str × DV)} {f : Str} (A : PD X W a fa) (hf : ∀ c d, tab.lookup c = some d → KC X.K c ∧ ∃ v u, Con X.K (He.ga X.K c) f v u ∧ ∀ G, DRep X.K G v d) (hb : attributeBase a f X.env (eval a X.env) = eval a X.env := by rfl) : PD X W (.Attribute a f pos) (xCon tab f fa) := by
  obtain ⟨ta, pa, ha⟩ := A.ex
  refine ⟨_, pe_con pa hb, fun {B0 G H δ σ Q} S h => ?_⟩
  refine ha S (Rq.bind (rep := DRep X.K) h fun d e v H1 G1 t1 r1 h1 => ?_)
  cases r1 with
  | obj e1 r =>
    rename_i a1 dx c vs fs
    have h2 : Rq X.K (DRep X.K) (fun c d H' => W c d σ H') G1 H1 (match fs.lookup f with
      | some _ => .bad
      | none => R.ofO (tab.lookup c)) Q := h1
    cases q : fs.lookup f with
    | some _ => rw [q] at h2; exact h2.elim
    | none =>
      rw [q] at h2
      dsimp only at h2
      cases q2 : tab.lookup c with
      | none => rw [q2] at h2; exact h2.elim
      | some d =>
        rw [q2] at h2
        obtain ⟨k1, y, u, k2, py⟩ := hf c d q2
        exact ⟨_, _, _, _, y, u, rfl, t1.gh _ _ e1, k1.cl, k2, r.none q, Rq.ok_self (rep := DRep X.K) t1.gh h2 (py _)⟩
  | _ => exact h1.elim
/-- e.NAME, a property of the class c -/
def xProp (c : Str) (m : Mir) (fa : Ev → R DV) : Ev → R DV := fun δ => (fa δ).bind fun d => match d with
  | .obj c' fs => if c' = c then m [.obj c' fs] else .bad
  | _ => .bad
theorem d_prop {cn f : Str} {pp g : Addr} (kc : KC X.K cn) (hp : PropOf X.K (He.ga X.K cn) f pp g) (F : FnOk X.prog X.w X.K X.mg X.base (L2.CX X.prog X.w) k g fd ps (spD X.K m)) (hr : Room (k + 1) X.A) (hb : Binds X.K fd ps []) (hnx : ∀ ds c fs, m ds ≠ .exc c fs)
    (A : PD X W a fa) (hab : attributeBase a f X.env (eval a X.env) = eval a X.env := by rfl) : PD X W (.Attribute a f pos) (xProp cn m fa) := by
  obtain ⟨ta, pa, ha⟩ := A.ex
  refine ⟨_, pe_prop (CX := L2.CX X.prog X.w) (E := E0) (dvs := []) pa kc.cl hp F hr hb .nil (passL (X := X.nox)) hab, fun {B0 G H δ σ Q} S h => ?_⟩
  refine ha S (Rq.bind (rep := DRep X.K) h fun d e v H1 G1 t1 r1 h1 => ?_)
  cases r1 with
  | obj e1 r =>
    rename_i a1 dx c vs fs
    have h2 : Rq X.K (DRep X.K) (fun c d H' => W c d σ H') G1 H1 (if c = cn then m [.obj c fs] else .bad) Q := h1
    by_cases q : c = cn
    · rw [if_pos q] at h2
      subst q
      refine ⟨_, _, _, rfl, t1.gh _ _ e1, G1, [.obj c fs], t1.gh, .cons (.obj e1 r) .nil, ?_⟩
      cases q2 : m [.obj c fs] with
      | ok d => rw [q2] at h2; exact h2
      | exc c' fs' => exact absurd q2 (hnx _ _ _)
      | bad => rw [q2] at h2; exact h2
    · rw [if_neg q] at h2; exact h2.elim
  | _ => exact h1.elim
/-- o.m(e, ..), a method of the class c -/
def xMeth (c mn : Str) (m : Mir) (fo : Ev → R DV) (fes : Ev → R (List DV)) : Ev → R DV := fun δ => (fo δ).bind fun d => match d with
  | .obj c' fs => if c' = c then (match fs.lookup mn with
    | none => (fes δ).bind fun ds => m (.obj c' fs :: ds)
    | some _ => .bad) else .bad
  | _ => .bad
def tMethS (C : Addr) (m : Str) (sp : Sp) (E : L2.St → XK) (ta : TE) (t : TA) : TE := fun σ H Q => ta σ H fun x H1 => ∃ a dx fs, x = .ref a ∧ H1 a = some (.ins C dx fs) ∧ fs.lookup m = none ∧ t σ H1 fun vs H2 => sp (x :: vs) H2 Q (E σ)
theorem d_meth {cn mn : Str} {apos : Pos} {pl : Sem Bool} (tk : Takes X W) (kc : KC X.K cn) (hm : Meth X.K (He.ga X.K cn) mn f) (F : FnOk X.prog X.w X.K X.mg X.base (L2.CX X.prog X.w) k f fd ps (spD X.K m)) (hr : Room k X.A) (hb : Binds X.K fd ps [])
    (O : PD X W o fa) (A : PDA X W (a :: es) fes) (hst : starEach (a :: es) X.env = (false, eval a X.env) :: starEach es X.env := by rfl) (hpl : (backTo pos (starEach es X.env)).any (·.1) = false := by rfl)
    (ht : eval (.Call (.Attribute o mn apos) (a :: es) [] pos) X.env = (do
      let ov ← eval o X.env
      standAt apos.atName
      let (f, first) ← holding [ov] (getMethod ov mn pl)
      callWith pos f first (backTo pos (starEach (a :: es) X.env)) (backToKw pos (keywordEach [] X.env))) := by rfl) : PD X W (.Call (.Attribute o mn apos) (a :: es) [] pos) (xMeth cn mn m fa fes) := by
  obtain ⟨to, po, ho⟩ := O.ex
  obtain ⟨ta, pa, ha⟩ := A.ex
  refine ⟨tMethS (He.ga X.K cn) mn (spD X.K m) (WE W) to ta, ⟨fun pins s σ H Q I h => ?_⟩, fun {B0 G H δ σ Q} S h => ?_⟩
  · refine PySem.W.methodCall_KW (pl := pl) (thn (po.run pins s σ H _ I h) fun u s1 ⟨x, H1, I1, rx, a, dx, fs, ex, ea, l, q⟩ => ?_) ht
    subst ex
    obtain rfl : u = Value.ref a := rx
    refine getmeth_ok I1 ea kc.cl hm l ?_
    refine PySem.W.callWith_K (first := [.ref a]) (h₀ := X.base) I.ok.mod.kin hm.kp (thn (pa.run pos pins s1 σ H1 _ I1 q) fun us s2 ⟨vs, H2, I2, r, q2⟩ => ⟨I2.kIn, ?_⟩) hst hpl
    exact run_fnS (us := .ref a :: us) (vs := .ref a :: vs) F hr hb (passAt tk σ) I2 (.cons rfl r) q2
  · refine ho S (Rq.bind (rep := DRep X.K) h fun d e v H1 G1 t1 r1 h1 => ?_)
    cases r1 with
    | obj e1 r =>
      rename_i a1 dx c vs fs
      have h2 : Rq X.K (DRep X.K) (fun c d H' => W c d σ H') G1 H1 (if c = cn then (match fs.lookup mn with
        | none => (fes δ).bind fun ds => m (.obj c fs :: ds)
        | some _ => .bad) else .bad) Q := h1
      by_cases q : c = cn
      · rw [if_pos q] at h2
        subst q
        cases q2 : fs.lookup mn with
        | some _ => rw [q2] at h2; exact h2.elim
        | none =>
          rw [q2] at h2
          refine ⟨a1, dx, vs, rfl, t1.gh _ _ e1, r.none q2, ?_⟩
          refine ha (S.step t1) (Rq.bind (rep := DReps X.K) h2 fun ds ed ws H2 G2 t2 r2 h3 => ?_)
          exact ⟨G2, .obj c fs :: ds, t2.gh, .cons (.obj (t2.gg _ _ e1) (r.mono t2.gg)) r2, h3⟩
      · rw [if_neg q] at h2; exact h2.elim
    | _ => exact h1.elim
theorem d_meth0 {cn mn : Str} {apos : Pos} {pl : Sem Bool} (tk : Takes X W) (kc : KC X.K cn) (hm : Meth X.K (He.ga X.K cn) mn f) (F : FnOk X.prog X.w X.K X.mg X.base (L2.CX X.prog X.w) k f fd ps (spD X.K m)) (hr : Room k X.A) (hb : Binds X.K fd ps [])
    (O : PD X W o fa)
    (ht : eval (.Call (.Attribute o mn apos) [] [] pos) X.env = (do
      let ov ← eval o X.env
      standAt apos.atName
      let (f, first) ← holding [ov] (getMethod ov mn pl)
      callWith pos f first (backTo pos (starEach [] X.env)) (backToKw pos (keywordEach [] X.env))) := by rfl) : PD X W (.Call (.Attribute o mn apos) [] [] pos) (xMeth cn mn m fa xNil) := by
  obtain ⟨to, po, ho⟩ := O.ex
  refine ⟨tMethS (He.ga X.K cn) mn (spD X.K m) (WE W) to tNil, ⟨fun pins s σ H Q I h => ?_⟩, fun {B0 G H δ σ Q} S h => ?_⟩
  · refine PySem.W.methodCall_KW (pl := pl) (thn (po.run pins s σ H _ I h) fun u s1 ⟨x, H1, I1, rx, a, dx, fs, ex, ea, l, q⟩ => ?_) ht
    subst ex
    obtain rfl : u = Value.ref a := rx
    refine getmeth_ok I1 ea kc.cl hm l ?_
    exact PySem.W.callWith_K0 (first := [.ref a]) I1.kIn hm.kp (run_fnS (us := [.ref a]) (vs := [.ref a]) F hr hb (passAt tk σ) I1 (.cons rfl .nil) q)
  · refine ho S (Rq.bind (rep := DRep X.K) h fun d e v H1 G1 t1 r1 h1 => ?_)
    cases r1 with
    | obj e1 r =>
      rename_i a1 dx c vs fs
      have h2 : Rq X.K (DRep X.K) (fun c d H' => W c d σ H') G1 H1 (if c = cn then (match fs.lookup mn with
        | none => (xNil δ).bind fun ds => m (.obj c fs :: ds)
        | some _ => .bad) else .bad) Q := h1
      by_cases q : c = cn
      · rw [if_pos q] at h2
        subst q
        cases q2 : fs.lookup mn with
        | some _ => rw [q2] at h2; exact h2.elim
        | none =>
          rw [q2] at h2
          exact ⟨a1, dx, vs, rfl, t1.gh _ _ e1, r.none q2, G1, [.obj c fs], t1.gh, .cons (.obj e1 r) .nil, h2⟩
      · rw [if_neg q] at h2; exact h2.elim
    | _ => exact h1.elim

/-! ### __init__ -/
/-- an __init__'s mirror: the class, the attributes so far, the arguments -> the attributes -/
abbrev Imi := Str → List (Str × DV) → List DV → R (List (Str × DV))
def dl (H : Hp) (a : Addr) : Hp := fun b => if b = a then none else H b
theorem dl_same {H : Hp} {a : Addr} : dl H a a = none := if_pos rfl
theorem dl_ne {H : Hp} {a b : Addr} (h : b ≠ a) : dl H a b = H b := if_neg h
theorem dl_sub {H : Hp} {a : Addr} : Same (dl H a) H := fun b o e => by
  by_cases q : b = a
  · rw [q, dl_same] at e; cases e
  · rw [dl_ne q] at e; exact e
theorem dl_of {G H : Hp} {a : Addr} (s : Same G H) (h : G a = none) : Same G (dl H a) := fun b o e => by
  rw [dl_ne (fun z => by rw [z, h] at e; cases e)]; exact s b o e
def RqI (K : PySem.W.Frag) (E : XK) (G H : Hp) (p : Addr) (c : Str) (r : R (List (Str × DV))) (Q : VK) : Prop := match r with
  | .ok fs => ∀ H' G' dx ws, Tr G (dl H p) G' H' → G' p = none → H' p = some (.ins (He.ga K c) dx ws) → FReps K G' ws fs → Q .non H'
  | .exc cn xs => ∀ H' G' d, Tr G (dl H p) G' H' → XRep K G' H' d xs → E (.ref (He.ga K cn)) d H'
  | .bad => False
def spI (K : PySem.W.Frag) (n : Nat) (mi : Imi) : Sp := fun vs H Q E => ∃ p dx c ws fs G vs' ds, vs = .ref p :: vs' ∧ vs'.length = n ∧ H p = some (.ins (He.ga K c) dx ws) ∧ G p = none ∧ Same G H ∧ FReps K G ws fs ∧ DReps K G vs' ds ∧ RqI K E G H p c (mi c fs ds) Q

/-- the callee of C(..), what is raised is wished for at the caller's slots -/
theorem run_makeS {ds : List Value} {sp : Sp} {E : L2.St → XK} {pins : List (Addr × Obj)} {σ : L2.St} {H : Hp} {s : Shared} {Q : VK} {us : List Value} {vs : List V} (M : Mk X.K C f) (F : FnOk X.prog X.w X.K X.mg X.base (L2.CX X.prog X.w) k f fd ps sp) (hr : Room (k + 1) X.A) (hb : Binds X.K fd ps [])
    (hx : PassesAt (L2.CX X.prog X.w) X σ (E σ)) (I : Inv X pins σ H s) (r : Vals vs us)
    (h : ∀ x dx, H x = none → H dx = none → dx ≠ x → sp (.ref x :: vs) (upd (upd H dx (.own x)) x (.ins C dx [])) (fun v H2 => v = .non ∧ Q (.ref x) H2) (E σ)) :
    wpAny (model X.prog X.w) X.A (call (.ref C) us) (EP X pins σ Q) X.xe s := by
  have hq := h (s.heap.objs.size + 1) s.heap.objs.size (I.hok.fresh (Nat.le_succ _)) (I.hok.fresh (Nat.le_refl _)) (Nat.ne_of_lt (Nat.lt_succ_self _))
  have I2 := Inv.made (C := C) I
  have r2 : Vals (V.ref (s.heap.objs.size + 1) :: vs) (Value.ref (s.heap.objs.size + 1) :: us) := .cons rfl r
  have hl : (Value.ref (s.heap.objs.size + 1) :: us ++ []).length = ps.length := by
    have e := r2.length
    rw [F.len _ _ _ _ hq] at e
    rw [List.append_nil]
    exact e.symm
  refine wpAny_call (make_map (f := f) I.kIn M.makes M.init (beq_iff_eq.mp M.fn) (codeAny_mono (F.run _ X.stack _ _ ⟨Value.ref (s.heap.objs.size + 1) :: us, []⟩ (Value.ref (s.heap.objs.size + 1) :: us) _ _ (E σ) (hr.make C us [])
    (I2.env0.make C us []) (by have z := hb _ (Value.ref (s.heap.objs.size + 1) :: us) I2.kIn hl; rw [List.append_nil] at z; exact z) r2 hq) fun r s' hq' => ?_))
  cases r with
  | error e => exact hx pins _ _ e s' I2 hq'
  | ok fl =>
    cases fl with
    | ret u =>
      obtain ⟨v, H', I3, rv, ev, q3⟩ := I2.after hq'
      subst ev
      exact ⟨rv, ⟨V.ref (s.heap.objs.size + 1), H', I3, rfl, q3⟩⟩
    | next => exact False.elim hq'
    | brk => exact False.elim hq'
    | cont => exact False.elim hq'
def xMake (c : Str) (n : Nat) (mi : Imi) (fes : Ev → R (List DV)) : Ev → R DV := fun δ => (fes δ).bind fun ds => if Nat.beq ds.length n then (mi c [] ds).bind fun fs => .ok (.obj c fs) else .bad
theorem made_req {K : PySem.W.Frag} {W : XK} {G H : Hp} {vs : List V} {ds : List DV} {n : Nat} {mi : Imi} {cn : Str} {Q : VK} (s : Same G H) (r : DReps K G vs ds) (h : Rq K (DRep K) (fun c d H' => W c d H') G H (if Nat.beq ds.length n = true then (mi cn [] ds).bind fun fs => .ok (.obj cn fs) else .bad) Q)
    (x dx : Addr) (hx : H x = none) (hd : H dx = none) (ne : dx ≠ x) : spI K n mi (.ref x :: vs) (upd (upd H dx (.own x)) x (.ins (He.ga K cn) dx [])) (fun v H2 => v = .non ∧ Q (.ref x) H2) W := by
  cases c : Nat.beq ds.length n with
  | false => rw [c] at h; exact h.elim
  | true =>
    rw [c, if_pos rfl] at h
    have hx2 : (upd H dx (.own x)) x = none := by rw [upd_ne (Ne.symm ne)]; exact hx
    have s2 : Same H (upd (upd H dx (.own x)) x (.ins (He.ga K cn) dx [])) := (Same.upd hd).trans (Same.upd hx2)
    have hgx : G x = none := s.none hx
    refine ⟨x, dx, cn, [], [], G, vs, ds, rfl, by rw [r.length]; exact Nat.eq_of_beq_eq_true c, upd_same, hgx, s.trans s2, .nil, r, ?_⟩
    have s3 : Same H (dl (upd (upd H dx (.own x)) x (.ins (He.ga K cn) dx [])) x) := fun b o e => by
      rw [dl_ne (fun z => by rw [z, hx] at e; cases e)]; exact s2 b o e
    have t0 : Tr G H G (dl (upd (upd H dx (.own x)) x (.ins (He.ga K cn) dx [])) x) := ⟨s3, Same.refl _, s.trans s3, fun _ _ => rfl⟩
    cases q : mi cn [] ds with
    | ok fs =>
      rw [q] at h
      intro H' G' dx' ws t hg' e' rf
      have t1 := t0.trans t
      refine ⟨rfl, h (.ref x) H' (upd G' x (.ins (He.ga K cn) dx' ws)) ⟨t1.sm, t1.gg.trans (Same.upd hg'), fun b o e => ?_, fun b hb => ?_⟩ (.obj upd_same (rf.mono (Same.upd hg')))⟩
      · by_cases z : b = x
        · subst z; rw [upd_same] at e; rw [← e]; exact e'
        · rw [upd_ne z] at e; exact t1.gh b o e
      · rw [upd_ne (fun z => hb (by rw [z]; exact hx))]; exact t1.nw b hb
    | exc cl xs => rw [q] at h; exact fun H' G' d t xr => h H' G' d (t0.trans t) xr
    | bad => rw [q] at h; exact h.elim
theorem d_make {cn : Str} {n : Nat} {mi : Imi} (tk : Takes X W) (M : Mk X.K (He.ga X.K cn) f) (F : FnOk X.prog X.w X.K X.mg X.base (L2.CX X.prog X.w) k f fd ps (spI X.K n mi)) (hr : Room (k + 1) X.A) (hm : X.mg cn = some (.ref (He.ga X.K cn))) (hb : Binds X.K fd ps []) (A : PDA X W (a :: es) fes) (hg : Gl X cn := by rfl)
    (hdb : (cn == ("__debug__" : Str)) = false := by decide) (he : starEach (a :: es) X.env = (false, eval a X.env) :: starEach es X.env := by rfl) (hpl : (backTo pos (starEach es X.env)).any (·.1) = false := by rfl) : PD X W (.Call (.Name cn p) (a :: es) [] pos) (xMake cn n mi fes) := by
  obtain ⟨ta, pa, ha⟩ := A.ex
  refine ⟨fun σ H Q => ta σ H fun vs H1 => ∀ x dx, H1 x = none → H1 dx = none → dx ≠ x → spI X.K n mi (.ref x :: vs) (upd (upd H1 dx (.own x)) x (.ins (He.ga X.K cn) dx [])) (fun v H2 => v = .non ∧ Q (.ref x) H2) (WE W σ), ⟨fun pins s σ H Q I h => ?_⟩, fun {B0 G H δ σ Q} S h => ?_⟩
  · refine wpAny_Call_Name_kw (ld_glob I hg hm ?_ hdb)
    refine PySem.W.callWith_K (h₀ := X.base) I.ok.mod.kin M.kp (thn (pa.run pos pins s σ H _ I h) fun us s1 ⟨vs, H1, I1, r, q⟩ => ⟨I1.kIn, ?_⟩) he hpl
    exact run_makeS (ds := []) (E := WE W) M F hr hb (passAt tk σ) I1 r q
  · exact ha S (Rq.bind (rep := DReps X.K) h fun ds e vs H1 G1 t1 r1 h1 => made_req t1.gh r1 h1)

/-! ### the body of an __init__ -/
/-- self.f = e, self the instance that is being made (slot i) -/
def putD (f : Str) (d : DV) : List (Str × DV) → List (Str × DV)
  | [] => [(f, d)]
  | (g, y) :: r => if g = f then (f, d) :: r else (g, y) :: putD f d r
def sFldD (cs : List Str) (i : Nat) (f : Str) (fa : Ev → R DV) : Ev → SR := fun δ => xS (fa δ) δ fun d => match δ[i]? with
  | some (.oo c fs) => if cs.contains c && Nat.blt fs.length 1000 then .nx (δ.set i (.oo c (putD f d fs))) else .bad
  | _ => .bad
theorem FReps.put {K : PySem.W.Frag} {G : Hp} {f : Str} {v : V} {d : DV} (p : DRep K G v d) : ∀ {vs : List (Str × V)} {ds : List (Str × DV)}, FReps K G vs ds → FReps K G (putF f v vs) (putD f d ds)
  | _, _, .nil => .cons p .nil
  | _, _, .cons (k := g) (vs := vs) (ds := ds) r t => by
    by_cases q : g = f
    · show FReps K G (if g = f then _ else _) (if g = f then _ else _)
      rw [if_pos q, if_pos q]
      subst q
      exact .cons p t
    · show FReps K G (if g = f then _ else _) (if g = f then _ else _)
      rw [if_neg q, if_neg q]
      exact .cons r (FReps.put p t)
theorem ds_fld (i : Nat) {cs : List Str} {x f : Str} {p1 p2 : Pos} (A : PD X W a fa) (hf : ∀ c ∈ cs, KC X.K c ∧ NoAttr X.K (He.ga X.K c) f) (hN : X.N[i]? = some x := by rfl) (hv : Vis X.env.scope x := by first | exact Or.inl rfl | exact Or.inr (Or.inl rfl) | exact Or.inr (Or.inr rfl))
    (hd : (x == ("__debug__" : Str)) = false := by decide) (hcd : (x == ("__classdict__" : Str)) = false := by decide) (hs : swapsWith a (some (.Attribute (.Name x p1) f p2)) pos.line X.env = pure false := by rfl) : PSD X W (.Assign [.Attribute (.Name x p1) f p2] a pos) (sFldD cs i f fa) := by
  obtain ⟨ta, pa, ha⟩ := A.ex
  have pv' : PE X (.Name x p1) (tVar i) := L2.pv i hN hv hd hcd
  refine ⟨_, ps_fld pv' pa hs, fun {B0 G H δ σ D} S h => ?_⟩
  refine ha S (SRq.of S h fun d e v H1 G1 t1 r1 h1 => ?_)
  have S1 := S.step t1
  split at h1
  · rename_i c fs e1
    cases q : (cs.contains c && Nat.blt fs.length 1000) with
    | false => rw [q] at h1; exact h1.elim
    | true =>
      rw [q, if_pos rfl] at h1
      obtain ⟨q1, q2⟩ := Bool.and_eq_true_iff.mp q
      obtain ⟨k1, k2⟩ := hf c (by simpa using q1)
      obtain ⟨pp, es, h0, hg, dx, vs, hp, r⟩ := S1.own e1 rfl
      obtain ⟨p', hpa, es'⟩ := S1.me i c fs e1
      have ep : pp = p' := by
        rw [es] at es'
        injection es' with z; injection z with z; injection z
      subst ep
      refine ⟨_, es, pp, He.ga X.K c, dx, vs, rfl, hp, k1.cl, k2, by rw [r.length]; exact Nat.le_of_ble_eq_true q2, ?_⟩
      exact h1 _ _ _ (Same.refl _) (own_upd S1 e1 rfl es h0 hg rfl (fun _ _ z => hpa) ⟨dx, _, upd_same, r.put r1⟩)
  · exact h1.elim
end

/-! ### an __init__ as a def -/
def imi (n p : Nat) (F : Ev → SR) : Imi := fun c fs ds => if Nat.beq ds.length p then (match F (Sl.oo c fs :: (ds.map Sl.pu ++ List.replicate (n - (p + 1)) Sl.un)) with
  | .nx δ => (match (δ[0]? : Option Sl) with
    | some (Sl.oo c' fs') => if c' = c then .ok fs' else .bad
    | _ => .bad)
  | .ex c fs _ => .exc c fs
  | _ => .bad) else .bad
section
variable {P : Program} {w : World} {K : PySem.W.Frag} {mg : Str → Option Value} {base : Heap}
theorem sok_init {G H : Hp} {p dx : Addr} {c : Str} {ws : List (Str × V)} {fs : List (Str × DV)} {vs : List V} {ds : List DV} {k m : Nat} (s : Same G H) (hp : H p = some (.ins (He.ga K c) dx ws)) (hg : G p = none) (rf : FReps K G ws fs) (r : DReps K G vs ds) (hm : m = k) :
    SOk K ⟨dl H p, G, some p⟩ G H (Sl.oo c fs :: (ds.map Sl.pu ++ List.replicate k Sl.un)) (some (.ref p) :: (vs.map some ++ List.replicate m none)) := by
  have S := sok_args (K := K) s r hm
  refine ⟨⟨dl_sub, Same.refl _, s, fun _ _ => rfl⟩, by have := S.len; simp only [List.length_cons]; omega, fun i sl e => ?_, fun i j a b q e1 e2 o1 o2 h1 h2 => ?_, fun i c' fs' e => ?_⟩
  · cases i with
    | zero =>
      simp at e
      subst e
      exact ⟨p, rfl, dl_same, hg, dx, ws, hp, rf⟩
    | succ i =>
      have z := S.sl i sl (by simpa using e)
      cases sl with
      | un => trivial
      | pu d => simpa [SlOk] using z
      | ol _ => obtain ⟨a, _, h0, _⟩ := z.own rfl; have h := List.mem_of_getElem? (show (ds.map Sl.pu ++ List.replicate k Sl.un)[i]? = _ from by simpa using e); rcases List.mem_append.mp h with h | h; (obtain ⟨_, _, z⟩ := List.mem_map.mp h; cases z); (cases (List.mem_replicate.mp h).2)
      | oo _ _ => have h := List.mem_of_getElem? (show (ds.map Sl.pu ++ List.replicate k Sl.un)[i]? = _ from by simpa using e); rcases List.mem_append.mp h with h | h; (obtain ⟨_, _, z⟩ := List.mem_map.mp h; cases z); (cases (List.mem_replicate.mp h).2)
      | od _ => have h := List.mem_of_getElem? (show (ds.map Sl.pu ++ List.replicate k Sl.un)[i]? = _ from by simpa using e); rcases List.mem_append.mp h with h | h; (obtain ⟨_, _, z⟩ := List.mem_map.mp h; cases z); (cases (List.mem_replicate.mp h).2)
  · have no : ∀ {i : Nat} {a : Sl}, (Sl.oo c fs :: (ds.map Sl.pu ++ List.replicate k Sl.un))[i]? = some a → isOwn a = true → i = 0 := fun {i a} e o => by
      cases i with
      | zero => rfl
      | succ i =>
        have h := List.mem_of_getElem? (show (ds.map Sl.pu ++ List.replicate k Sl.un)[i]? = some a from by simpa using e)
        rcases List.mem_append.mp h with h | h
        · obtain ⟨d, _, rfl⟩ := List.mem_map.mp h; cases o
        · rw [(List.mem_replicate.mp h).2] at o; cases o
    rw [no e1 o1, no e2 o2]
  · cases i with
    | zero => exact ⟨p, rfl, rfl⟩
    | succ i =>
      have h := List.mem_of_getElem? (show (ds.map Sl.pu ++ List.replicate k Sl.un)[i]? = _ from by simpa using e)
      rcases List.mem_append.mp h with h | h
      · obtain ⟨d, _, z⟩ := List.mem_map.mp h; cases z
      · cases (List.mem_replicate.mp h).2
theorem fn_init {x qual : Str} {params : Arguments} {body : List Stmt} {scope : Scope} {dvs : List V} {kws : List (Str × V)} {f : Addr} {fd : FuncData} {N ps : List Str} {k n : Nat} {F : Ev → SR}
    (D : FunD K x qual params body scope dvs kws f fd) (S : FnScope N ps scope) (hn : ps.length = n + 1) (hle : ps.length ≤ N.length)
    (hbody : ∀ (cdv : Value) (A : Around) (outer : List Env) (s : Shared) (H : Hp) (E : XK), Room k (A.deeper (envOfC qual scope s.heap.objs.size f cdv)) →
      PSSD (cxOf (L2.CX P w) P w K mg base N qual scope f cdv A outer s H E) (fun cls d _ H' => E cls d H') body F) : FnOk P w K mg base (L2.CX P w) (k + 1) f fd ps (spI K n (imi N.length n F)) := by
  refine D.ok S (fun vs H Q E h => ?_) fun cdv A outer s H vs Q E hr h => ?_
  · obtain ⟨p, dx, c, ws, fs, G, vs', ds, rfl, hl, _⟩ := h
    rw [List.length_cons, hl, hn]
  · obtain ⟨p, dx, c, ws, fs, G, vs', ds, rfl, hl, hp, hg, s1, rf, r, h⟩ := h
    obtain ⟨t, pt, ht⟩ := (hbody cdv A outer s H E hr).ex
    refine ⟨t, pt, ?_⟩
    have S0 := sok_init (k := N.length - (n + 1)) (m := N.length - (n + 1)) s1 hp hg rf r rfl
    have es : L2.start N (.ref p :: vs') = some (.ref p) :: (vs'.map some ++ List.replicate (N.length - (n + 1)) none) := by
      unfold L2.start
      rw [List.length_cons, hl]
      rfl
    rw [es]
    refine ht S0 ?_
    unfold imi at h
    rw [show Nat.beq ds.length n = true from (by rw [← r.length, hl]; exact Nat.beq_refl _), if_pos rfl] at h
    cases q : F (Sl.oo c fs :: (ds.map Sl.pu ++ List.replicate (N.length - (n + 1)) Sl.un)) with
    | nx δ =>
      rw [q] at h
      dsimp only at h
      intro σ H' G' g S'
      cases q0 : δ[0]? with
      | none => rw [q0] at h; exact h.elim
      | some sl =>
        rw [q0] at h
        cases sl with
        | oo c' fs' =>
          by_cases qc : c' = c
          · subst qc
            have h2 : RqI K E G H p c' (.ok fs') Q := by
              have z : RqI K E G H p c' (if c' = c' then .ok fs' else .bad) Q := h
              rw [if_pos rfl] at z; exact z
            obtain ⟨pp, es2, h0, hg2, dx2, vs2, hp2, r2⟩ := S'.own q0 rfl
            obtain ⟨p', hpa, es3⟩ := S'.me 0 c' fs' q0
            have e1 : p = p' := Option.some.inj hpa
            have e2 : pp = p' := by
              rw [es2] at es3
              injection es3 with z; injection z with z; injection z
            subst e1 e2
            exact h2 H' G' dx2 vs2 S'.tr hg2 hp2 r2
          · have z : RqI K E G H p c (if c' = c then .ok fs' else .bad) Q := h
            rw [if_neg qc] at z; exact z.elim
        | _ => exact h.elim
    | rt d => rw [q] at h; exact h.elim
    | ex cn xs δ => rw [q] at h; exact fun σ H' G' dx' g S' x => h H' G' dx' S'.tr x
    | bk δ => rw [q] at h; exact h.elim
    | ct δ => rw [q] at h; exact h.elim
    | bad => rw [q] at h; exact h.elim
end
end LD

set_option maxHeartbeats 2000000
/-! Layer D, part F: isinstance, built-ins, comprehensions. -/
namespace LD
open PySem PySem.Spec PyProof.Rows L2

/-! ### types -/
inductive Tg where
  | ty (n : String)
  | own (c : Str)
  deriving DecidableEq
def DV.tg : DV → Tg
  | .non => .ty "NoneType"
  | .bl _ => .ty "bool"
  | .int _ => .ty "int"
  | .str _ => .ty "str"
  | .tup _ => .ty "tuple"
  | .lst _ => .ty "list"
  | .ro _ => .ty "list"
  | .dic _ => .ty "dict"
  | .dit _ => .ty "dict of tuples"
  | .obj c _ => .own c
def Tg.v (K : PySem.W.Frag) : Tg → Value
  | .ty n => .type n
  | .own c => .ref (He.ga K c)
def Tg.w (K : PySem.W.Frag) : Tg → V
  | .ty n => .ty n
  | .own c => .ref (He.ga K c)
theorem Tg.cls (K : PySem.W.Frag) : ∀ t : Tg, ClsV (t.w K) (t.v K)
  | .ty n => .ty n
  | .own c => .own _
def isiB (K : PySem.W.Frag) (tab : List (Tg × Bool)) (cs : List Tg) : Bool := tab.all fun p => decide (p.1 ≠ .ty "dict of tuples") && decide (PySem.W.kitAny K (p.1.v K) (cs.map (Tg.v K)) = some p.2)
theorem look_mem {α β : Type} [BEq α] [LawfulBEq α] {a : α} {b : β} : ∀ {l : List (α × β)}, l.lookup a = some b → (a, b) ∈ l
  | (c, d) :: l, h => by
    rw [List.lookup_cons] at h
    cases q : a == c with
    | true => rw [q] at h; simp at h; rw [eq_of_beq q, h]; exact List.mem_cons_self
    | false => rw [q] at h; exact List.mem_cons_of_mem _ (look_mem h)
theorem isiB_ok {K : PySem.W.Frag} {tab : List (Tg × Bool)} {cs : List Tg} (h : isiB K tab cs = true) {t : Tg} {b : Bool} (e : tab.lookup t = some b) : PySem.W.kitAny K (t.v K) (cs.map (Tg.v K)) = some b :=
  of_decide_eq_true (Bool.and_eq_true_iff.mp (List.all_eq_true.mp h (t, b) (look_mem e))).2
theorem isiB_nd {K : PySem.W.Frag} {tab : List (Tg × Bool)} {cs : List Tg} (h : isiB K tab cs = true) {t : Tg} {b : Bool} (e : tab.lookup t = some b) : t ≠ .ty "dict of tuples" :=
  of_decide_eq_true (Bool.and_eq_true_iff.mp (List.all_eq_true.mp h (t, b) (look_mem e))).1
theorem kitAny_one {K : PySem.W.Frag} {t c : Value} {b : Bool} (h : PySem.W.kitAny K t [c] = some b) : PySem.W.kitOne K t c = some b := by
  unfold PySem.W.kitAny at h
  cases q : PySem.W.kitOne K t c with
  | none => rw [q] at h; cases h
  | some r =>
    rw [q] at h
    cases r with
    | true => exact h
    | false => exact h
section
variable {K : PySem.W.Frag}
theorem tyx {G H : Hp} {v : V} {d : DV} (s : Same G H) (r : DRep K G v d) (hd : d.tg ≠ .ty "dict of tuples") (hk : ∀ c, d.tg = .own c → KC K c) : TyX K H v (d.tg.v K) := by
  cases r with
  | non => exact .base .non
  | bl b => exact .base (.bl b)
  | int i => exact .base (.int i)
  | str x => exact .base (.str x)
  | tup e _ => exact .base (.tup (s _ _ e))
  | lst e _ => exact .base (.lst (s _ _ e))
  | ro e _ =>
    have e := Same.seq s e
    rcases e with (e | ⟨o, e⟩) | ⟨o, its, n, e, c, _⟩
    · exact .base (.lst e)
    · exact .base (.frz e)
    · exact .kList e c
  | dic e _ => exact .fDict (s _ _ e)
  | dit e _ => exact (hd rfl).elim
  | obj e _ =>
    have k := hk _ rfl
    exact .base (.ins (s _ _ e) k.cl k.ha k.hn k.htk k.hm)
end
def oIsi (tab : List (Tg × Bool)) : DV → R DV := fun d => match tab.lookup d.tg with
  | some b => .ok (.bl b)
  | none => .bad
/-- class expressions: a name of a built-in type, of an own class -/
structure PCl (X : Cx) (e : Expr) (t : Tg) : Prop where
  pe : PE X e (tC (t.w X.K))
section
variable {X : Cx} {W : WX} {a b : Expr} {es : List Expr} {fa fb : Ev → R DV} {fes : Ev → R (List DV)} {pos : Pos}
theorem cl_ty {x : Str} {n : String} {p : Pos} (hm : X.mg x = none) (hv : bootBuiltins x = some (.type n)) (hg : Gl X x := by rfl) (hn : x ≠ "__name__" := by decide) (hd : (x == ("__debug__" : Str)) = false := by decide) : PCl X (.Name x p) (.ty n) :=
  ⟨pe_bltn hg hm hv rfl hn hd⟩
theorem cl_own {x : Str} {p : Pos} (hm : X.mg x = some (.ref (He.ga X.K x))) (hg : Gl X x := by rfl) (hd : (x == ("__debug__" : Str)) = false := by decide) : PCl X (.Name x p) (.own x) :=
  ⟨pe_glob hg hm rfl hd⟩
def xIsi (tab : List (Tg × Bool)) (fa : Ev → R DV) : Ev → R DV := fun δ => (fa δ).bind (oIsi tab)
theorem oIsi_rq {G H : Hp} {W : Value → Option Addr → Hp → Prop} {tab : List (Tg × Bool)} {d : DV} {Q : VK} (s : Same G H) (h : Rq X.K (DRep X.K) W G H (oIsi tab d) Q) : ∃ b, tab.lookup d.tg = some b ∧ Q (.bl b) H := by
  unfold oIsi at h
  cases q : tab.lookup d.tg with
  | none => rw [q] at h; exact h.elim
  | some b => rw [q] at h; exact ⟨b, rfl, Rq.ok_self (rep := DRep X.K) s h (.bl b)⟩
theorem d_isi {tab : List (Tg × Bool)} {t : Tg} {p : Pos} (hk : ∀ c b, tab.lookup (.own c) = some b → KC X.K c) (hB : isiB X.K tab [t] = true) (hm : X.mg "isinstance" = none) (A : PD X W a fa) (C : PCl X b t) (hg : Gl X "isinstance" := by rfl)
    (he : starEach [a, b] X.env = (false, eval a X.env) :: starEach [b] X.env := by rfl) (he2 : starEach [b] X.env = (false, eval b X.env) :: starEach [] X.env := by rfl) (hpl : (backTo pos (starEach [b] X.env)).any (·.1) = false := by rfl) :
    PD X W (.Call (.Name "isinstance" p) [a, b] [] pos) (xIsi tab fa) := by
  obtain ⟨ta, pa, ha⟩ := A.ex
  refine ⟨_, pe_callB call_isi hg hm (by decide +kernel) (pa_cons pa (pa_cons C.pe pa_nil he2) he) (by decide) (by decide) he hpl, fun {B0 G H δ σ Q} S h => ?_⟩
  refine ha S (Rq.bind (rep := DRep X.K) h fun d e v H1 G1 t1 r1 h1 => ?_)
  obtain ⟨bb, l, q⟩ := oIsi_rq t1.gh h1
  exact ⟨v, t.w X.K, d.tg.v X.K, t.v X.K, bb, rfl, t.cls X.K, tyx t1.gh r1 (isiB_nd hB l) (fun c z => hk c bb (by rw [← z]; exact l)), kitAny_one (isiB_ok hB l), q⟩
/-- a tuple of classes -/
structure PCls (X : Cx) (es : List Expr) (ts : List Tg) : Prop where
  pa : ∃ t : TA, PA X es t ∧ ∀ σ H (Q : List V → Hp → Prop), Q (ts.map (Tg.w X.K)) H → t σ H Q
theorem cls_nil : PCls X [] [] := ⟨_, pa_nil, fun _ _ _ h => h⟩
theorem cls_cons {ts : List Tg} {t : Tg} (A : PCl X a t) (B : PCls X es ts) (he : starEach (a :: es) X.env = (false, eval a X.env) :: starEach es X.env := by rfl) : PCls X (a :: es) (t :: ts) := by
  obtain ⟨u, pu, hu⟩ := B.pa
  exact ⟨_, pa_cons A.pe pu he, fun σ H Q h => hu σ H _ h⟩
theorem paired_cls (K : PySem.W.Frag) : ∀ ts : List Tg, Paired ClsV (ts.map (Tg.w K)) (ts.map (Tg.v K))
  | [] => .nil
  | t :: ts => .cons (t.cls K) (paired_cls K ts)
theorem d_isiT {tab : List (Tg × Bool)} {ts : List Tg} {p p2 : Pos} {kk : Nat} (hk : ∀ c b, tab.lookup (.own c) = some b → KC X.K c) (hB : isiB X.K tab ts = true) (hz : ts.length ≤ 1000) (hm : X.mg "isinstance" = none) (A : PD X W a fa) (C : PCls X es ts) (hg : Gl X "isinstance" := by rfl)
    (he : starEach [a, .Tuple es kk p2] X.env = (false, eval a X.env) :: starEach [.Tuple es kk p2] X.env := by rfl) (he2 : starEach [.Tuple es kk p2] X.env = (false, eval (.Tuple es kk p2) X.env) :: starEach [] X.env := by rfl)
    (hpl : (backTo pos (starEach [.Tuple es kk p2] X.env)).any (·.1) = false := by rfl) : PD X W (.Call (.Name "isinstance" p) [a, .Tuple es kk p2] [] pos) (xIsi tab fa) := by
  obtain ⟨ta, pa, ha⟩ := A.ex
  obtain ⟨tc, pc, hc⟩ := C.pa
  refine ⟨_, pe_callB call_isiT hg hm (by decide +kernel) (pa_cons pa (pa_cons (pe_tup pc) pa_nil he2) he) (by decide) (by decide) he hpl, fun {B0 G H δ σ Q} S h => ?_⟩
  refine ha S (Rq.bind (rep := DRep X.K) h fun d e v H1 G1 t1 r1 h1 => ?_)
  refine hc σ H1 _ ⟨by rw [sizeLine_eq, List.length_map]; omega, fun tp hp => ?_⟩
  have t2 := Tr.own (t1.gh) (.tup (ts.map (Tg.w X.K))) hp
  obtain ⟨bb, l, q⟩ := oIsi_rq t2.gh (Rq.tr t2 h1)
  exact ⟨v, tp, ts.map (Tg.w X.K), d.tg.v X.K, ts.map (Tg.v X.K), bb, rfl, upd_same, paired_cls _ _, tyx t2.gh r1 (isiB_nd hB l) (fun c z => hk c bb (by rw [← z]; exact l)), isiB_ok hB l, q⟩
end

/-! ### built-ins -/
section
variable {X : Cx}
def oLen : List DV → R DV
  | [.str z] => if small z.length then .ok (.int z.length) else .bad
  | [.tup xs] => .ok (.int xs.length)
  | [.lst xs] => .ok (.int xs.length)
  | [.ro xs] => .ok (.int xs.length)
  | _ => .bad
theorem cb_len : CbD X (fun xs H Q => ∃ x n, xs = [x] ∧ LenV X.K x H n ∧ Q (.int n) H) oLen := fun {G H vs ds Q W} s r h => by
  cases r with
  | nil => exact h.elim
  | cons r1 r2 =>
    cases r2 with
    | cons _ _ => rename_i d _ _ _ _ _ _; cases d <;> exact h.elim
    | nil =>
      cases r1 with
      | str z =>
        obtain ⟨c, q⟩ := rq_if h
        exact ⟨_, z.length, rfl, ⟨small_le c, rfl⟩, q.ok_self s (.int _)⟩
      | tup e r => exact ⟨_, _, rfl, .inr ⟨_, SqT.of (s _ _ e), rfl⟩, by rw [r.length]; exact Rq.ok_self (rep := DRep X.K) s h (.int _)⟩
      | lst e r => exact ⟨_, _, rfl, .inl ⟨_, SqL.of (s _ _ e), rfl⟩, by rw [r.length]; exact Rq.ok_self (rep := DRep X.K) s h (.int _)⟩
      | ro e r => exact ⟨_, _, rfl, .inl ⟨_, Same.seq s e, rfl⟩, by rw [r.length]; exact Rq.ok_self (rep := DRep X.K) s h (.int _)⟩
      | _ => exact h.elim
def oInt : List DV → R DV
  | [.int i] => .ok (.int i)
  | [.bl k] => .ok (.int (if k then 1 else 0))
  | _ => .bad
theorem cb_int : CbD X (fun xs H Q => (∃ i, xs = [.int i] ∧ Q (.int i) H) ∨ ∃ k, xs = [.bl k] ∧ Q (.int (if k then 1 else 0)) H) oInt := fun {G H vs ds Q W} s r h => by
  cases r with
  | nil => exact h.elim
  | cons r1 r2 =>
    cases r2 with
    | cons _ _ => rename_i d _ _ _ _ _ _; cases d <;> exact h.elim
    | nil =>
      cases r1 with
      | int i => exact .inl ⟨i, rfl, Rq.ok_self (rep := DRep X.K) s h (.int _)⟩
      | bl k => exact .inr ⟨k, rfl, Rq.ok_self (rep := DRep X.K) s h (.int _)⟩
      | _ => exact h.elim
def oAbs : List DV → R DV
  | [.int i] => .ok (.int (if i < 0 then -i else i))
  | _ => .bad
theorem cb_abs : CbD X (fun xs H Q => ∃ i, xs = [.int i] ∧ Q (.int (if i < 0 then -i else i)) H) oAbs := fun {G H vs ds Q W} s r h => by
  cases r with
  | nil => exact h.elim
  | cons r1 r2 =>
    cases r2 with
    | cons _ _ => rename_i d _ _ _ _ _ _; cases d <;> exact h.elim
    | nil =>
      cases r1 with
      | int i => exact ⟨i, rfl, Rq.ok_self (rep := DRep X.K) s h (.int _)⟩
      | _ => exact h.elim
/-- a list of ints, of bools -/
def asInts : List DV → Option (List Int)
  | [] => some []
  | .int i :: r => (asInts r).map (i :: ·)
  | _ => none
def asBls : List DV → Option (List Bool)
  | [] => some []
  | .bl i :: r => (asBls r).map (i :: ·)
  | _ => none
theorem asInts_rep {K : PySem.W.Frag} {G : Hp} : ∀ {vs : List V} {ds : List DV} {ns : List Int}, DReps K G vs ds → asInts ds = some ns → vs = ns.map V.int
  | _, _, _, .nil, e => by cases e; rfl
  | _, _, ns, .cons (d := d) (ds := ds) a b, e => by
    cases a with
    | int i =>
      unfold asInts at e
      cases q : asInts ds with
      | none => rw [q] at e; cases e
      | some r => rw [q] at e; cases e; rw [asInts_rep b q]; rfl
    | _ => cases e
theorem asBls_rep {K : PySem.W.Frag} {G : Hp} : ∀ {vs : List V} {ds : List DV} {ns : List Bool}, DReps K G vs ds → asBls ds = some ns → vs = ns.map V.bl
  | _, _, _, .nil, e => by cases e; rfl
  | _, _, ns, .cons (d := d) (ds := ds) a b, e => by
    cases a with
    | bl i =>
      unfold asBls at e
      cases q : asBls ds with
      | none => rw [q] at e; cases e
      | some r => rw [q] at e; cases e; rw [asBls_rep b q]; rfl
    | _ => cases e
def oLs {α : Type} (as : List DV → Option α) (k : α → R DV) : List DV → R DV
  | [.lst xs] => (R.ofO (as xs)).bind k
  | [.ro xs] => (R.ofO (as xs)).bind k
  | _ => .bad
theorem oLs_rq {α : Type} {as : List DV → Option α} {k : α → R DV} {G H : Hp} {vs : List V} {ds : List DV} {Q : VK} {W : Value → Option Addr → Hp → Prop} (s : Same G H) (r : DReps X.K G vs ds) (h : Rq X.K (DRep X.K) W G H (oLs as k ds) Q) :
    ∃ a ws xs n, vs = [.ref a] ∧ SqL X.K H a ws ∧ DReps X.K G ws xs ∧ as xs = some n ∧ Rq X.K (DRep X.K) W G H (k n) Q := by
  have go : ∀ {xs : List DV}, Rq X.K (DRep X.K) W G H ((R.ofO (as xs)).bind k) Q → ∃ n, as xs = some n ∧ Rq X.K (DRep X.K) W G H (k n) Q := fun {xs} h => by
    cases q : as xs with
    | none => rw [q] at h; exact h.elim
    | some n => rw [q] at h; exact ⟨n, rfl, h⟩
  cases r with
  | nil => exact h.elim
  | cons r1 r2 =>
    cases r2 with
    | cons _ _ => rename_i d _ _ _ _ _ _; cases d <;> exact h.elim
    | nil =>
      cases r1 with
      | lst e r => obtain ⟨n, e2, q⟩ := go h; exact ⟨_, _, _, n, rfl, SqL.of (s _ _ e), r, e2, q⟩
      | ro e r => obtain ⟨n, e2, q⟩ := go h; exact ⟨_, _, _, n, rfl, Same.seq s e, r, e2, q⟩
      | _ => exact h.elim
def oSum : List DV → R DV := oLs asInts fun ns => .ok (.int ns.sum)
def oAll : List DV → R DV := oLs asBls fun bs => .ok (.bl (bs.all id))
def oAny : List DV → R DV := oLs asBls fun bs => .ok (.bl (bs.any id))
def lmax : List Int → Option Int
  | [] => none
  | i :: r => some (r.foldl max i)
def lmin : List Int → Option Int
  | [] => none
  | i :: r => some (r.foldl min i)
def oMaxL : List DV → R DV := oLs asInts fun ns => (R.ofO (lmax ns)).bind fun i => .ok (.int i)
def oMinL : List DV → R DV := oLs asInts fun ns => (R.ofO (lmin ns)).bind fun i => .ok (.int i)
theorem cb_sum : CbD X (rSum X.K) oSum := fun {G H vs ds Q W} s r h => by
  obtain ⟨a, ws, xs, n, rfl, hs, r2, e, q⟩ := oLs_rq s r h
  rw [asInts_rep r2 e] at hs
  exact ⟨a, n, rfl, hs, q.ok_self s (.int _)⟩
theorem cb_all : CbD X (rAll X.K) oAll := fun {G H vs ds Q W} s r h => by
  obtain ⟨a, ws, xs, n, rfl, hs, r2, e, q⟩ := oLs_rq s r h
  rw [asBls_rep r2 e] at hs
  exact ⟨a, n, rfl, hs, q.ok_self s (.bl _)⟩
theorem cb_any : CbD X (rAny X.K) oAny := fun {G H vs ds Q W} s r h => by
  obtain ⟨a, ws, xs, n, rfl, hs, r2, e, q⟩ := oLs_rq s r h
  rw [asBls_rep r2 e] at hs
  exact ⟨a, n, rfl, hs, q.ok_self s (.bl _)⟩
theorem foldl_max : ∀ (r : List Int) (i : Int), r.foldl max i ∈ i :: r ∧ ∀ y ∈ i :: r, y ≤ r.foldl max i
  | [], i => ⟨by simp, fun y hy => by simp at hy; subst hy; exact Int.le_refl _⟩
  | j :: r, i => by
    obtain ⟨h1, h2⟩ := foldl_max r (max i j)
    have hx := h2 (max i j) List.mem_cons_self
    refine ⟨?_, fun y hy => ?_⟩
    · show r.foldl max (max i j) ∈ _
      rcases List.mem_cons.mp h1 with e | e
      · rw [e]; by_cases q : i ≤ j
        · rw [Int.max_eq_right q]; simp
        · rw [Int.max_eq_left (by omega)]; simp
      · simp [e]
    · show y ≤ r.foldl max (max i j)
      rcases List.mem_cons.mp hy with e | e
      · subst e; exact Int.le_trans (Int.le_max_left _ _) hx
      · rcases List.mem_cons.mp e with e | e
        · subst e; exact Int.le_trans (Int.le_max_right _ _) hx
        · exact h2 y (List.mem_cons_of_mem _ e)
theorem foldl_min : ∀ (r : List Int) (i : Int), r.foldl min i ∈ i :: r ∧ ∀ y ∈ i :: r, r.foldl min i ≤ y
  | [], i => ⟨by simp, fun y hy => by simp at hy; subst hy; exact Int.le_refl _⟩
  | j :: r, i => by
    obtain ⟨h1, h2⟩ := foldl_min r (min i j)
    have hx := h2 (min i j) List.mem_cons_self
    refine ⟨?_, fun y hy => ?_⟩
    · show r.foldl min (min i j) ∈ _
      rcases List.mem_cons.mp h1 with e | e
      · rw [e]; by_cases q : i ≤ j
        · rw [Int.min_eq_left q]; simp
        · rw [Int.min_eq_right (by omega)]; simp
      · simp [e]
    · show r.foldl min (min i j) ≤ y
      rcases List.mem_cons.mp hy with e | e
      · subst e; exact Int.le_trans hx (Int.min_le_left _ _)
      · rcases List.mem_cons.mp e with e | e
        · subst e; exact Int.le_trans hx (Int.min_le_right _ _)
        · exact h2 y (List.mem_cons_of_mem _ e)
theorem cb_max : CbD X (rMax X.K) oMaxL := fun {G H vs ds Q W} s r h => by
  obtain ⟨a, ws, xs, n, rfl, hs, r2, e, q⟩ := oLs_rq s r h
  rw [asInts_rep r2 e] at hs
  cases n with
  | nil => exact q.elim
  | cons i t =>
    refine ⟨a, i :: t, rfl, hs, by simp, fun m h1 h2 => ?_⟩
    obtain ⟨k1, k2⟩ := foldl_max t i
    have : m = t.foldl max i := Int.le_antisymm (k2 m h1) (h2 _ k1)
    subst this
    exact Rq.ok_self (rep := DRep X.K) s q (.int _)
theorem cb_min : CbD X (rMin X.K) oMinL := fun {G H vs ds Q W} s r h => by
  obtain ⟨a, ws, xs, n, rfl, hs, r2, e, q⟩ := oLs_rq s r h
  rw [asInts_rep r2 e] at hs
  cases n with
  | nil => exact q.elim
  | cons i t =>
    refine ⟨a, i :: t, rfl, hs, by simp, fun m h1 h2 => ?_⟩
    obtain ⟨k1, k2⟩ := foldl_min t i
    have : m = t.foldl min i := Int.le_antisymm (h2 _ k1) (k2 m h1)
    subst this
    exact Rq.ok_self (rep := DRep X.K) s q (.int _)
/-- list(xs), tuple(xs) -/
def oList : List DV → R DV
  | [.lst xs] => .ok (.lst xs)
  | [.ro xs] => .ok (.lst xs)
  | [.tup xs] => .ok (.lst xs)
  | _ => .bad
def oTuple : List DV → R DV
  | [.lst xs] => .ok (.tup xs)
  | [.ro xs] => .ok (.tup xs)
  | [.tup xs] => .ok (.tup xs)
  | _ => .bad
theorem cb_list : CbD X (fun xs H Q => ∃ p ys, xs = [.ref p] ∧ (SqL X.K H p ys ∨ SqT X.K H p ys) ∧ ∀ l, H l = none → Q (.ref l) (upd H l (.lst ys))) oList := fun {G H vs ds Q W} s r h => by
  cases r with
  | nil => exact h.elim
  | cons r1 r2 =>
    cases r2 with
    | cons _ _ => rename_i d _ _ _ _ _ _; cases d <;> exact h.elim
    | nil =>
      cases r1 with
      | lst e r => exact ⟨_, _, rfl, .inl (SqL.of (s _ _ e)), fun p hp => Rq.ok_new (rep := DRep X.K) s hp h (.lst upd_same (r.mono (Same.upd (s.none hp))))⟩
      | ro e r => exact ⟨_, _, rfl, .inl (Same.seq s e), fun p hp => Rq.ok_new (rep := DRep X.K) s hp h (.lst upd_same (r.mono (Same.upd (s.none hp))))⟩
      | tup e r => exact ⟨_, _, rfl, .inr (SqT.of (s _ _ e)), fun p hp => Rq.ok_new (rep := DRep X.K) s hp h (.lst upd_same (r.mono (Same.upd (s.none hp))))⟩
      | _ => exact h.elim
theorem cb_tuple : CbD X (fun xs H Q => ∃ p ys, xs = [.ref p] ∧ ((SqL X.K H p ys ∧ ∀ l, H l = none → Q (.ref l) (upd H l (.tup ys))) ∨ (SqT X.K H p ys ∧ Q (.ref p) H))) oTuple := fun {G H vs ds Q W} s r h => by
  cases r with
  | nil => exact h.elim
  | cons r1 r2 =>
    cases r2 with
    | cons _ _ => rename_i d _ _ _ _ _ _; cases d <;> exact h.elim
    | nil =>
      cases r1 with
      | lst e r => exact ⟨_, _, rfl, .inl ⟨SqL.of (s _ _ e), fun p hp => Rq.ok_new (rep := DRep X.K) s hp h (.tup upd_same (r.mono (Same.upd (s.none hp))))⟩⟩
      | ro e r => exact ⟨_, _, rfl, .inl ⟨Same.seq s e, fun p hp => Rq.ok_new (rep := DRep X.K) s hp h (.tup upd_same (r.mono (Same.upd (s.none hp))))⟩⟩
      | tup e r => exact ⟨_, _, rfl, .inr ⟨SqT.of (s _ _ e), Rq.ok_self (rep := DRep X.K) s h (.tup e r)⟩⟩
      | _ => exact h.elim
end
end LD

set_option maxHeartbeats 2000000
/-! Layer D, part G: what holds in every context; comprehensions; zip; try. -/
namespace LD
open PySem PySem.Spec PyProof.Rows L2

/-! ### readings that name no context -/
def cE (K : PySem.W.Frag) (W : WX) (f : Ev → R DV) : TE := fun σ H Q => ∃ B G δ, SOk K B G H δ σ ∧ Rq K (DRep K) (fun c d H' => W c d σ H') G H (f δ) Q
def cT (K : PySem.W.Frag) (W : WX) (f : Ev → R Bool) : TT := fun σ H Q => ∃ B G δ, SOk K B G H δ σ ∧ Rq K BRep (fun c d H' => W c d σ H') G H (f δ) Q
def cG (K : PySem.W.Frag) (ix : List Nat) (g : DV → Ev → R Ev) : TG := fun v σ H Q => ∃ B G δ δ' d, SOk K B G H δ σ ∧ DRep K G v d ∧ g d δ = .ok δ' ∧ ∀ σ', SOk K B G H δ' σ' → (∀ vs : List Nat, (∀ i ∈ ix, i ∈ vs) → wipe σ' vs = wipe σ vs) → Q σ' H
def cS (K : PySem.W.Frag) (W : WX) (F : Ev → SR) : TS := fun D σ H => ∃ B G δ, SOk K B G H δ σ ∧ SRq K W D B G (F δ)
section
variable {X : Cx} {W : WX} {a b c : Expr} {es : List Expr} {f : Ev → R DV} {ft : Ev → R Bool} {g : DV → Ev → R Ev} {ix : List Nat} {st : List Stmt} {F : Ev → SR}
theorem PD.can (A : PD X W a f) : PE X a (cE X.K W f) := by
  obtain ⟨t, p, h⟩ := A.ex
  exact ⟨fun pins s σ H Q I ⟨B, G, δ, S, q⟩ => p.run pins s σ H Q I (h S q)⟩
theorem PDT.can (A : PDT X W a ft) : PT X a (cT X.K W ft) := by
  obtain ⟨t, p, h⟩ := A.ex
  exact ⟨fun pins s σ H Q I ⟨B, G, δ, S, q⟩ => p.run pins s σ H Q I (h S q)⟩
theorem PGD.can (A : PGD X a ix g) : PG X a (cG X.K ix g) := by
  obtain ⟨t, p, h⟩ := A.ex
  exact ⟨fun pins s σ H v u Q I r ⟨B, G, δ, δ', d, S, rd, e, q⟩ => p.run pins s σ H v u Q I r (h S rd e q)⟩
theorem PSSD.can (A : PSSD X W st F) : PSs X st (cS X.K W F) := by
  obtain ⟨t, p, h⟩ := A.ex
  exact ⟨fun pins s σ H D I ⟨B, G, δ, S, q⟩ => p.run pins s σ H D I (h S q)⟩
end

/-! ### comprehensions -/
/-- what raises is not told -/
def noX {α : Type} : R α → R α
  | .ok a => .ok a
  | _ => .bad
theorem Rq.noX {α β : Type} {K : PySem.W.Frag} {rep : Rel α β} {W W' : Value → Option Addr → Hp → Prop} {G H : Hp} {r : R α} {Q : β → Hp → Prop} (h : Rq K rep W G H (noX r) Q) : Rq K rep W' G H r Q := by
  cases r with
  | ok a => exact h
  | exc _ _ => exact h.elim
  | bad => exact h.elim
theorem Rq.noX' {α β : Type} {K : PySem.W.Frag} {rep : Rel α β} {W W' : Value → Option Addr → Hp → Prop} {G H : Hp} {r : R α} {Q : β → Hp → Prop} (h : Rq K rep W G H (LD.noX r) Q) : Rq K rep W' G H (LD.noX r) Q := by
  cases r with
  | ok a => exact h
  | exc _ _ => exact h.elim
  | bad => exact h.elim
def wipeD (δ : Ev) : List Nat → Ev
  | [] => δ
  | v :: vs => (wipeD δ vs).set v .un
theorem SOk.wipe {K : PySem.W.Frag} {B : Bas} {G H : Hp} {δ : Ev} {σ : L2.St} (S : SOk K B G H δ σ) : ∀ vs : List Nat, SOk K B G H (wipeD δ vs) (L2.wipe σ vs)
  | [] => S
  | v :: vs => (SOk.wipe S vs).forget v none
/-- another new object is changed -/
theorem SOk.other {K : PySem.W.Frag} {B : Bas} {G H : Hp} {δ : Ev} {σ : L2.St} (S : SOk K B G H δ σ) {p : Addr} {o : HO} (h0 : B.H0 p = none) (hg : G p = none) (hne : ∀ (i : Nat) (s : Sl), δ[i]? = some s → isOwn s = true → σ[i]? ≠ some (some (V.ref p))) : SOk K B G (upd H p o) δ σ := by
  refine ⟨tr_own_upd S.tr o h0 hg, S.len, fun i s e => ?_, S.dj, S.me⟩
  refine (S.sl i s e).step (Same.refl _) (fun a ob os hv q => ?_) fun _ _ _ _ x => x
  have ne : a ≠ p := fun z => hne i s e os (by rw [← z]; exact join_some hv)
  rw [upd_ne ne]
  exact q
def lcD (g : DV → Ev → R Ev) (ft : Ev → R Bool) (fe : Ev → R DV) (δ : Ev) : List DV → R (List DV)
  | [] => .ok []
  | d :: ds => match g d δ with
    | .ok δ' => (noX (ft δ')).bind fun b => if b = true then (noX (fe δ')).bind fun y => (lcD g ft fe δ ds).bind fun ys => .ok (y :: ys) else lcD g ft fe δ ds
    | _ => .bad
/-- a comprehension's list -/
def xLcs (vs : List Nat) (fi : Ev → R (List DV)) (g : DV → Ev → R Ev) (ft : Ev → R Bool) (fe : Ev → R DV) : Ev → R (List DV) := fun δ => (fi δ).bind fun ds => (lcD g ft fe (wipeD δ vs) ds).bind fun ys => if small ys.length = true then .ok ys else .bad
def xLc (vs : List Nat) (fi : Ev → R (List DV)) (g : DV → Ev → R Ev) (ft : Ev → R Bool) (fe : Ev → R DV) : Ev → R DV := fun δ => (xLcs vs fi g ft fe δ).bind fun ys => .ok (.lst ys)
def xYes : Ev → R Bool := fun _ => .ok true
/-- a comprehension's tests -/
structure PDTs (X : Cx) (W : WX) (ifs : List Expr) (ft : Ev → R Bool) : Prop where
  can : PTs X ifs (cT X.K W ft)
theorem dts_nil {X : Cx} {W : WX} : PDTs X W [] xYes := ⟨⟨fun pins s σ H Q I ⟨B, G, δ, S, q⟩ => pts_nil.run pins s σ H Q I (Rq.ok_self (rep := BRep) S.gh q rfl)⟩⟩
theorem dts_one {X : Cx} {W : WX} {a : Expr} {ft : Ev → R Bool} (A : PDT X W a ft) : PDTs X W [a] ft := ⟨pts_one A.can⟩
theorem wipe_idem {σ : L2.St} : ∀ {vs : List Nat}, wipe (wipe σ vs) vs = wipe σ vs := by
  intro vs
  apply List.ext_getElem?
  intro j
  by_cases q : j ∈ vs
  · have key : ∀ (τ : L2.St) (ws : List Nat), j ∈ ws → (wipe τ ws)[j]? = if j < τ.length then some none else none := by
      intro τ ws
      induction ws with
      | nil => intro h; cases h
      | cons k ws ih =>
        intro h
        show ((wipe τ ws).set k none)[j]? = _
        by_cases e : k = j
        · subst e
          rw [List.getElem?_set_self']
          by_cases hl : k < τ.length
          · rw [if_pos hl, List.getElem?_eq_getElem (by rw [wipe_length]; exact hl)]; rfl
          · rw [if_neg hl, List.getElem?_eq_none (by rw [wipe_length]; omega)]; rfl
        · rw [List.getElem?_set_ne e]
          exact ih ((List.mem_cons.mp h).resolve_left (fun z => e z.symm))
    rw [key _ _ q, key _ _ q, wipe_length]
  · rw [wipe_out q, wipe_out q]
section
variable {X : Cx} {W : WX} {elt tg iter : Expr} {ifs : List Expr} {scope : Scope} {own : List (Str × Nat)} {pos : Pos} {fi : Ev → R (List DV)} {g : DV → Ev → R Ev} {ft : Ev → R Bool} {fe : Ev → R DV} {ix : List Nat}
abbrev W0 : WX := fun _ _ _ _ => False
/-- a new list at D, not yet frozen -/
def LRq (K : PySem.W.Frag) (W : Value → Option Addr → Hp → Prop) (G H : Hp) (r : R (List DV)) (Q : VK) : Prop := match r with
  | .ok ys => ∀ D ws H' G', Tr G H G' H' → H D = none → G' D = none → H' D = some (.lst ws) → DReps K G' ws ys → Q (.ref D) H'
  | .exc c fs => ∀ H' G' d, Tr G H G' H' → XRep K G' H' d fs → W (.ref (He.ga K c)) d H'
  | .bad => False
theorem LRq.tr {K : PySem.W.Frag} {W : Value → Option Addr → Hp → Prop} {G H G1 H1 : Hp} {r : R (List DV)} {Q : VK} (t : Tr G H G1 H1) (h : LRq K W G H r Q) : LRq K W G1 H1 r Q := by
  cases r with
  | ok ys => exact fun D ws H' G' t' hd => h D ws H' G' (t.trans t') (by
      cases q : H D with
      | none => rfl
      | some o => rw [t.sm _ _ q] at hd; cases hd)
  | exc c fs => exact fun H' G' d t' => h H' G' d (t.trans t')
  | bad => exact h
theorem LRq.bind {α β : Type} {K : PySem.W.Frag} {W : Value → Option Addr → Hp → Prop} {rep : Rel α β} {G H : Hp} {r : R α} {k : α → R (List DV)} {Q : β → Hp → Prop} {Q' : VK} (h : LRq K W G H (r.bind k) Q') (c : ∀ a, r = .ok a → ∀ b H1 G1, Tr G H G1 H1 → rep G1 b a → LRq K W G1 H1 (k a) Q' → Q b H1) : Rq K rep W G H r Q := by
  cases r with
  | ok a => exact fun b H1 G1 t p => c a rfl b H1 G1 t p (LRq.tr t h)
  | exc _ _ => exact h
  | bad => exact h
theorem LRq.of {K : PySem.W.Frag} {W : Value → Option Addr → Hp → Prop} {G H : Hp} {r : R (List DV)} {Q : VK} (h : Rq K (DRep K) W G H (r.bind fun ys => .ok (.lst ys)) Q) : LRq K W G H r Q := by
  cases r with
  | ok ys =>
    intro D ws H' G' t hd hg hh rp
    obtain ⟨tf, gf⟩ := t.freeze hd hg hh
    exact h (.ref D) H' _ tf (.lst upd_same (rp.mono gf))
  | exc c fs => exact h
  | bad => exact h
theorem rq_ifL {K : PySem.W.Frag} {G H : Hp} {W : Value → Option Addr → Hp → Prop} {Q : VK} {c : Bool} {a : List DV} (h : LRq K W G H (if c = true then .ok a else .bad) Q) : c = true ∧ LRq K W G H (.ok a) Q := by
  cases c with
  | true => exact ⟨rfl, h⟩
  | false => exact h.elim
theorem lc_req {wi : TI} {vs : List Nat} {B : Bas} {G H : Hp} {δ : Ev} {σ : L2.St} {Q : VK}
    (hw : ∀ {B : Bas} {G H : Hp} {δ : Ev} {σ : L2.St} {Q : It → Hp → Prop}, SOk X.K B G H δ σ → Rq X.K (fun G' J ds => Walks X.K J ds G') (fun c d H' => W c d σ H') G H (fi δ) Q → wi σ H Q)
    (hix : ∀ i ∈ ix, i ∈ vs) (S : SOk X.K B G H δ σ) (h : LRq X.K (fun c d H' => W c d σ H') G H (xLcs vs fi g ft fe δ) Q) : tLc wi (cG X.K ix g) (cT X.K W0 (fun δ => noX (ft δ))) (cE X.K W0 (fun δ => noX (fe δ))) vs σ H Q := by
  refine hw S (LRq.bind (rep := fun G' J ds => Walks X.K J ds G') h fun ds e J H1 G1 t1 wk h1 => ?_)
  intro D hD
  have S1 := S.step t1
  have hgD : G1 D = none := t1.gh.none hD
  have hbD : B.H0 D = none := S1.tr.sm.none hD
  cases ed : lcD g ft fe (wipeD δ vs) ds with
  | exc _ _ =>
    exfalso
    have key : ∀ ds c fs, lcD g ft fe (wipeD δ vs) ds ≠ .exc c fs := by
      intro ds
      induction ds with
      | nil => intro c fs z; cases z
      | cons d ds ih =>
        intro c fs z
        unfold lcD at z
        cases eg : g d (wipeD δ vs) with
        | ok δ' =>
          rw [eg] at z
          dsimp only at z
          cases et : ft δ' with
          | ok b =>
            rw [et] at z
            cases b with
            | true =>
              cases ee : fe δ' with
              | ok y =>
                rw [ee] at z
                cases er : lcD g ft fe (wipeD δ vs) ds with
                | ok ys => rw [er] at z; cases z
                | exc c' fs' => exact ih c' fs' er
                | bad => rw [er] at z; cases z
              | exc _ _ => rw [ee] at z; cases z
              | bad => rw [ee] at z; cases z
            | false => exact ih c fs z
          | exc _ _ => rw [et] at z; cases z
          | bad => rw [et] at z; cases z
        | exc _ _ => rw [eg] at z; cases z
        | bad => rw [eg] at z; cases z
    exact key _ _ _ ed
  | bad => rw [ed] at h1; exact h1.elim
  | ok ys =>
    rw [ed] at h1
    obtain ⟨hz, h1⟩ := rq_ifL h1
    have ltot : ys.length ≤ sizeLine := small_le hz
    have Sw := (S1.wipe vs)
    -- no own slot is the new list
    have hne : ∀ (i : Nat) (s : Sl), (wipeD δ vs)[i]? = some s → isOwn s = true → (wipe σ vs)[i]? ≠ some (some (V.ref D)) := fun i s e o z => by
      obtain ⟨a, es, _, _, oa⟩ := Sw.own e o
      rw [z] at es
      have : D = a := by injection es with es; injection es with es; injection es
      subst this
      exact oa.there hD
    have Sw0 : SOk X.K B G1 (upd H1 D (.lst [])) (wipeD δ vs) (wipe σ vs) := Sw.other hbD hgD hne
    have t0 : Tr G1 H1 G1 (upd H1 D (.lst [])) := Tr.own t1.gh _ hD
    refine ⟨fun i m H => i ≤ ds.length ∧ m = ds.length - i ∧ ∃ G' acc accV zs, Tr G1 H1 G' H ∧ G' D = none ∧ H D = some (.lst accV) ∧ DReps X.K G' accV acc ∧ SOk X.K B G' H (wipeD δ vs) (wipe σ vs) ∧ lcD g ft fe (wipeD δ vs) (ds.drop i) = .ok zs ∧ acc ++ zs = ys,
      ⟨ds.length, Nat.zero_le _, by simp, G1, [], [], ys, t0, hgD, upd_same, .nil, Sw0, by simpa using ed, rfl⟩, ?_⟩
    rintro i m H' ⟨hi, rfl, G', acc, accV, zs, t', hg', hH', rA, S', el, ea⟩
    by_cases hlt : i < ds.length
    · have sG : Same G1 H' := t'.gg.trans S'.gh
      refine .inr ⟨wk.go i H' sG hlt, fun H4 => ∃ G4 acc4 accV4 zs4, Tr G1 H1 G4 H4 ∧ G4 D = none ∧ H4 D = some (.lst accV4) ∧ DReps X.K G4 accV4 acc4 ∧ SOk X.K B G4 H4 (wipeD δ vs) (wipe σ vs) ∧ lcD g ft fe (wipeD δ vs) (ds.drop (i + 1)) = .ok zs4 ∧ acc4 ++ zs4 = ys,
        fun H4 z => ⟨ds.length - (i + 1), by omega, hlt, rfl, z⟩, fun x H2 y => ?_⟩
      obtain ⟨G2, d, t2, hd, rd⟩ := wk.yld i H' x H2 G' t'.gg S'.gh hlt y
      have edr : ds.drop i = d :: ds.drop (i + 1) := by
        rw [List.drop_eq_getElem_cons hlt]
        rw [List.getElem?_eq_getElem hlt] at hd
        rw [Option.some.inj hd]
      rw [edr] at el
      unfold lcD at el
      cases eg : g d (wipeD δ vs) with
      | exc _ _ => rw [eg] at el; cases el
      | bad => rw [eg] at el; cases el
      | ok δ' =>
        rw [eg] at el
        dsimp only at el
        refine ⟨B, G2, wipeD δ vs, δ', d, S'.step t2, rd, eg, fun σ' S2 w2 => ⟨by rw [w2 vs hix, wipe_idem], ?_⟩⟩
        cases et : ft δ' with
        | exc _ _ => rw [et] at el; cases el
        | bad => rw [et] at el; cases el
        | ok b =>
          rw [et] at el
          refine ⟨B, G2, δ', S2, ?_⟩
          show Rq X.K BRep _ G2 H2 (LD.noX (ft δ')) _
          rw [et]
          intro b' H3 G3 t3 eb
          cases eb
          cases b with
          | false =>
            rw [if_neg (by decide)]
            have el : lcD g ft fe (wipeD δ vs) (ds.drop (i + 1)) = .ok zs := el
            have tt := t2.trans t3
            refine ⟨G3, acc, accV, zs, t'.trans tt, by rw [tt.nw D (by rw [hH']; simp)]; exact hg', tt.sm _ _ hH', rA.mono tt.gg, S'.step tt, el, ea⟩
          | true =>
            rw [if_pos rfl]
            have el : ((LD.noX (fe δ')).bind fun y => (lcD g ft fe (wipeD δ vs) (ds.drop (i + 1))).bind fun ys => .ok (y :: ys)) = .ok zs := el
            cases ee : fe δ' with
            | exc _ _ => rw [ee] at el; cases el
            | bad => rw [ee] at el; cases el
            | ok yv =>
              rw [ee] at el
              refine ⟨B, G3, δ', S2.step t3, ?_⟩
              show Rq X.K (DRep X.K) _ G3 H3 (LD.noX (fe δ')) _
              rw [ee]
              intro u H4 G4 t4 ru
              have el : ((lcD g ft fe (wipeD δ vs) (ds.drop (i + 1))).bind fun ys => .ok (yv :: ys)) = .ok zs := el
              cases er : lcD g ft fe (wipeD δ vs) (ds.drop (i + 1)) with
              | exc _ _ => rw [er] at el; cases el
              | bad => rw [er] at el; cases el
              | ok ws =>
                rw [er] at el
                cases el
                have tt := (t2.trans t3).trans t4
                have hg4 : G4 D = none := by rw [tt.nw D (by rw [hH']; simp)]; exact hg'
                have hH4 := tt.sm _ _ hH'
                have S4 := S'.step tt
                have tg := (t'.trans tt)
                refine ⟨accV, hH4, ?_, G4, acc ++ [yv], accV ++ [u], ws, tr_own_upd tg _ hD hg4, hg4, upd_same, (rA.mono tt.gg).append (.cons ru .nil), S4.other hbD hg4 hne, rfl, by simpa using ea⟩
                rw [rA.length]
                have : acc.length + (yv :: ws).length = ys.length := by rw [← ea, List.length_append]
                rw [List.length_cons] at this
                omega
    · have e : i = ds.length := by omega
      subst e
      have sG : Same G1 H' := t'.gg.trans S'.gh
      refine .inl ⟨wk.stop H' sG, ?_⟩
      rw [List.drop_length] at el
      cases el
      rw [List.append_nil] at ea
      subst ea
      exact h1 D accV H' G' t' hD hg' hH' rA
theorem d_lc (hc : X.calm = true) (hN : X.N.Nodup) (ok : BlkOk X.N X.env.scope scope own) (hix : ∀ i ∈ ix, i ∈ own.map (·.2)) (I : PID X W tg iter fi)
    (hg : ∀ (s : Shared) (H : Hp) (C : Addr) (cl : List (Str × Addr)) (fp : List Addr), PGD (X.blk s H scope (compEnvC scope cl C X.env) fp) tg ix g) (ht : ∀ (s : Shared) (H : Hp) (C : Addr) (cl : List (Str × Addr)) (fp : List Addr), PDTs (X.blk s H scope (compEnvC scope cl C X.env) fp) W0 ifs ft)
    (he : ∀ (s : Shared) (H : Hp) (C : Addr) (cl : List (Str × Addr)) (fp : List Addr), PD (X.blk s H scope (compEnvC scope cl C X.env) fp) W0 elt fe) (hs : ∀ x, foldedSetIterable iter X.env x = pure x := by intro _; rfl) :
    PD X W (.ListComp elt [⟨tg, iter, ifs, 0⟩] scope pos) (xLc (own.map (·.2)) fi g ft fe) := by
  obtain ⟨wi, pw, hw⟩ := I.ex
  refine ⟨_, pe_lc (g := cG X.K ix g) (tt := cT X.K W0 (fun δ => noX (ft δ))) (te := cE X.K W0 (fun δ => noX (fe δ))) hc hN pw ok (fun s H C cl fp => (hg s H C cl fp).can) (fun s H C cl fp => ⟨fun pins s' σ H' Q I' ⟨B, G, δ, S, q⟩ => (ht s H C cl fp).can.run pins s' σ H' Q I' ⟨B, G, δ, S, Rq.noX q⟩⟩)
    (fun s H C cl fp => ⟨fun pins s' σ H' Q I' ⟨B, G, δ, S, q⟩ => (he s H C cl fp).can.run pins s' σ H' Q I' ⟨B, G, δ, S, Rq.noX q⟩⟩) hs, fun {B G H δ σ Q} S h => ?_⟩
  exact lc_req hw hix S (LRq.of h)
/-- name = [..] on one line -/
def sSetLc (i : Nat) (f : Ev → R (List DV)) : Ev → SR := fun δ => xS (f δ) δ fun ys => .nx (δ.set i (.pu (.lst ys)))
theorem ds_setLc (i : Nat) {y : Str} {py spos : Pos} (hc : X.calm = true) (hN : X.N.Nodup) (ok : BlkOk X.N X.env.scope scope own) (hix : ∀ i ∈ ix, i ∈ own.map (·.2)) (I : PID X W tg iter fi)
    (hg : ∀ (s : Shared) (H : Hp) (C : Addr) (cl : List (Str × Addr)) (fp : List Addr), PGD (X.blk s H scope (compEnvC scope cl C X.env) fp) tg ix g) (ht : ∀ (s : Shared) (H : Hp) (C : Addr) (cl : List (Str × Addr)) (fp : List Addr), PDTs (X.blk s H scope (compEnvC scope cl C X.env) fp) W0 ifs ft)
    (he : ∀ (s : Shared) (H : Hp) (C : Addr) (cl : List (Str × Addr)) (fp : List Addr), PD (X.blk s H scope (compEnvC scope cl C X.env) fp) W0 elt fe)
    (hy : X.N[i]? = some y := by rfl) (hyl : X.env.scope.names.lookup y = some .local := by rfl) (hsw : swapsWith (.ListComp elt [⟨tg, iter, ifs, 0⟩] scope pos) (some (.Name y py)) spos.line X.env = pure true := by exact sw_true rfl rfl rfl rfl) (hs : ∀ x, foldedSetIterable iter X.env x = pure x := by intro _; rfl) :
    PSD X W (.Assign [.Name y py] (.ListComp elt [⟨tg, iter, ifs, 0⟩] scope pos) spos) (sSetLc i (xLcs (own.map (·.2)) fi g ft fe)) := by
  obtain ⟨wi, pw, hw⟩ := I.ex
  refine ⟨_, ps_setLc (g := cG X.K ix g) (tt := cT X.K W0 (fun δ => noX (ft δ))) (te := cE X.K W0 (fun δ => noX (fe δ))) hc hN hy hyl hsw pw ok (fun s H C cl fp => (hg s H C cl fp).can) (fun s H C cl fp => ⟨fun pins s' σ H' Q I' ⟨B, G, δ, S, q⟩ => (ht s H C cl fp).can.run pins s' σ H' Q I' ⟨B, G, δ, S, Rq.noX q⟩⟩)
    (fun s H C cl fp => ⟨fun pins s' σ H' Q I' ⟨B, G, δ, S, q⟩ => (he s H C cl fp).can.run pins s' σ H' Q I' ⟨B, G, δ, S, Rq.noX q⟩⟩) hs, fun {B G H δ σ D} S h => ?_⟩
  show tLc wi (cG X.K ix g) _ _ (own.map (·.2)) σ H (fun x H1 => gName i x σ H1 D.nx)
  refine lc_req hw hix S ?_
  unfold sSetLc at h
  cases q : xLcs (own.map (·.2)) fi g ft fe δ with
  | ok ys =>
    rw [q] at h
    intro L ws H' G' t hd hgd hh rp
    obtain ⟨tf, gf⟩ := t.freeze hd hgd hh
    exact h _ _ _ tf.gg ((S.step tf).set i (.lst upd_same (rp.mono gf)))
  | exc c fs => rw [q] at h; exact fun H' G' d t x => h σ H' G' d t.gg (S.step t) x
  | bad => rw [q] at h; exact h.elim
/-- the name's own list -/
def sSetLcO (i : Nat) (f : Ev → R (List DV)) : Ev → SR := fun δ => xS (f δ) δ fun ys => .nx (δ.set i (.ol ys))
theorem own_laid {K : PySem.W.Frag} {B : Bas} {G H G' H' : Hp} {δ : Ev} {σ : L2.St} (S : SOk K B G H δ σ) (i : Nat) {p : Addr} {s : Sl} (t : Tr G H G' H') (hp : H p = none) (hg : G' p = none) (hs : isOwn s = true) (hme : ∀ c fs, s ≠ .oo c fs) (r : OwnAt K G' H' p s) : SOk K B G' H' (δ.set i s) (σ.set i (some (.ref p))) := by
  have S' := S.step t
  refine S'.setOwn i hs S'.tr (S.tr.sm.none hp) hg r (fun b u hb e => e) (fun j u hj e ou z => ?_) fun c fs z => absurd z (hme c fs)
  obtain ⟨a, es, _, _, oa⟩ := S.own e ou
  rw [z] at es
  have : p = a := by injection es with es; injection es with es; injection es
  subst this
  exact oa.there hp
theorem ds_setLcO (i : Nat) {y : Str} {py spos : Pos} (hc : X.calm = true) (hN : X.N.Nodup) (ok : BlkOk X.N X.env.scope scope own) (hix : ∀ i ∈ ix, i ∈ own.map (·.2)) (I : PID X W tg iter fi)
    (hg : ∀ (s : Shared) (H : Hp) (C : Addr) (cl : List (Str × Addr)) (fp : List Addr), PGD (X.blk s H scope (compEnvC scope cl C X.env) fp) tg ix g) (ht : ∀ (s : Shared) (H : Hp) (C : Addr) (cl : List (Str × Addr)) (fp : List Addr), PDTs (X.blk s H scope (compEnvC scope cl C X.env) fp) W0 ifs ft)
    (he : ∀ (s : Shared) (H : Hp) (C : Addr) (cl : List (Str × Addr)) (fp : List Addr), PD (X.blk s H scope (compEnvC scope cl C X.env) fp) W0 elt fe)
    (hy : X.N[i]? = some y := by rfl) (hyl : X.env.scope.names.lookup y = some .local := by rfl) (hsw : swapsWith (.ListComp elt [⟨tg, iter, ifs, 0⟩] scope pos) (some (.Name y py)) spos.line X.env = pure true := by exact sw_true rfl rfl rfl rfl) (hs : ∀ x, foldedSetIterable iter X.env x = pure x := by intro _; rfl) :
    PSD X W (.Assign [.Name y py] (.ListComp elt [⟨tg, iter, ifs, 0⟩] scope pos) spos) (sSetLcO i (xLcs (own.map (·.2)) fi g ft fe)) := by
  obtain ⟨wi, pw, hw⟩ := I.ex
  refine ⟨_, ps_setLc (g := cG X.K ix g) (tt := cT X.K W0 (fun δ => noX (ft δ))) (te := cE X.K W0 (fun δ => noX (fe δ))) hc hN hy hyl hsw pw ok (fun s H C cl fp => (hg s H C cl fp).can) (fun s H C cl fp => ⟨fun pins s' σ H' Q I' ⟨B, G, δ, S, q⟩ => (ht s H C cl fp).can.run pins s' σ H' Q I' ⟨B, G, δ, S, Rq.noX q⟩⟩)
    (fun s H C cl fp => ⟨fun pins s' σ H' Q I' ⟨B, G, δ, S, q⟩ => (he s H C cl fp).can.run pins s' σ H' Q I' ⟨B, G, δ, S, Rq.noX q⟩⟩) hs, fun {B G H δ σ D} S h => ?_⟩
  show tLc wi (cG X.K ix g) _ _ (own.map (·.2)) σ H (fun x H1 => gName i x σ H1 D.nx)
  refine lc_req hw hix S ?_
  unfold sSetLcO at h
  cases q : xLcs (own.map (·.2)) fi g ft fe δ with
  | ok ys =>
    rw [q] at h
    intro L ws H' G' t hd hgd hh rp
    exact h _ _ _ t.gg (own_laid S i t hd hgd rfl (fun _ _ z => nomatch z) ⟨ws, hh, rp⟩)
  | exc c fs => rw [q] at h; exact fun H' G' d t x => h σ H' G' d t.gg (S.step t) x
  | bad => rw [q] at h; exact h.elim
end

/-! ### what is walked, further -/
section
variable {X : Cx} {W : WX} {tg iter a b : Expr} {es : List Expr} {fa fb : Ev → R DV} {fes : Ev → R (List DV)} {pos : Pos}
theorem PI.or {t u : TI} (A : PI X tg iter t) (B : PI X tg iter u) : PI X tg iter (fun σ H R => t σ H R ∨ u σ H R) :=
  ⟨fun pins s σ H R I h => h.elim (fun z => A.run pins s σ H R I z) fun z => B.run pins s σ H R I z⟩
def asAny : DV → R (List DV)
  | .lst xs => .ok xs
  | .ro xs => .ok xs
  | .tup xs => .ok xs
  | .str z => .ok (z.cps.toList.map fun c => .str ⟨#[c]⟩)
  | _ => .bad
/-- a list, a tuple, a text -/
theorem di_any (A : PD X W iter fa) : PID X W tg iter (xSrc asAny fa) := by
  obtain ⟨wl, pl, hl⟩ := (di_list (tg := tg) A).ex
  obtain ⟨wt, pt, ht⟩ := (di_tup (tg := tg) A).ex
  obtain ⟨ws, ps, hs⟩ := (di_str (tg := tg) A).ex
  refine ⟨_, PI.or pl (PI.or pt ps), fun {B0 G H δ σ Q} S h => ?_⟩
  unfold xSrc at h
  cases q : fa δ with
  | bad => rw [q] at h; exact h.elim
  | exc c fs => exact .inl (hl S (by unfold xSrc; rw [q] at h ⊢; exact h))
  | ok d =>
    rw [q] at h
    cases d with
    | lst xs => exact .inl (hl S (by unfold xSrc; rw [q]; exact h))
    | ro xs => exact .inl (hl S (by unfold xSrc; rw [q]; exact h))
    | tup xs => exact .inr (.inl (ht S (by unfold xSrc; rw [q]; exact h)))
    | str z => exact .inr (.inr (hs S (by unfold xSrc; rw [q]; exact h)))
    | _ => exact h.elim
/-- zip -/
def zipD : List DV → List DV → List DV
  | x :: xs, y :: ys => .tup [x, y] :: zipD xs ys
  | _, _ => []
def asZip : List DV → R (List DV)
  | [.lst xs, .lst ys] => .ok (zipD xs ys)
  | [.lst xs, .ro ys] => .ok (zipD xs ys)
  | [.ro xs, .lst ys] => .ok (zipD xs ys)
  | [.ro xs, .ro ys] => .ok (zipD xs ys)
  | [.tup xs, .tup ys] => .ok (zipD xs ys)
  | _ => .bad
theorem zipD_get : ∀ {xs ys : List DV} {i : Nat} {x y : DV}, xs[i]? = some x → ys[i]? = some y → (zipD xs ys)[i]? = some (.tup [x, y])
  | [], _, _, _, _, h, _ => by simp at h
  | _ :: _, [], _, _, _, _, h => by simp at h
  | _ :: xs, _ :: ys, 0, _, _, h, h' => by simp at h h'; subst h h'; rfl
  | _ :: xs, _ :: ys, i + 1, _, _, h, h' => by simp at h h'; simpa [zipD] using zipD_get (xs := xs) (ys := ys) h h'
theorem zipD_len : ∀ {xs ys : List DV}, (zipD xs ys).length = min xs.length ys.length
  | [], ys => by simp [zipD]
  | _ :: _, [] => by simp [zipD]
  | _ :: xs, _ :: ys => by simp [zipD, zipD_len (xs := xs) (ys := ys)]
theorem walks_zip {K : PySem.W.Frag} {G : Hp} {J : It} {Sq : Hp → Addr → List V → Prop} {a b : Addr} {vs ws : List V} {ds es : List DV} (r : DReps K G vs ds) (r2 : DReps K G ws es) (h1 : ∀ H, Same G H → Sq H a vs) (h2 : ∀ H, Same G H → Sq H b ws)
    (hJ : J = ⟨fun i H => ∃ (xs ys : List V) (x y : V), Sq H a xs ∧ Sq H b ys ∧ xs[i]? = some x ∧ ys[i]? = some y,
    fun i H v H' => ∃ T x y, v = .ref T ∧ H T = none ∧ H' = upd H T (.tup [x, y]) ∧ (∀ xs, Sq H a xs → xs[i]? = some x) ∧ ∀ ys, Sq H b ys → ys[i]? = some y,
    fun i H => ∃ xs ys : List V, Sq H a xs ∧ Sq H b ys ∧ (xs.length ≤ i ∨ ys.length ≤ i)⟩) : Walks K J (zipD ds es) G := by
  subst hJ
  have l1 := r.length
  have l2 := r2.length
  refine ⟨fun H s => ⟨vs, ws, h1 H s, h2 H s, ?_⟩, fun i H s hi => ?_, fun i H x H' Gc g s hi y => ?_⟩
  · rw [zipD_len]; omega
  · rw [zipD_len] at hi
    exact ⟨vs, ws, vs[i]'(by omega), ws[i]'(by omega), h1 H s, h2 H s, List.getElem?_eq_getElem _, List.getElem?_eq_getElem _⟩
  · obtain ⟨T, x1, y1, rfl, hT, rfl, hx, hy⟩ := y
    have ex := hx vs (h1 H (g.trans s))
    have ey := hy ws (h2 H (g.trans s))
    obtain ⟨d, hd, pd⟩ := r.get' ex
    obtain ⟨e, he, pe⟩ := r2.get' ey
    have gn := Same.upd (o := .tup [x1, y1]) (s.none hT)
    exact ⟨upd Gc T (.tup [x1, y1]), .tup [d, e], Tr.new s _ hT, zipD_get hd he, .tup upd_same (.cons ((pd.mono g).mono gn) (.cons ((pe.mono g).mono gn) .nil))⟩
theorem asZip_inv {K : PySem.W.Frag} {G H : Hp} {rep : Rel (List DV) It} {W : Value → Option Addr → Hp → Prop} {Q : It → Hp → Prop} {vs : List V} {ds : List DV} (r : DReps K G vs ds) (h : Rq K rep W G H (asZip ds) Q) :
    ∃ a b xs ys as bs, vs = [.ref a, .ref b] ∧ DReps K G as xs ∧ DReps K G bs ys ∧ ((SqL K G a as ∧ SqL K G b bs) ∨ (SqT K G a as ∧ SqT K G b bs)) ∧ Rq K rep W G H (.ok (zipD xs ys)) Q := by
  unfold asZip at h
  split at h
  · cases r with
    | cons ra rb => cases rb with
      | cons rb rc => cases rc; cases ra with
        | lst e1 r1 => cases rb with
          | lst e2 r2 => exact ⟨_, _, _, _, _, _, rfl, r1, r2, .inl ⟨SqL.of e1, SqL.of e2⟩, h⟩
  · cases r with
    | cons ra rb => cases rb with
      | cons rb rc => cases rc; cases ra with
        | lst e1 r1 => cases rb with
          | ro e2 r2 => exact ⟨_, _, _, _, _, _, rfl, r1, r2, .inl ⟨SqL.of e1, e2⟩, h⟩
  · cases r with
    | cons ra rb => cases rb with
      | cons rb rc => cases rc; cases ra with
        | ro e1 r1 => cases rb with
          | lst e2 r2 => exact ⟨_, _, _, _, _, _, rfl, r1, r2, .inl ⟨e1, SqL.of e2⟩, h⟩
  · cases r with
    | cons ra rb => cases rb with
      | cons rb rc => cases rc; cases ra with
        | ro e1 r1 => cases rb with
          | ro e2 r2 => exact ⟨_, _, _, _, _, _, rfl, r1, r2, .inl ⟨e1, e2⟩, h⟩
  · cases r with
    | cons ra rb => cases rb with
      | cons rb rc => cases rc; cases ra with
        | tup e1 r1 => cases rb with
          | tup e2 r2 => exact ⟨_, _, _, _, _, _, rfl, r1, r2, .inr ⟨SqT.of e1, SqT.of e2⟩, h⟩
  · exact h.elim
theorem di_zip {p tpos : Pos} {elts : List Expr} {kk : Nat} (hm : X.mg "zip" = none) (A : PDA X W [a, b] fes) (hg : Gl X "zip" := by rfl) (hs : starEach [a, b] X.env = (false, eval a X.env) :: starEach [b] X.env := by rfl) (hpl : (backTo pos (starEach [b] X.env)).any (·.1) = false := by rfl) :
    PID X W (.Tuple elts kk tpos) (.Call (.Name "zip" p) [a, b] [] pos) (fun δ => (fes δ).bind asZip) := by
  obtain ⟨ta, pa, ha⟩ := A.ex
  refine ⟨_, RZ.pi_zipA hg hm pa hs hpl, fun {B0 G H δ σ Q} S h => ?_⟩
  refine ha S (Rq.bind (rep := DReps X.K) h fun x ex v H1 G1 t1 r1 h1 => ?_)
  obtain ⟨a1, b1, xs, ys, as, bs, rfl, r2, r3, q, h2⟩ := asZip_inv r1 h1
  refine ⟨a1, b1, as, bs, rfl, ?_⟩
  rcases q with ⟨q1, q2⟩ | ⟨q1, q2⟩
  · exact .inl ⟨Same.seq t1.gh q1, Same.seq t1.gh q2, h2 _ H1 G1 (Tr.refl t1.gh) (walks_zip (Sq := fun H a xs => SqL X.K H a xs) r2 r3 (fun H s => Same.seq s q1) (fun H s => Same.seq s q2) rfl)⟩
  · exact .inr ⟨SqT.same t1.gh q1, SqT.same t1.gh q2, h2 _ H1 G1 (Tr.refl t1.gh) (walks_zip (Sq := fun H a xs => SqT X.K H a xs) r2 r3 (fun H s => SqT.same s q1) (fun H s => SqT.same s q2) rfl)⟩
end
end LD

set_option maxHeartbeats 2000000
/-! Layer D, part H: try, the own ==, super().__init__(..). -/
namespace LD
open PySem PySem.Spec PyProof.Rows L2

/-! ### try .. except -/
def noXS : SR → SR
  | .ex _ _ _ => .bad
  | r => r
theorem SRq.noX {K : PySem.W.Frag} {W W' : WX} {D : Ends} {B : Bas} {G : Hp} {r : SR} (h : SRq K W D B G (noXS r)) : SRq K W' D B G r := by
  cases r with
  | ex _ _ _ => exact h.elim
  | _ => exact h
def sTry (tab : List (Str × Bool)) (F F2 : Ev → SR) : Ev → SR := fun δ => match F δ with
  | .ex c fs δ' => (match tab.lookup c with
    | some true => noXS (F2 δ')
    | some false => .ex c fs δ'
    | none => .bad)
  | r => r
def exmB (K : PySem.W.Frag) (tab : List (Str × Bool)) (x : Str) : Bool := tab.all fun p => decide (PySem.W.exmOne K (.ref (He.ga K p.1)) (.ref (He.ga K x)) = some p.2)
section
variable {X : Cx} {W : WX} {a b o : Expr} {fa fb : Ev → R DV} {pos np pos' : Pos} {body suite : List Stmt} {b₀ : Stmt} {F F2 : Ev → SR}
theorem ds_try {x : Str} {tab : List (Str × Bool)} (tk : Takes X W) (hm : X.mg x = some (.ref (He.ga X.K x))) (htab : exmB X.K tab x = true)
    (A : ∀ (W' : WX) (pn : List (Addr × Obj)) (xe : Value → Shared → Prop), Takes (X.tr pn xe) W' → PassesOwn (model X.prog X.w) X.A X.env xe → PSSD (X.tr pn xe) W' body F) (S2 : ∀ (a : Addr) (pn : List (Addr × Obj)), PSSD (X.suite a pn) W0 (b₀ :: suite) F2)
    (hst : X.stack = X.env :: X.outer := by rfl) (hf : X.env.frame = some X.env.locals := by rfl) (hg : Gl X x := by rfl) (hd : (x == ("__debug__" : Str)) = false := by decide) :
    PSD X W (.Try body [.ExceptHandler (some (.Name x np)) none (b₀ :: suite) pos'] [] [] pos) (sTry tab F F2) := by
  refine ⟨_, ps_try_only (c := .ref (He.ga X.K x)) (tb := fun W' => cS X.K W' F) (ts := fun _ _ _ => cS X.K W0 (fun δ => noXS (F2 δ))) (Wout := W) hst hf ⟨hg, hd, .inl hm⟩ tk (fun W' pn xe tk' po => (A W' pn xe tk' po).can)
    (fun a oe cls d pn _ _ => ⟨fun pins s σ H D I ⟨B, G, δ, S, q⟩ => (S2 a ((a, oe) :: pn)).can.run pins s σ H D I ⟨B, G, δ, S, SRq.noX q⟩⟩), fun {B G H δ σ D} S h => ⟨B, G, δ, S, ?_⟩⟩
  unfold sTry at h
  cases q : F δ with
  | ex c fs δ' =>
    rw [q] at h
    dsimp only at h
    intro σ' H' G' dx g S' x'
    cases l : tab.lookup c with
    | none => rw [l] at h; exact h.elim
    | some k =>
      rw [l] at h
      refine ⟨k, of_decide_eq_true (List.all_eq_true.mp htab (c, k) (look_mem l)), fun e a _ => ?_, fun e => ?_⟩
      · subst e
        have h2 : SRq X.K W D B G (noXS (F2 δ')) := h
        refine ⟨B, G', δ', S', SRq.noX (W := W) ?_⟩
        have h3 := SRq.gg g h2
        revert h3
        show SRq X.K W D B G' (noXS (F2 δ')) → SRq X.K W D B G' (noXS (noXS (F2 δ')))
        cases F2 δ' <;> exact fun z => z
      · subst e
        exact h σ' H' G' dx g S' x'
  | nx _ => rw [q] at h; exact h
  | rt _ => rw [q] at h; exact h
  | bk _ => rw [q] at h; exact h
  | ct _ => rw [q] at h; exact h
  | bad => rw [q] at h; exact h

/-! ### the text's own == -/
/-- cs: the classes of the left, of the right -/
def oEqO (cs : List Str) (m : Mir) : DV → DV → R DV := fun x y => match x, y with
  | .obj c fs, .obj c' fs' => if cs.contains c && cs.contains c' then (match m [.obj c fs, .obj c' fs'] with
    | .ok (.bl b) => .ok (.bl b)
    | _ => .bad) else .bad
  | _, _ => .bad
def eqB (K : PySem.W.Frag) (cs : List Str) (f : Addr) : Bool := cs.all fun c => decide (PySem.W.findIn K (.ref (He.ga K c)) "__eq__" = some (some (.ref f))) && cs.all fun c' => PySem.W.notFirst K (He.ga K c) (.ref (He.ga K c'))
def rOwn (sp : Sp) (K : PySem.W.Frag) (cs : List Str) : R2 := fun x y H Q => ∃ a b dx dy c c' fs gs, x = .ref a ∧ y = .ref b ∧ cs.contains c = true ∧ cs.contains c' = true ∧ H a = some (.ins (He.ga K c) dx fs) ∧ H b = some (.ins (He.ga K c') dy gs) ∧ sp [x, y] H (fun v H' => (∃ k, v = .bl k) ∧ Q v H') E0
theorem or_own {f : Addr} {fd : FuncData} {ps : List Str} {k : Nat} {sp : Sp} {cs : List Str} (F : FnOk X.prog X.w X.K X.mg X.base (L2.CX X.prog X.w) k f fd ps sp) (hr : Room k X.A) (hb : Binds X.K fd ps []) (hB : eqB X.K cs f = true) (hf : PySem.W.isFn X.K (.ref f) = true) : OpR X (compareOp .Eq) (rOwn sp X.K cs) := by
  intro pins s σ H x y v u Q I rx ry h
  obtain ⟨a, b, dx, dy, c, c', fs, gs, rfl, rfl, hc, hc', ha, hbb, hsp⟩ := h
  cases rx
  cases ry
  show wpAny (model X.prog X.w) X.A (richCompare .Eq (.ref a) (.ref b)) (EP X pins σ Q) X.xe s
  obtain ⟨mA, J, _⟩ := ins_get I.hok ha
  obtain ⟨mB, J', _⟩ := ins_get I.hok hbb
  obtain ⟨od, J, _⟩ := J.look
  obtain ⟨od', J', _⟩ := J'.look
  obtain ⟨m, hF⟩ := I.fr
  obtain ⟨k1, k2⟩ := He.ba (List.all_eq_true.mp hB c (by simpa using hc))
  have k3 := List.all_eq_true.mp k2 c' (by simpa using hc')
  refine PySem.W.cmp_K (op := .Eq) (tb := .ref (He.ga X.K c')) hr.units0 hF I.ok.mod.kin J J'.type k3 (of_decide_eq_true k1) hf ?_
  have hl := F.len _ _ _ _ hsp
  have r2 : Vals [V.ref a, V.ref b] [Value.ref a, Value.ref b] := .cons rfl (.cons rfl .nil)
  refine wpAny_mono (run_fn (Q := fun v H' => (∃ k, v = V.bl k) ∧ Q v H') (E := E0) F hr hb .nil passL I r2 (by simpa using hsp)) (fun r s' hq => ?_) fun _ _ z => z
  obtain ⟨z, H', I', rz, hz, q⟩ := hq
  obtain ⟨kk, ek⟩ := hz
  subst ek
  cases (show r = Value.bool kk from rz)
  exact ⟨.bl kk, H', I', rfl, q⟩
theorem od_own {f : Addr} {fd : FuncData} {ps : List Str} {k : Nat} {cs : List Str} {m : Mir} : OpD X (rOwn (spD X.K m) X.K cs) (oEqO cs m) := fun {G H x y dx dy Q W} s rx ry h => by
  cases rx with
  | obj e1 r1 =>
    cases ry with
    | obj e2 r2 =>
      rename_i a1 x1 c1 v1 f1 a2 x2 c2 v2 f2
      have h2 : Rq X.K (DRep X.K) W G H (if (cs.contains c1 && cs.contains c2) = true then (match m [.obj c1 f1, .obj c2 f2] with
        | .ok (.bl b) => .ok (.bl b)
        | _ => .bad) else .bad) Q := h
      by_cases q : (cs.contains c1 && cs.contains c2) = true
      · rw [if_pos q] at h2
        obtain ⟨q1, q2⟩ := Bool.and_eq_true_iff.mp q
        refine ⟨a1, a2, x1, x2, c1, c2, v1, v2, rfl, rfl, q1, q2, s _ _ e1, s _ _ e2, G, [.obj c1 f1, .obj c2 f2], s, .cons (.obj e1 r1) (.cons (.obj e2 r2) .nil), ?_⟩
        split at h2
        · rename_i b eb
          rw [eb]
          intro v H' G' t rv
          cases rv
          exact ⟨⟨b, rfl⟩, h2 (.bl b) H' G' t (.bl b)⟩
        · exact h2.elim
      · rw [if_neg q] at h2; exact h2.elim
    | _ => exact h.elim
  | _ => cases ry <;> exact h.elim
end
end LD

set_option maxHeartbeats 2000000
/-! Layer D, part I: an __init__ that begins by super().__init__(..). -/
namespace LD
open PySem PySem.Spec PyProof.Rows L2

/-- what stands of such an __init__: the class cn, its def at f, the base's __init__ at f2 -/
structure SupK (P : Program) (K : PySem.W.Frag) (cn name qual : Str) (params : Arguments) (body : List Stmt) (scope : Scope) (f : Addr) (fd : FuncData) (f2 : Addr) : Prop where
  ex : ∃ (oc : Value) (od : Option Addr) (kV doc pm : Value) (an : Option Addr) (cda cc : Addr) (ct : Value) (osl : Array (Option Value)),
    fd = PySem.W.fnX name qual params body scope [("__class__", cc)] .none kV doc pm an (.ref cda) ct ∧ K.lookup f = some ⟨oc, od, .func fd, osl⟩ ∧ PySem.W.codeIn K (.ref cda) qual = true ∧
    (∃ (ccl : Value) (cdd : Option Addr) (vs : Array Value) (ccs : Array (Option Value)) (file : Str) (tf : Tok), K.lookup cda = some ⟨ccl, cdd, .fields vs, ccs⟩ ∧ vs[2]? = some (.str file tf) ∧ ((P.main.file : Str) == file) = true) ∧
    ∃ (cl : Value) (cld : Option Addr) (csl : Array (Option Value)), K.lookup cc = some ⟨cl, cld, .cell (some (.ref (He.ga K cn))), csl⟩
  clsD : ∃ cd, PySem.W.clsIn K (He.ga K cn) = some cd
  mro : PySem.W.mroIn K (He.ga K cn) (.ref (He.ga K cn)) = some true
  sup : PySem.W.ks_superIn K (He.ga K cn) (He.ga K cn) "__init__" = some (some (.ref f2))
  ty : PySem.W.typeIn K (.ref f2) = some (.type "function")
  fn : PySem.W.fnIn K f2 = true
  st : PySem.W.nsIn K cStatics "thirdparty.any" = some none

section
variable {X : Cx} {pins : List (Addr × Obj)} {σ : L2.St} {H : Hp} {s : Shared}
theorem clsIn_obj {K : PySem.W.Frag} {D : Addr} {cd : ClassData} (e : PySem.W.clsIn K D = some cd) : ∃ oD, K.lookup D = some oD ∧ oD.data = .cls cd := by
  unfold PySem.W.clsIn at e
  split at e
  · rename_i c d cd' sl ho
    cases e
    exact ⟨_, ho, rfl⟩
  · cases e
/-- the statement super().__init__(e, ..) -/
theorem super_stmt {body : List Stmt} {cn name qual : Str} {params : Arguments} {scope : Scope} {f f2 cda cc x dx : Addr} {fd fd2 : FuncData} {ps2 : List Str} {k : Nat} {sp : Sp} {E : L2.St → XK} {fs : List (Str × V)} {ar : Arg}
    {e : Expr} {es : List Expr} {t : TA} {p0 p1 p2 p3 p4 : Pos} {Q' : Hp → Prop} {oc ccl cl : Value} {od cdd cld : Option Addr} {osl ccs csl : Array (Option Value)} {vs : Array Value} {file : Str} {tf : Tok} {cd : ClassData}
    (lk : X.K.lookup f = some ⟨oc, od, .func fd, osl⟩) (hp : (fd.params.posonlyargs ++ fd.params.args).head? = some ar)
    (hcode : X.K.lookup cda = some ⟨ccl, cdd, .fields vs, ccs⟩) (hvs : vs[2]? = some (.str file tf)) (hfile : ((X.prog.main.file : Str) == file) = true) (hcell : X.K.lookup cc = some ⟨cl, cld, .cell (some (.ref (He.ga X.K cn))), csl⟩)
    (clsD : PySem.W.clsIn X.K (He.ga X.K cn) = some cd) (mro : PySem.W.mroIn X.K (He.ga X.K cn) (.ref (He.ga X.K cn)) = some true) (sup : PySem.W.ks_superIn X.K (He.ga X.K cn) (He.ga X.K cn) "__init__" = some (some (.ref f2)))
    (ty : PySem.W.typeIn X.K (.ref f2) = some (.type "function")) (hfn : PySem.W.fnIn X.K f2 = true) (hstc : PySem.W.nsIn X.K cStatics "thirdparty.any" = some none) (hsup : X.mg "super" = none)
    (hks : X.env.kindOf "super" = some .globalImplicit) (hkc : X.env.kindOf "__class__" = some .free) (hka : X.env.kindOf ar.arg = some .local) (hfu : X.env.func = some f) (hco : X.env.code = .ref cda) (hcc : X.env.cells.lookup ("__class__" : Str) = some cc)
    (htop : (X.prog.main.scope.names.lookup ("super" : Str)).isSome = false)
    (hx0 : σ[0]? = some (some (.ref x))) (hN0 : X.N[0]? = some ar.arg) (hH : H x = some (.ins (He.ga X.K cn) dx fs))
    (F2 : FnOk X.prog X.w X.K X.mg X.base (L2.CX X.prog X.w) k f2 fd2 ps2 sp) (hb2 : Binds X.K fd2 ps2 []) (hr : Room k X.A) (hpass : PassesAt (L2.CX X.prog X.w) X σ (E σ))
    (A : PA X (e :: es) t) (I : Inv X pins σ H s) (h : t σ H fun vs' H1 => sp (.ref x :: vs') H1 (fun _ H2 => Q' H2) (E σ))
    (hi : interactive X.env = false := by rfl) (hs : swapsWith (.Call (.Attribute (.Call (.Name "super" p0) [] [] p1) "__init__" p2) (e :: es) [] p3) none p4.line X.env = pure false := by rfl)
    (he : starEach (e :: es) X.env = (false, eval e X.env) :: starEach es X.env := by rfl) (hpl : (backTo p3 (starEach es X.env)).any (·.1) = false := by rfl)
    {pl : Sem Bool} (hev : eval (.Call (.Attribute (.Call (.Name "super" p0) [] [] p1) "__init__" p2) (e :: es) [] p3) X.env = (do
      let ov ← attributeBase (.Call (.Name "super" p0) [] [] p1) "__init__" X.env (eval (.Call (.Name "super" p0) [] [] p1) X.env)
      standAt p2.atName
      let (f, first) ← holding [ov] (getMethod ov "__init__" pl)
      callWith p3 f first (backTo p3 (starEach (e :: es) X.env)) []) := by rfl) :
    _root_.PySem.wpAt (model X.prog X.w) X.A (.func body X.env) (exec (.Expr (.Call (.Attribute (.Call (.Name "super" p0) [] [] p1) "__init__" p2) (e :: es) [] p3) p4) X.env) (fun fl s' => fl = .next ∧ ∃ H', Inv X pins σ H' s' ∧ Q' H') X.xe s := by
  have KX := I.kIn
  obtain ⟨mA, J, _⟩ := ins_get I.hok hH
  obtain ⟨odx, J, _⟩ := J.look
  obtain ⟨m, hns, hlk⟩ := I.loc
  obtain ⟨u, ru, hl⟩ := hlk 0 ar.arg (.ref x) hN0 hx0 (.inl hka)
  obtain rfl : u = Value.ref x := ru
  have hv : m ar.arg = some (.ref x) := by
    rcases hl with ⟨_, z⟩ | ⟨z, _⟩
    · exact z
    · rw [hka] at z
      rcases z with z | z <;> cases z
  obtain ⟨oD, lD, hD2⟩ := clsIn_obj clsD
  refine PySem.ks_wpAt_Expr_any (PySem.ks_wpAt_MethodCall (pl := pl) ?_ hev) hi hs
  refine PySem.ks_wpAt_super_base hks hkc (by decide) hfu (KX _ _ lk) rfl hp hco (KX _ _ hcode) rfl hvs hfile htop ?_
  obtain ⟨mb, h1, h2⟩ := I.mod.blt
  refine PySem.W.ks_loadName_global I.ok.kind hks (Calls.loadGlobal_builtin (by rw [I.ok.glob]; exact I.mod.glob.keeps I.bk) hsup (by rw [I.ok.blt]; exact h1.keeps I.bk) ((h2 _ (by decide)).trans (by decide +kernel : bootBuiltins "super" = some (.type "super"))) ⟨rfl, ?_⟩)
  refine wpAny_loadName_free I.ok.kind hkc hcc ⟨_, KX _ _ hcell, rfl⟩ ?_
  refine wpAny_loadName_local I.ok.kind hka hns hv ?_
  obtain ⟨hh, g, d, tk, os⟩ := s
  refine PySem.ks_wpAny_isType_cls (KX _ _ lD) hD2 ⟨rfl, ?_⟩
  refine PySem.ks_wpAny_call_super (KX _ _ lD) hD2 J.at_ J.cls (fun c e => ?_) (PySem.W.looks_mroIn KX mro) (fun h' e1 k1 => ?_)
  · have := J.no
    unfold PySem.W.notCls at this
    rw [e] at this
    exact Bool.noConfusion this
  have I1 : Inv X pins σ H ⟨h', g, d, tk, os⟩ := I.kept (t' := tk) k1
  have KX1 := I1.kIn
  -- the bound method
  cases hc : PySem.W.clsIn X.K (He.ga X.K cn) with
  | none => rw [hc] at clsD; cases clsD
  | some cd =>
    have sup2 := sup
    unfold PySem.W.ks_superIn at sup2
    rw [hc] at sup2
    obtain ⟨of, hof, hofc⟩ : ∃ of, X.K.lookup f2 = some of ∧ of.cls = .type "function" := by
      have ht' : (X.K.lookup f2).map (·.cls) = some (.type "function") := ty
      cases z : X.K.lookup f2 with
      | none => rw [z] at ht'; cases ht'
      | some of => rw [z] at ht'; exact ⟨of, rfl, Option.some.inj ht'⟩
    have hxC : x ≠ He.ga X.K cn := PySem.W.ks_ne KX J hc
    refine PySem.ks_wpAny_getMethod_super e1 (PySem.W.looks_opaque KX1 hstc) (l₀ := cd.mro) ?_ rfl KX1 sup2 (KX1 _ _ hof) hofc hxC (by decide) ?_
    · exact fun A Q E s k q => wpAny_bind ((PySem.W.looks_clsIn KX1 hc) A _ E s k (wpAny_pure q))
    have I2 : Inv X pins σ H ⟨h'.push { cls := .type "method", data := .fields #[.ref f2, .ref x] }, g, d, tk + 1, os⟩ := I1.kept (t' := tk + 1) fun b o e => Heap.get?_push_of_some _ e
    have hq : (h'.push { cls := .type "method", data := .fields #[.ref f2, .ref x] }).get? h'.objs.size = some (PySem.W.methodObj (.ref f2) (.ref x)) := Heap.get?_push_at rfl rfl
    have fpo : FpOk X pins H h'.objs.size := I1.fpOk (Nat.le_refl _) (I1.hok.fresh (Nat.le_refl _))
    have I3 := I2.pinned (fp := [h'.objs.size]) (fun b hb => by rw [List.mem_singleton.mp hb]; exact fpo) fun b hb => by rw [List.mem_singleton.mp hb]; exact ⟨_, hq, fun v z => nomatch z⟩
    have hmem : (h'.objs.size, PySem.W.methodObj (.ref f2) (.ref x)) ∈ pinsAt [h'.objs.size] (h'.push { cls := .type "method", data := .fields #[.ref f2, .ref x] }) := mem_pinsAt (List.mem_singleton.mpr rfl) hq
    show wpAny _ _ (callWith p3 (.ref h'.objs.size) [] (backTo p3 (starEach (e :: es) X.env)) []) _ _ _
    rw [he]
    refine PySem.W.callWith_of (P := PySem.W.MethP X.K h'.objs.size f2 (.ref x)) (by show ((false || (backTo p3 (starEach es X.env)).any (·.1)) || false) = false; rw [hpl]; rfl) (PySem.W.keeps_M hfn) (Calls.evalArgs_plain ?_)
    have ar := A.run p3 _ _ σ H _ I3 h
    rw [he] at ar
    refine thn ar fun us s1 ⟨vs', H1, I4, r, q⟩ => ?_
    have hq4 := (I4.pin _ (List.mem_append_right _ (List.mem_append_right _ hmem))).1
    refine ⟨⟨hq4, I4.kIn⟩, ?_⟩
    show wpAny _ _ (call (.ref h'.objs.size) us) _ _ _
    have hl := F2.len _ _ _ _ q
    have r2 : Vals (V.ref x :: vs') (Value.ref x :: us) := .cons rfl r
    have b2 := hb2 s1 (.ref x :: us) I4.kIn (by rw [List.append_nil, ← r2.length]; exact hl)
    rw [List.append_nil] at b2
    refine wpAny_call (PySem.ks_codeAny_call_bound hq4 (codeAny_mono (F2.run X.A X.stack s1 H1 ⟨.ref x :: us, []⟩ (.ref x :: us) (.ref x :: vs') _ (E σ) hr I4.env0 b2 r2 q) fun r' s' hq' => ?_))
    cases r' with
    | error er => exact hpass _ _ s1 er s' I4 hq'
    | ok fl =>
      cases fl with
      | ret w =>
        obtain ⟨_, H', I5, _, q5⟩ := I4.after hq'
        exact ⟨rfl, H', I5.unpinned, q5⟩
      | next => exact False.elim hq'
      | brk => exact False.elim hq'
      | cont => exact False.elim hq'
end

/-! ### the def -/
theorem sok_at {K : PySem.W.Frag} {B : Bas} {G H : Hp} {p dx : Addr} {c : Str} {ws : List (Str × V)} {fs : List (Str × DV)} {vs : List V} {ds : List DV} {k m : Nat} (t : Tr B.G0 B.H0 G H) (h0 : B.H0 p = none) (hpa : B.pa = some p) (hp : H p = some (.ins (He.ga K c) dx ws)) (hg : G p = none)
    (rf : FReps K G ws fs) (r : DReps K G vs ds) (hm : m = k) : SOk K B G H (Sl.oo c fs :: (ds.map Sl.pu ++ List.replicate k Sl.un)) (some (.ref p) :: (vs.map some ++ List.replicate m none)) := by
  have S := sok_args (K := K) t.gh r hm
  have mem : ∀ {i : Nat} {a : Sl}, (Sl.oo c fs :: (ds.map Sl.pu ++ List.replicate k Sl.un))[i + 1]? = some a → (∃ d, a = .pu d) ∨ a = .un := fun {i a} e => by
    have h := List.mem_of_getElem? (show (ds.map Sl.pu ++ List.replicate k Sl.un)[i]? = some a from by simpa using e)
    rcases List.mem_append.mp h with h | h
    · obtain ⟨d, _, z⟩ := List.mem_map.mp h; exact .inl ⟨d, z.symm⟩
    · exact .inr (List.mem_replicate.mp h).2
  refine ⟨t, by have := S.len; simp only [List.length_cons]; omega, fun i sl e => ?_, fun i j a b q e1 e2 o1 o2 h1 h2 => ?_, fun i c' fs' e => ?_⟩
  · cases i with
    | zero =>
      simp at e
      subst e
      exact ⟨p, rfl, h0, hg, dx, ws, hp, rf⟩
    | succ i =>
      have z := S.sl i sl (by simpa using e)
      rcases mem e with ⟨d, rfl⟩ | rfl
      · simpa [SlOk] using z
      · trivial
  · have no : ∀ {i : Nat} {a : Sl}, (Sl.oo c fs :: (ds.map Sl.pu ++ List.replicate k Sl.un))[i]? = some a → isOwn a = true → i = 0 := fun {i a} e o => by
      cases i with
      | zero => rfl
      | succ i => rcases mem e with ⟨d, rfl⟩ | rfl <;> cases o
    rw [no e1 o1, no e2 o2]
  · cases i with
    | zero => exact ⟨p, hpa, rfl⟩
    | succ i => rcases mem e with ⟨d, z⟩ | z <;> cases z
theorem Tr.dlp {G0 H0 G H : Hp} {p : Addr} (t : Tr G0 (dl H0 p) G H) (hg : G p = none) : Tr G0 (dl H0 p) G (dl H p) := by
  refine ⟨fun a o e => ?_, t.gg, fun a o e => ?_, t.nw⟩
  · have ne : a ≠ p := fun z => by rw [z, dl_same] at e; cases e
    rw [dl_ne ne]; exact t.sm a o e
  · have ne : a ≠ p := fun z => by rw [z, hg] at e; cases e
    rw [dl_ne ne]; exact t.gh a o e
/-- the mirror of an __init__ that begins by super().__init__(es) -/
def imS (cn : Str) (n p : Nat) (fes : Ev → R (List DV)) (mi : Imi) (n2 : Nat) (F : Ev → SR) : Imi := fun c fs ds => if (c == cn && Nat.beq ds.length p) = true then
  (fes (Sl.oo c fs :: (ds.map Sl.pu ++ List.replicate (n - (p + 1)) Sl.un))).bind fun ds2 => if Nat.beq ds2.length n2 = true then (mi c fs ds2).bind fun fs2 =>
    match F (Sl.oo c fs2 :: (ds.map Sl.pu ++ List.replicate (n - (p + 1)) Sl.un)) with
    | .nx δ => (match (δ[0]? : Option Sl) with
      | some (Sl.oo c' fs') => if c' = c then .ok fs' else .bad
      | _ => .bad)
    | .ex c fs _ => .exc c fs
    | _ => .bad
  else .bad else .bad
section
variable {P : Program} {w : World} {K : PySem.W.Frag} {mg : Str → Option Value} {base : Heap}
theorem fn_initS {cn name qual : Str} {params : Arguments} {scope : Scope} {f f2 : Addr} {fd fd2 : FuncData} {N ps ps2 : List Str} {k n n2 : Nat} {mi : Imi} {fes : Ev → R (List DV)} {F : Ev → SR} {e : Expr} {es : List Expr} {rest : List Stmt} {p0 p1 p2 p3 p4 : Pos} {a0 : Str} {ar : Arg}
    (D : SupK P K cn name qual params (.Expr (.Call (.Attribute (.Call (.Name "super" p0) [] [] p1) "__init__" p2) (e :: es) [] p3) p4 :: rest) scope f fd f2) (S : NdefX.NScope N ps ["__class__"] scope) (hn : ps.length = n + 1) (hps : ps[0]? = some a0)
    (hp : (params.posonlyargs ++ params.args).head? = some ar) (har : ar.arg = a0) (hks : scope.names.lookup ("super" : Str) = some .globalImplicit)
    (htop : (P.main.scope.names.lookup ("super" : Str)).isSome = false) (hsup : mg "super" = none)
    (F2 : FnOk P w K mg base (L2.CX P w) k f2 fd2 ps2 (spI K n2 mi)) (hb2 : Binds K fd2 ps2 [])
    (hargs : ∀ (NF : NdefX.NF) (A : Around) (outer : List Env) (s : Shared) (H : Hp) (E : XK), NF.scope = scope → NF.qual = qual → Room k (A.deeper (NdefX.envF NF f s.heap.objs.size)) →
      PDA (NdefX.ncx (L2.CX P w) P w K mg base N NF f A outer s H E) (fun cls d _ H' => E cls d H') (e :: es) fes)
    (hrest : ∀ (NF : NdefX.NF) (A : Around) (outer : List Env) (s : Shared) (H : Hp) (E : XK), NF.scope = scope → NF.qual = qual → Room k (A.deeper (NdefX.envF NF f s.heap.objs.size)) →
      PSSD (NdefX.ncx (L2.CX P w) P w K mg base N NF f A outer s H E) (fun cls d _ H' => E cls d H') rest F)
    (hint : ∀ env : Env, env.scope = scope → interactive env = false := by intro env h; unfold interactive; rw [h]; rfl)
    (hs : ∀ env, swapsWith (.Call (.Attribute (.Call (.Name "super" p0) [] [] p1) "__init__" p2) (e :: es) [] p3) none p4.line env = pure false := by intro _; rfl)
    (he : ∀ env, starEach (e :: es) env = (false, eval e env) :: starEach es env := by intro _; rfl) (hpl : ∀ env, (backTo p3 (starEach es env)).any (·.1) = false := by intro _; rfl)
    (hev : ∀ env, ∃ pl : Sem Bool, eval (.Call (.Attribute (.Call (.Name "super" p0) [] [] p1) "__init__" p2) (e :: es) [] p3) env = (do
      let ov ← attributeBase (.Call (.Name "super" p0) [] [] p1) "__init__" env (eval (.Call (.Name "super" p0) [] [] p1) env)
      standAt p2.atName
      let (f, first) ← holding [ov] (getMethod ov "__init__" pl)
      callWith p3 f first (backTo p3 (starEach (e :: es) env)) []) := by intro _; exact ⟨_, rfl⟩) :
    FnOk P w K mg base (L2.CX P w) (k + 1) f fd ps (spI K n (imS cn N.length n fes mi n2 F)) := by
  obtain ⟨oc, od, kV, doc, pm, an, cda, cc, ct, osl, rfl, lk, hcd, ⟨ccl, cdd, vs0, ccs, file, tf, hcode, hvs, hfile⟩, cl, cld, csl, hcell⟩ := D.ex
  obtain ⟨cd, clsD⟩ := D.clsD
  refine ⟨fun vs H Q E h => ?_, fun A outer s H args us vs Q E hr e0 hb r hsp => ?_⟩
  · obtain ⟨p, dx, c, ws, fs, G, vs', ds, rfl, hl, _⟩ := h
    rw [List.length_cons, hl, hn]
  · obtain ⟨p, dx, c, ws, fs, G, vs', ds, rfl, hl, hpp, hg, s1, rf, rd, h⟩ := hsp
    have KX : K.In s.heap := e0.mod.kin.keeps fun b o e => (e0.bs b o e).1
    have lim : s.heap.NoLimit := e0.mod.nolimit.keeps fun b o e => (e0.bs b o e).1
    have hlen : (V.ref p :: vs').length = ps.length := by rw [List.length_cons, hl, hn]
    have hN : ps.length + 1 ≤ N.length := by
      have q := congrArg List.length S.pre
      rw [List.length_take, List.length_append, List.length_singleton] at q
      omega
    unfold imS at h
    by_cases qc : (c == cn && Nat.beq ds.length n) = true
    · rw [if_pos qc] at h
      obtain ⟨qc1, qc2⟩ := Bool.and_eq_true_iff.mp qc
      have ec : c = cn := eq_of_beq qc1
      subst ec
      -- the entry's slots
      have es0 : NdefX.startF N (V.ref p :: vs') [none] = some (.ref p) :: (vs'.map some ++ List.replicate (N.length - (n + 1)) none) := by
        unfold NdefX.startF
        rw [List.length_cons, hl, List.length_singleton]
        have : N.length - (n + 1) = (N.length - (n + 1) - 1) + 1 := by omega
        rw [this, List.replicate_succ]
        rfl
      generalize hδ : (Sl.oo c fs :: (ds.map Sl.pu ++ List.replicate (N.length - (n + 1)) Sl.un)) = δ0 at h
      have S0 : SOk K ⟨dl H p, G, some p⟩ G H δ0 (some (.ref p) :: (vs'.map some ++ List.replicate (N.length - (n + 1)) none)) := by
        rw [← hδ]
        exact sok_init s1 hpp hg rf rd rfl
      have t0 : Tr G (dl H p) G H := ⟨dl_sub, Same.refl _, s1, fun _ _ => rfl⟩
      let NF : NdefX.NF := ⟨name, qual, params, (.Expr (.Call (.Attribute (.Call (.Name "super" p0) [] [] p1) "__init__" p2) (e :: es) [] p3) p4 :: rest), scope, [("__class__", cc)], cda⟩
      let Q' : Hp → Prop := fun H2 => ∃ ds2 fs2 G' dx' ws', fes δ0 = .ok ds2 ∧ Nat.beq ds2.length n2 = true ∧ mi c fs ds2 = .ok fs2 ∧ Tr G (dl H p) G' H2 ∧ G' p = none ∧ H2 p = some (.ins (He.ga K c) dx' ws') ∧ FReps K G' ws' fs2
      have hA : Rq K (DReps K) (fun c d H' => E c d H') G H (fes δ0) (fun vs2 H1 => spI K n2 mi (.ref p :: vs2) H1 (fun _ H2 => Q' H2) E) := by
        cases q1 : fes δ0 with
        | bad => rw [q1] at h; exact h.elim
        | exc c' xs => rw [q1] at h; exact fun H' G' d t x => h H' G' d (t0.trans t) x
        | ok ds2 =>
          rw [q1] at h
          intro vs2 H1 G1 t1 r1
          have h3 : RqI K E G H p c (if Nat.beq ds2.length n2 = true then (mi c fs ds2).bind _ else .bad) Q := h
          by_cases qn : Nat.beq ds2.length n2 = true
          · rw [if_pos qn] at h3
            have hH1 := t1.sm _ _ hpp
            have hG1 : G1 p = none := by rw [t1.nw p (by rw [hpp]; simp)]; exact hg
            have td := Tr.dlp (t0.trans t1) hG1
            refine ⟨p, dx, c, ws, fs, G1, vs2, ds2, rfl, by rw [r1.length]; exact Nat.eq_of_beq_eq_true qn, hH1, hG1, t1.gh, rf.mono t1.gg, r1, ?_⟩
            cases q2 : mi c fs ds2 with
            | bad => rw [q2] at h3; exact h3.elim
            | exc c' xs => rw [q2] at h3; exact fun H' G' d t x => h3 H' G' d (td.trans t) x
            | ok fs2 => exact fun H' G' dx' ws' t hg' e' rf' => ⟨ds2, fs2, G', dx', ws', q1, qn, q2, td.trans t, hg', e', rf'⟩
          · rw [if_neg qn] at h3; exact h3.elim
      refine PySem.ks_codeAny_call_defAt (fd := PySem.W.fnX name qual params (.Expr (.Call (.Attribute (.Call (.Name "super" p0) [] [] p1) "__init__" p2) (e :: es) [] p3) p4 :: rest) scope [("__class__", cc)] .none kV doc pm an (.ref cda) ct)
        (body := .Expr (.Call (.Attribute (.Call (.Name "super" p0) [] [] p1) "__init__" p2) (e :: es) [] p3) p4 :: rest) (binds := ps.zip us) hr.depth (KX _ _ lk) rfl lim (PySem.W.codeRec_of KX hcd) rfl hb S.nocell (fun ⟨y, v⟩ hy => S.par y (List.of_mem_zip hy).1) (fun h₁ hns hk₁ => ?_) S.co S.gen S.kind
      have C : NdefX.CellsAt [(("__class__" : Str), cc)] ["__class__"] [none] s.heap H := by
        have key : ∀ {y : Str} {c' : Addr}, List.lookup y [(("__class__" : Str), cc)] = some c' → y = "__class__" ∧ c' = cc := fun {y c'} e => by
          rw [List.lookup_cons] at e
          cases q : y == ("__class__" : Str) with
          | true => rw [q] at e; exact ⟨eq_of_beq q, (Option.some.inj e).symm⟩
          | false => rw [q] at e; cases e
        refine ⟨rfl, fun y c' e => ?_, fun x y c' e1 e2 => ?_, fun i y e => ?_⟩
        · obtain ⟨rfl, rfl⟩ := key e
          exact ⟨(e0.bs _ _ (e0.mod.kin _ _ hcell)).2, ⟨_, _, KX _ _ hcell, rfl⟩⟩
        · rw [(key e1).1, (key e2).1]
        · cases i with
          | zero =>
            simp at e
            subst e
            exact ⟨cc, rfl, fun v z => by simp at z⟩
          | succ i => simp at e
      have I : Inv (NdefX.ncx (L2.CX P w) P w K mg base N NF f A outer s H E) [] (NdefX.startF N (V.ref p :: vs') [none]) H { s with heap := h₁, toks := s.toks + (ps.zip us).length } :=
        NdefX.inv_startN (F := NF) S hr.hd e0 hlen r C hns hk₁
      rw [es0] at I
      obtain ⟨ta, pa, ha⟩ := (hargs NF A outer s H E rfl rfl (hr.deeper _)).ex
      obtain ⟨pl, hev'⟩ := hev (NdefX.ncx (L2.CX P w) P w K mg base N NF f A outer s H E).env
      have hN0 : (NdefX.ncx (L2.CX P w) P w K mg base N NF f A outer s H E).N[0]? = some ar.arg := by
        show N[0]? = some ar.arg
        have z : (N.take (ps.length + 1))[0]? = (ps ++ [("__class__" : Str)])[0]? := congrArg (fun l : List Str => l[0]?) S.pre
        rw [List.getElem?_take_of_lt (by omega), List.getElem?_append_left (by omega), hps] at z
        rw [z, har]
      refine PySem.ks_wpAt_execs_cons (PySem.ks_wpAt_mono (super_stmt (X := NdefX.ncx (L2.CX P w) P w K mg base N NF f A outer s H E) (E := fun _ => E) (Q' := Q') (sp := spI K n2 mi) (name := name) (qual := qual) (params := params) (scope := scope) (cn := c) (fd2 := fd2) (ps2 := ps2) (k := k) (f2 := f2) (ar := ar) (t := ta) (dx := dx) (fs := ws) (pl := pl)
        (body := .Expr (.Call (.Attribute (.Call (.Name "super" p0) [] [] p1) "__init__" p2) (e :: es) [] p3) p4 :: rest)
        lk hp hcode hvs hfile hcell clsD D.mro D.sup D.ty D.fn D.st hsup hks (S.frk _ (List.mem_singleton.mpr rfl)) (S.par _ (List.mem_of_getElem? (by rw [har]; exact hps))) rfl rfl rfl htop rfl hN0 hpp F2 hb2 (hr.deeper _)
        (passAt (W := fun cls d _ H' => E cls d H') (takes_of (X := NdefX.ncx (L2.CX P w) P w K mg base N NF f A outer s H E) rfl rfl rfl rfl) _) pa I (ha S0 hA) (hint _ rfl) (hs _) (he _) (hpl _) hev') (fun fl s' z => ?_) (fun _ _ z => z))
      obtain ⟨rfl, H2, I2, ds2, fs2, G', dx', ws', q1, qn, q2, t, hg', e', rf'⟩ := z
      rw [q1] at h
      have h3 : RqI K E G H p c (if Nat.beq ds2.length n2 = true then (mi c fs ds2).bind fun fs2 => (match F (Sl.oo c fs2 :: (ds.map Sl.pu ++ List.replicate (N.length - (n + 1)) Sl.un)) with
        | .nx δ => (match (δ[0]? : Option Sl) with
          | some (Sl.oo c' fs') => if c' = c then .ok fs' else .bad
          | _ => .bad)
        | .ex c fs _ => .exc c fs
        | _ => .bad) else .bad) Q := h
      rw [if_pos qn, q2] at h3
      obtain ⟨tr, pr, hr2⟩ := (hrest NF A outer s H E rfl rfl (hr.deeper _)).ex
      have S1 : SOk K ⟨dl H p, G, some p⟩ G' H2 (Sl.oo c fs2 :: (ds.map Sl.pu ++ List.replicate (N.length - (n + 1)) Sl.un)) (some (.ref p) :: (vs'.map some ++ List.replicate (N.length - (n + 1)) none)) :=
        sok_at (B := ⟨dl H p, G, some p⟩) t dl_same rfl e' hg' rf' (rd.mono t.gg) rfl
      refine wpAt_of_wpAny (wpAny_mono (pr.run [] s' _ H2 { nx := fun _ H' => Q .non H', rt := Q } I2 (hr2 S1 ?_)) (fun fl s3 hs3 => ?_) fun er s3 hs3 => hs3)
      · have h4 : RqI K E G H p c (match F (Sl.oo c fs2 :: (ds.map Sl.pu ++ List.replicate (N.length - (n + 1)) Sl.un)) with
          | .nx δ => (match (δ[0]? : Option Sl) with
            | some (Sl.oo c' fs') => if c' = c then .ok fs' else .bad
            | _ => .bad)
          | .ex c fs _ => .exc c fs
          | _ => .bad) Q := h3
        cases q : F (Sl.oo c fs2 :: (ds.map Sl.pu ++ List.replicate (N.length - (n + 1)) Sl.un)) with
        | nx δ =>
          rw [q] at h4
          intro σ H3 G3 g S'
          cases q0 : (δ[0]? : Option Sl) with
          | none =>
            have h5 : RqI K E G H p c (match (δ[0]? : Option Sl) with
              | some (Sl.oo c' fs') => if c' = c then .ok fs' else .bad
              | _ => .bad) Q := h4
            rw [q0] at h5; exact h5.elim
          | some sl =>
            have h5 : RqI K E G H p c (match (δ[0]? : Option Sl) with
              | some (Sl.oo c' fs') => if c' = c then .ok fs' else .bad
              | _ => .bad) Q := h4
            rw [q0] at h5
            cases sl with
            | oo c' fs' =>
              by_cases qc : c' = c
              · subst qc
                have h6 : RqI K E G H p c' (.ok fs') Q := by
                  have z : RqI K E G H p c' (if c' = c' then .ok fs' else .bad) Q := h5
                  rw [if_pos rfl] at z; exact z
                obtain ⟨pp, es2, h0, hg2, dx2, vs2, hp2, r2⟩ := S'.own q0 rfl
                obtain ⟨p', hpa, es3⟩ := S'.me 0 c' fs' q0
                have e1 : p = p' := Option.some.inj hpa
                have e2 : pp = p' := by
                  rw [es2] at es3
                  injection es3 with z; injection z with z; injection z
                subst e1 e2
                exact h6 H3 G3 dx2 vs2 S'.tr hg2 hp2 r2
              · have z : RqI K E G H p c (if c' = c then .ok fs' else .bad) Q := h5
                rw [if_neg qc] at z; exact z.elim
            | _ => exact h5.elim
        | rt d => rw [q] at h4; exact h4.elim
        | ex cn xs δ => rw [q] at h4; exact fun σ H3 G3 dx' g S' x => h4 H3 G3 dx' S'.tr x
        | bk δ => rw [q] at h4; exact h4.elim
        | ct δ => rw [q] at h4; exact h4.elim
        | bad => rw [q] at h4; exact h4.elim
      · have fin : ∀ {σ' : L2.St} {H' : Hp} {v : V} {u : Value}, Inv (NdefX.ncx (L2.CX P w) P w K mg base N NF f A outer s H E) [] σ' H' s3 → L2.RelV v u → Q v H' → CE outer P w H s Q u s3 :=
          fun {σ' H' v u} J rv q => ⟨v, H', J.os, J.bare, J.base, J.hok, rv, q⟩
        cases fl with
        | ret u =>
          obtain ⟨v, σ', H', J, rv, q⟩ := hs3
          exact fin J rv q
        | next =>
          obtain ⟨σ', H', J, q⟩ := hs3
          exact fin (v := V.non) (u := Value.none) J rfl q
        | brk =>
          obtain ⟨_, _, _, q⟩ := hs3
          exact False.elim q
        | cont =>
          obtain ⟨_, _, _, q⟩ := hs3
          exact False.elim q
    · rw [if_neg qc] at h; exact h.elim
end
end LD

set_option maxHeartbeats 2000000
/-! Layer D, part J: the head's facts. -/
namespace LD
open PySem PySem.Spec PyProof.Rows L2

/-! ### where a def stands -/
inductive Wh where
  | glo (x : Str)
  | meth (c m : Str)
  /-- a property's getter -/
  | prop (c f : Str)
def pgA (K : PySem.W.Frag) (p : Addr) : Addr := match PySem.W.recIn K p "property" with
  | some (.ref g :: _) => g
  | _ => 0
def Wh.adr (K : PySem.W.Frag) : Wh → Addr
  | .glo x => He.ga K x
  | .meth c m => He.ma K (He.ga K c) m
  | .prop c f => pgA K (He.ma K (He.ga K c) f)
abbrev FnW : Type := Option (Str × Str × Arguments × FuncBody × Scope × Addr × List Str × Addr)
def fnW (K : PySem.W.Frag) (a : Addr) : FnW := match K.lookup a with
  | some ⟨_, _, .func fd, _⟩ => some (fd.name, fd.qualname, fd.params, fd.body, fd.scope, fd.globals, fd.closure.map (·.1), fd.builtins)
  | _ => none
/-- one def; sup: its own class and the next one's name, where it says super() -/
structure DefE where
  at_ : Wh
  name : Str
  qual : Str
  params : Arguments
  body : List Stmt
  scope : Scope
  dfl : List He.Dv := []
  kwd : List (Str × He.Dv) := []
  sup : Option (Str × Str) := none
def DefE.val (d : DefE) : FnW := some (d.name, d.qual, d.params, .stmts d.body, d.scope, mainGlobals, (match d.sup with
  | some _ => ["__class__"]
  | none => []), builtinsNs)
def DefE.dvs (K : PySem.W.Frag) (d : DefE) : List V := d.dfl.map (He.Dv.v K)
def DefE.kws (K : PySem.W.Frag) (d : DefE) : List (Str × V) := d.kwd.map fun q => (q.1, q.2.v K)
def DefE.ok (K : PySem.W.Frag) (d : DefE) : Bool := PySem.W.keepIn K (.ref (d.at_.adr K)) && (match K.lookup (d.at_.adr K) with
  | some ⟨_, _, .func fd, _⟩ => PySem.W.codeIn K fd.code d.qual && (He.dflB K fd.defaults (d.dvs K) && He.kwdB K fd.kwdefaults (d.kws K))
  | _ => false)
theorem DefE.funD {K : PySem.W.Frag} {d : DefE} (e : fnW K (d.at_.adr K) = d.val) (c : d.ok K = true) (hs : d.sup = none) : ∃ fd, FunD K d.name d.qual d.params d.body d.scope (d.dvs K) (d.kws K) (d.at_.adr K) fd := by
  obtain ⟨kp, c2⟩ := He.ba c
  unfold fnW at e
  unfold DefE.val at e
  rw [hs] at e
  cases q : K.lookup (d.at_.adr K) with
  | none => rw [q] at c2; cases c2
  | some o =>
    obtain ⟨oc, od, dt, osl⟩ := o
    rw [q] at c2 e
    cases dt with
    | func fd =>
      obtain ⟨n1, n2, n3, n4, n5, n6, n7, n8, n9, n10, n11, n12, n13, n14, n15⟩ := fd
      have e2 : (some (n1, n2, n3, n4, n5, n6, n7.map (·.1), n15) : FnW) = some (d.name, d.qual, d.params, .stmts d.body, d.scope, mainGlobals, [], builtinsNs) := e
      simp only [Option.some.injEq, Prod.mk.injEq, List.map_eq_nil_iff] at e2
      obtain ⟨h1, h2, h3, h4, h5, h6, h7, h8⟩ := e2
      subst h1 h2 h3 h4 h5 h6 h7 h8
      have c3 : (PySem.W.codeIn K n13 d.qual && (He.dflB K n8 (d.dvs K) && He.kwdB K n9 (d.kws K))) = true := c2
      obtain ⟨k1, k2⟩ := He.ba c3
      obtain ⟨k3, k4⟩ := He.ba k2
      exact ⟨_, ⟨oc, od, n8, n9, n10, n11, n12, n13, n14, osl, rfl, q, k1, He.dflB_ok k3, He.kwdB_ok k4⟩, kp⟩
    | _ => cases c2
/-! ### super().__init__ -/
def supB (P : Program) (K : PySem.W.Frag) (d : DefE) : Bool := match d.sup with
  | none => true
  | some (cn, bn) => d.dfl.isEmpty && ((match K.lookup (d.at_.adr K) with
    | some ⟨_, _, .func fd, _⟩ => (match fd.closure, fd.code with
      | [(_, cc)], .ref cda => (match K.lookup cda with
        | some ⟨_, _, .fields vs, _⟩ => (match (vs[2]? : Option Value) with
          | some (Value.str file _) => ((P.main.file : Str) == file)
          | _ => false)
        | _ => false) && (match K.lookup cc with
        | some ⟨_, _, .cell (some (.ref D)), _⟩ => decide (D = He.ga K cn)
        | _ => false)
      | _, _ => false)
    | _ => false) && ((PySem.W.clsIn K (He.ga K cn)).isSome && (decide (PySem.W.mroIn K (He.ga K cn) (.ref (He.ga K cn)) = some true) && (He.eqO (PySem.W.ks_superIn K (He.ga K cn) (He.ga K cn) "__init__") (some (some (.ref (He.ma K (He.ga K bn) "__init__")))) &&
      (decide (PySem.W.typeIn K (.ref (He.ma K (He.ga K bn) "__init__")) = some (.type "function")) && (PySem.W.fnIn K (He.ma K (He.ga K bn) "__init__") && He.eqO (PySem.W.nsIn K cStatics "thirdparty.any") (some none)))))))
theorem supK_of {P : Program} {K : PySem.W.Frag} {d : DefE} {cn bn : Str} (e : fnW K (d.at_.adr K) = d.val) (c : d.ok K = true) (hs : d.sup = some (cn, bn)) (b : supB P K d = true) :
    ∃ fd, SupK P K cn d.name d.qual d.params d.body d.scope (d.at_.adr K) fd (He.ma K (He.ga K bn) "__init__") := by
  obtain ⟨kp, c2⟩ := He.ba c
  unfold supB at b
  rw [hs] at b
  obtain ⟨b0, b⟩ := He.ba b
  obtain ⟨b1, b2⟩ := He.ba b
  obtain ⟨b2, b3⟩ := He.ba b2
  obtain ⟨b3, b4⟩ := He.ba b3
  obtain ⟨b4, b5⟩ := He.ba b4
  obtain ⟨b5, b6⟩ := He.ba b5
  obtain ⟨b6, b7⟩ := He.ba b6
  unfold fnW at e
  unfold DefE.val at e
  rw [hs] at e
  cases q : K.lookup (d.at_.adr K) with
  | none => rw [q] at c2; cases c2
  | some o =>
    obtain ⟨oc, od, dt, osl⟩ := o
    rw [q] at c2 e b1
    cases dt with
    | func fd =>
      obtain ⟨n1, n2, n3, n4, n5, n6, n7, n8, n9, n10, n11, n12, n13, n14, n15⟩ := fd
      have e2 : (some (n1, n2, n3, n4, n5, n6, n7.map (·.1), n15) : FnW) = some (d.name, d.qual, d.params, FuncBody.stmts d.body, d.scope, mainGlobals, (["__class__"] : List Str), builtinsNs) := e
      simp only [Option.some.injEq, Prod.mk.injEq] at e2
      obtain ⟨h1, h2, h3, h4, h5, h6, h7, h8⟩ := e2
      subst h1 h2 h3 h4 h5 h6 h8
      have c3 : (PySem.W.codeIn K n13 d.qual && (He.dflB K n8 (d.dvs K) && He.kwdB K n9 (d.kws K))) = true := c2
      obtain ⟨k1, k2⟩ := He.ba c3
      have e8 : n8 = .none := by
        have z := (He.ba k2).1
        have y : d.dvs K = [] := by unfold DefE.dvs; rw [List.isEmpty_iff.mp b0]; rfl
        rw [y] at z
        cases n8 with
        | none => rfl
        | _ => cases z
      subst e8
      dsimp only at b1
      cases n7 with
      | nil => cases h7
      | cons z r =>
        obtain ⟨y, cc⟩ := z
        cases r with
        | cons _ _ => cases h7
        | nil =>
          cases n13 with
          | ref cda =>
            obtain ⟨b11, b12⟩ := He.ba b1
            have ey : y = "__class__" := by
              have : [y] = [("__class__" : Str)] := h7
              injection this
            subst ey
            refine ⟨_, ⟨oc, od, n9, n10, n11, n12, cda, cc, n14, osl, rfl, q, k1, ?_, ?_⟩, Option.isSome_iff_exists.mp b2, of_decide_eq_true b3, He.eqO_ok b4, of_decide_eq_true b5, b6, He.eqO_ok b7⟩
            · split at b11
              · rename_i ccl cdd vs ccs hq
                split at b11
                · rename_i file tf hv
                  exact ⟨ccl, cdd, vs, ccs, file, tf, hq, hv, b11⟩
                · cases b11
              · cases b11
            · split at b12
              · rename_i cl cld D csl hq
                have : D = He.ga K cn := of_decide_eq_true b12
                subst this
                exact ⟨cl, cld, csl, hq⟩
              · cases b12
          | _ => cases b1
    | _ => cases c2
/-! ### single facts -/
abbrev Fk := PySem.W.Frag → Bool
def kcB (c : Str) : Fk := fun K => (He.Fa.cls c).ok K && (He.eqO (PySem.W.findIn K (.ref (He.ga K c)) "__class__") (some (some (.builtin "object.__class__"))) && (He.eqO (PySem.W.specialIn K (.builtin "object.__class__") "__get__") (some (some (.builtin "getset_descriptor.__get__"))) &&
  (decide (PySem.W.takesIn K (.builtin "object.__class__") = some true) && decide (PySem.W.mroIn K (He.ga K c) (.type "object") = some true))))
theorem kcB_ok {K : PySem.W.Frag} {c : Str} (h : kcB c K = true) : KC K c := by
  obtain ⟨h1, h⟩ := He.ba h
  obtain ⟨h2, h⟩ := He.ba h
  obtain ⟨h3, h⟩ := He.ba h
  obtain ⟨h4, h5⟩ := He.ba h
  exact ⟨He.cls_ok h1, He.eqO_ok h2, He.eqO_ok h3, of_decide_eq_true h4, of_decide_eq_true h5⟩
/-- the class's constant f is the value v -/
def conB (c f : Str) (v : V) : Fk := fun K => match PySem.W.findIn K (.ref (He.ga K c)) f with
  | some (some u) => He.relB v u && (He.eqO (PySem.W.specialIn K u "__get__") (some none) && !(PySem.W.copiedNames.contains f))
  | _ => false
theorem conB_ok {K : PySem.W.Frag} {c f : Str} {v : V} (h : conB c f v K = true) : ∃ u, Con K (He.ga K c) f v u := by
  unfold conB at h
  cases q : PySem.W.findIn K (.ref (He.ga K c)) f with
  | none => rw [q] at h; cases h
  | some o =>
    cases o with
    | none => rw [q] at h; cases h
    | some u =>
      rw [q] at h
      obtain ⟨h1, h⟩ := He.ba h
      obtain ⟨h2, h3⟩ := He.ba h
      exact ⟨u, q, He.relB_ok h1, He.eqO_ok h2, by simpa using h3⟩
def propB (c f : Str) : Fk := fun K => He.eqO (PySem.W.findIn K (.ref (He.ga K c)) f) (some (some (.ref (He.ma K (He.ga K c) f)))) && (He.eqO (PySem.W.specialIn K (.ref (He.ma K (He.ga K c) f)) "__get__") (some (some (.builtin "property.__get__"))) &&
  (decide (PySem.W.takesIn K (.ref (He.ma K (He.ga K c) f)) = some true) && (match PySem.W.recIn K (He.ma K (He.ga K c) f) "property" with
    | some (.ref _ :: _) => true
    | _ => false)))
theorem propB_ok {K : PySem.W.Frag} {c f : Str} (h : propB c f K = true) : PropOf K (He.ga K c) f (He.ma K (He.ga K c) f) ((Wh.prop c f).adr K) := by
  obtain ⟨h1, h⟩ := He.ba h
  obtain ⟨h2, h⟩ := He.ba h
  obtain ⟨h3, h4⟩ := He.ba h
  refine ⟨He.eqO_ok h1, He.eqO_ok h2, of_decide_eq_true h3, ?_⟩
  show ∃ rest, PySem.W.recIn K (He.ma K (He.ga K c) f) "property" = some (.ref (pgA K (He.ma K (He.ga K c) f)) :: rest)
  unfold pgA
  split at h4
  · rename_i g r e
    rw [e]
    exact ⟨r, rfl⟩
  · cases h4
/-- the class c finds its method m at the same place as the class b -/
def methAtB (c m b : Str) : Fk := fun K => decide (He.ma K (He.ga K c) m = He.ma K (He.ga K b) m)
/-! ### the Hook -/
abbrev AlL : Type := Bool × List FnW
def obsL (P : Program) (fa : List Fk) (fn : List DefE) (K : PySem.W.Frag) : AlL := ((fa.all fun f => f K) && fn.all fun d => d.ok K && supB P K d, fn.map fun d => fnW K (d.at_.adr K))
def valL (fn : List DefE) : AlL := (true, fn.map DefE.val)
def SaysL (P : Program) (fa : List Fk) (fn : List DefE) (K : PySem.W.Frag) : Prop := obsL P fa fn K = valL fn
def obsLG (P : Program) (n : Nat) (fa : List Fk) (fn : List DefE) (g : Addr → Option Obj) : AlL := obsL P fa fn (He.frG g (cStatics :: He.asD g n))
def hookL (P : Program) (n : Nat) (fa : List Fk) (fn : List DefE) : PySem.W.Hook where
  α := AlL
  obs := fun s => obsLG P n fa fn s.heap.get?
  val := fun _ => valL fn
  says := fun _ h => ∃ K : PySem.W.Frag, K.In h ∧ SaysL P fa fn K
  of := fun _ _ e => ⟨_, He.frG_in, e⟩
  keeps := fun _ _ _ ⟨K, hK, c⟩ k => ⟨K, PySem.W.Frag.In.keeps hK k, c⟩
theorem obsLG_eq {P : Program} {n : Nat} {fa : List Fk} {fn : List DefE} {g : Addr → Option Obj} {s : Shared} (h : ∀ a, g a = s.heap.get? a) : obsLG P n fa fn g = (hookL P n fa fn).obs s := by
  have e : g = s.heap.get? := funext h
  rw [e] <;> rfl
section
variable {P : Program} {fa : List Fk} {fn : List DefE} {K : PySem.W.Frag}
theorem SaysL.fact (c : SaysL P fa fn K) (i : Nat) {f : Fk} (h : fa[i]? = some f := by rfl) : f K = true := by
  have c1 := (He.ba (show ((fa.all fun f => f K) && fn.all fun d => d.ok K && supB P K d) = true from congrArg (fun z : AlL => z.1) c)).1
  exact List.all_eq_true.mp c1 f (List.mem_of_getElem? h)
theorem SaysL.both (c : SaysL P fa fn K) {i : Nat} {d : DefE} (h : fn[i]? = some d) : fnW K (d.at_.adr K) = d.val ∧ d.ok K = true ∧ supB P K d = true := by
  have c2 := (He.ba (show ((fa.all fun f => f K) && fn.all fun d => d.ok K && supB P K d) = true from congrArg (fun z : AlL => z.1) c)).2
  have e : fn.map (fun d => fnW K (d.at_.adr K)) = fn.map DefE.val := congrArg (fun z : AlL => z.2) c
  have e2 : (fn.map fun d => fnW K (d.at_.adr K))[i]? = (fn.map DefE.val)[i]? := by rw [e]
  rw [List.getElem?_map, List.getElem?_map, h] at e2
  have k := List.all_eq_true.mp c2 d (List.mem_of_getElem? h)
  obtain ⟨k1, k2⟩ := He.ba k
  exact ⟨Option.some.inj e2, k1, k2⟩
theorem SaysL.def_ (c : SaysL P fa fn K) (i : Nat) {d : DefE} (h : fn[i]? = some d := by rfl) (hs : d.sup = none := by rfl) : ∃ fd, FunD K d.name d.qual d.params d.body d.scope (d.dvs K) (d.kws K) (d.at_.adr K) fd :=
  let ⟨a, b, _⟩ := c.both h
  DefE.funD a b hs
theorem SaysL.sup_ (c : SaysL P fa fn K) (i : Nat) {d : DefE} {cn bn : Str} (h : fn[i]? = some d := by rfl) (hs : d.sup = some (cn, bn) := by rfl) : ∃ fd, SupK P K cn d.name d.qual d.params d.body d.scope (d.at_.adr K) fd (He.ma K (He.ga K bn) "__init__") :=
  let ⟨a, b, e⟩ := c.both h
  supK_of a b hs e
end
end LD

set_option maxHeartbeats 2000000
/-! Layer D, part K: the rules over the head's facts, as a printer writes them. -/
namespace LD
open PySem PySem.Spec PyProof.Rows L2

/-! ### facts -/
def glB (x : Str) : Fk := fun K => (He.Fa.glo x).ok K
def frB (x : Str) : Fk := fun K => (He.Fa.free x).ok K
def itB (x : Str) (i : Int) : Fk := fun K => (He.Fa.int x i).ok K
def stB (x z : Str) : Fk := fun K => (He.Fa.str x z).ok K
def fldB (cs : List Str) (f : Str) : Fk := fun K => cs.all fun c => kcB c K && (He.Fa.noat c f).ok K
def DV.fl : DV → Option V
  | .non => some .non
  | .bl b => some (.bl b)
  | .int i => some (.int i)
  | .str x => some (.str x)
  | _ => none
theorem DV.fl_rep {K : PySem.W.Frag} {d : DV} {v : V} (h : d.fl = some v) (G : Hp) : DRep K G v d := by
  cases d with
  | non => cases h; exact .non
  | bl b => cases h; exact .bl b
  | int i => cases h; exact .int i
  | str x => cases h; exact .str x
  | _ => cases h
def cnB (tab : List (Str × DV)) (f : Str) : Fk := fun K => tab.all fun p => kcB p.1 K && (match p.2.fl with
  | some v => conB p.1 f v K
  | none => false)
def isB (tab : List (Tg × Bool)) (cs : List Tg) : Fk := fun K => isiB K tab cs && tab.all fun p => match p.1 with
  | .own c => kcB c K
  | _ => true
def exB (tab : List (Str × Bool)) (x : Str) : Fk := fun K => exmB K tab x
def ecB (x : Str) : Fk := fun K => (He.Fa.exc x).ok K
def mkB (x : Str) : Fk := fun K => (He.Fa.mkr x).ok K
def mtB (c m : Str) : Fk := fun K => kcB c K && (He.Fa.meth c m).ok K
def ppB (c f : Str) : Fk := fun K => kcB c K && propB c f K
/-- == of instances of the classes cs is the def at b.__eq__ -/
def ewB (cs : List Str) (b : Str) : Fk := fun K => eqB K cs (He.ma K (He.ga K b) "__eq__") && PySem.W.isFn K (.ref (He.ma K (He.ga K b) "__eq__"))
/-- c.m is b.m -/
def saB (c m b : Str) : Fk := methAtB c m b

structure Fx (P : Program) (fa : List Fk) (fn : List DefE) (K : PySem.W.Frag) (mg : Str → Option Value) : Prop where
  h : ∃ h : Heap, K.In h ∧ h.Ns mainGlobals mg
  c : SaysL P fa fn K
section
variable {P : Program} {fa : List Fk} {fn : List DefE} {K : PySem.W.Frag} {mg : Str → Option Value}
theorem Fx.f (x : Fx P fa fn K mg) (i : Nat) {f : Fk} (e : fa[i]? = some f := by rfl) : f K = true := x.c.fact i e
theorem Fx.gl (x : Fx P fa fn K mg) {n : Str} (e : glB n K = true) : mg n = some (.ref (He.ga K n)) := let ⟨_, X, G⟩ := x.h; He.glo_ok X G e
theorem Fx.fr (x : Fx P fa fn K mg) {n : Str} (e : frB n K = true) : mg n = none := let ⟨_, X, G⟩ := x.h; He.free_ok X G e
theorem Fx.it (x : Fx P fa fn K mg) {n : Str} {i : Int} (e : itB n i K = true) : ∃ t, mg n = some (.int i t) := let ⟨_, X, G⟩ := x.h; He.int_ok X G e
theorem Fx.st (x : Fx P fa fn K mg) {n z : Str} (e : stB n z K = true) : ∃ t, mg n = some (.str z t) := let ⟨_, X, G⟩ := x.h; He.str_ok X G e
end

/-! ### promises -/
def FO (P : Program) (w : World) (K : PySem.W.Frag) (mg : Str → Option Value) (base : Heap) (k : Nat) (f : Addr) (ps : List Str) (sp : Sp) : Prop := ∃ fd, FnOk P w K mg base (L2.CX P w) k f fd ps sp ∧ Binds K fd ps []
section
variable {P : Program} {w : World} {K : PySem.W.Frag} {mg : Str → Option Value} {base : Heap} {k : Nat} {f : Addr} {ps : List Str} {sp : Sp}
theorem FO.as {m m' : Mir} (F : FO P w K mg base k f ps (spD K m)) (h : ∀ ds, m' ds ≠ .bad → m ds = m' ds) : FO P w K mg base k f ps (spD K m') :=
  let ⟨fd, a, b⟩ := F
  ⟨fd, fn_as a h, b⟩
theorem FO.eq {m m' : Mir} (F : FO P w K mg base k f ps (spD K m)) (h : m = m') : FO P w K mg base k f ps (spD K m') := h ▸ F
theorem SupK.bindsN {cn name qual : Str} {params : Arguments} {body : List Stmt} {scope : Scope} {fd : FuncData} {f2 : Addr} (D : SupK P K cn name qual params body scope f fd f2)
    (h : ∀ (cc : Addr) (kV doc pm : Value) (an : Option Addr) (cdv ct : Value) (us : List Value), us.length = ps.length → bindArgs (PySem.W.fnX name qual params body scope [("__class__", cc)] .none kV doc pm an cdv ct) ⟨us, []⟩ = pure (ps.zip us)) : Binds K fd ps [] := by
  obtain ⟨oc, od, kV, doc, pm, an, cda, cc, ct, osl, rfl, _⟩ := D.ex
  exact .all (h cc kV doc pm an (.ref cda) ct)
end

/-! ### rules -/
section
variable {X : Cx} {W : WX} {a b c o : Expr} {es : List Expr} {fa fb fc fo : Ev → R DV} {fes : Ev → R (List DV)} {pos p : Pos} {k j : Nat} {ps : List Str} {m : Mir} {x : Str}
theorem k_call (tk : Takes X W) (F : FO X.prog X.w X.K X.mg X.base k (He.ga X.K x) ps (spD X.K m)) (hr : Room j X.A) (hj : k ≤ j) (hm : X.mg x = some (.ref (He.ga X.K x))) (hk : PySem.W.keepIn X.K (.ref (He.ga X.K x)) = true) (A : PDA X W (a :: es) fes) (hg : Gl X x := by rfl)
    (hdb : (x == ("__debug__" : Str)) = false := by decide) (he : starEach (a :: es) X.env = (false, eval a X.env) :: starEach es X.env := by rfl) (hpl : (backTo pos (starEach es X.env)).any (·.1) = false := by rfl) : PD X W (.Call (.Name x p) (a :: es) [] pos) (xCall m fes) :=
  let ⟨fd, F, hb⟩ := F
  d_call tk F (hr.mono hj) hm hk hb A hg hdb he hpl
theorem k_call0 (tk : Takes X W) (F : FO X.prog X.w X.K X.mg X.base k (He.ga X.K x) ps (spD X.K m)) (hr : Room j X.A) (hj : k ≤ j) (hm : X.mg x = some (.ref (He.ga X.K x))) (hk : PySem.W.keepIn X.K (.ref (He.ga X.K x)) = true) (hg : Gl X x := by rfl)
    (hdb : (x == ("__debug__" : Str)) = false := by decide) : PD X W (.Call (.Name x p) [] [] pos) (fun _ => m []) :=
  let ⟨fd, F, hb⟩ := F
  d_call0 tk F (hr.mono hj) hm hk hb hg hdb
theorem k_make {n : Nat} {mi : Imi} (tk : Takes X W) (F : FO X.prog X.w X.K X.mg X.base k (He.ma X.K (He.ga X.K x) "__init__") ps (spI X.K n mi)) (hr : Room j X.A) (hj : k + 1 ≤ j) (hm : X.mg x = some (.ref (He.ga X.K x))) (M : mkB x X.K = true) (A : PDA X W (a :: es) fes) (hg : Gl X x := by rfl)
    (hdb : (x == ("__debug__" : Str)) = false := by decide) (he : starEach (a :: es) X.env = (false, eval a X.env) :: starEach es X.env := by rfl) (hpl : (backTo pos (starEach es X.env)).any (·.1) = false := by rfl) : PD X W (.Call (.Name x p) (a :: es) [] pos) (xMake x n mi fes) :=
  let ⟨fd, F, hb⟩ := F
  d_make tk (He.mkr_ok M) F (hr.mono hj) hm hb A hg hdb he hpl
theorem fldB_ok {K : PySem.W.Frag} {cs : List Str} {f : Str} (h : fldB cs f K = true) : ∀ c ∈ cs, KC K c ∧ NoAttr K (He.ga K c) f := fun c hc =>
  let ⟨a, b⟩ := He.ba (List.all_eq_true.mp h c hc)
  ⟨kcB_ok a, He.noat_ok b⟩
theorem k_fld {cs : List Str} {f : Str} (hf : fldB cs f X.K = true) (A : PD X W a fa) (hb : attributeBase a f X.env (eval a X.env) = eval a X.env := by rfl) : PD X W (.Attribute a f pos) (xFld cs f fa) := d_fld A (fldB_ok hf) hb
theorem k_con {tab : List (Str × DV)} {f : Str} (hf : cnB tab f X.K = true) (A : PD X W a fa) (hb : attributeBase a f X.env (eval a X.env) = eval a X.env := by rfl) : PD X W (.Attribute a f pos) (xCon tab f fa) := d_con A (fun c d e => by
  obtain ⟨h1, h2⟩ := He.ba (List.all_eq_true.mp hf (c, d) (look_mem e))
  dsimp only at h1 h2
  cases q : d.fl with
  | none => rw [q] at h2; cases h2
  | some v =>
    rw [q] at h2
    obtain ⟨u, hu⟩ := conB_ok h2
    exact ⟨kcB_ok h1, v, u, hu, fun G => DV.fl_rep q G⟩) hb
theorem k_prop {cn f : Str} (hp : ppB cn f X.K = true) (F : FO X.prog X.w X.K X.mg X.base k ((Wh.prop cn f).adr X.K) ps (spD X.K m)) (hr : Room j X.A) (hj : k + 1 ≤ j) (hnx : ∀ ds c fs, m ds ≠ .exc c fs)
    (A : PD X W a fa) (hab : attributeBase a f X.env (eval a X.env) = eval a X.env := by rfl) : PD X W (.Attribute a f pos) (xProp cn m fa) :=
  let ⟨fd, F, hb⟩ := F
  let ⟨h1, h2⟩ := He.ba hp
  d_prop (kcB_ok h1) (propB_ok h2) F (hr.mono hj) hb hnx A hab
theorem k_meth {cn mn : Str} {apos : Pos} {pl : Sem Bool} (tk : Takes X W) (hm : mtB cn mn X.K = true) (F : FO X.prog X.w X.K X.mg X.base k (He.ma X.K (He.ga X.K cn) mn) ps (spD X.K m)) (hr : Room j X.A) (hj : k ≤ j)
    (O : PD X W o fo) (A : PDA X W (a :: es) fes) (hst : starEach (a :: es) X.env = (false, eval a X.env) :: starEach es X.env := by rfl) (hpl : (backTo pos (starEach es X.env)).any (·.1) = false := by rfl)
    (ht : eval (.Call (.Attribute o mn apos) (a :: es) [] pos) X.env = (do
      let ov ← eval o X.env
      standAt apos.atName
      let (f, first) ← holding [ov] (getMethod ov mn pl)
      callWith pos f first (backTo pos (starEach (a :: es) X.env)) (backToKw pos (keywordEach [] X.env))) := by rfl) : PD X W (.Call (.Attribute o mn apos) (a :: es) [] pos) (xMeth cn mn m fo fes) :=
  let ⟨fd, F, hb⟩ := F
  let ⟨h1, h2⟩ := He.ba hm
  d_meth tk (kcB_ok h1) (He.meth_ok h2) F (hr.mono hj) hb O A hst hpl ht
theorem k_meth0 {cn mn : Str} {apos : Pos} {pl : Sem Bool} (tk : Takes X W) (hm : mtB cn mn X.K = true) (F : FO X.prog X.w X.K X.mg X.base k (He.ma X.K (He.ga X.K cn) mn) ps (spD X.K m)) (hr : Room j X.A) (hj : k ≤ j)
    (O : PD X W o fo)
    (ht : eval (.Call (.Attribute o mn apos) [] [] pos) X.env = (do
      let ov ← eval o X.env
      standAt apos.atName
      let (f, first) ← holding [ov] (getMethod ov mn pl)
      callWith pos f first (backTo pos (starEach [] X.env)) (backToKw pos (keywordEach [] X.env))) := by rfl) : PD X W (.Call (.Attribute o mn apos) [] [] pos) (xMeth cn mn m fo xNil) :=
  let ⟨fd, F, hb⟩ := F
  let ⟨h1, h2⟩ := He.ba hm
  d_meth0 tk (kcB_ok h1) (He.meth_ok h2) F (hr.mono hj) hb O ht
theorem isB_ok {K : PySem.W.Frag} {tab : List (Tg × Bool)} {cs : List Tg} (h : isB tab cs K = true) : isiB K tab cs = true ∧ ∀ c b, tab.lookup (.own c) = some b → KC K c :=
  let ⟨h1, h2⟩ := He.ba h
  ⟨h1, fun c b e => kcB_ok (List.all_eq_true.mp h2 (.own c, b) (look_mem e))⟩
theorem k_isi {tab : List (Tg × Bool)} {t : Tg} (hB : isB tab [t] X.K = true) (hm : X.mg "isinstance" = none) (A : PD X W a fa) (C : PCl X b t) (hg : Gl X "isinstance" := by rfl)
    (he : starEach [a, b] X.env = (false, eval a X.env) :: starEach [b] X.env := by rfl) (he2 : starEach [b] X.env = (false, eval b X.env) :: starEach [] X.env := by rfl) (hpl : (backTo pos (starEach [b] X.env)).any (·.1) = false := by rfl) :
    PD X W (.Call (.Name "isinstance" p) [a, b] [] pos) (xIsi tab fa) := d_isi (isB_ok hB).2 (isB_ok hB).1 hm A C hg he he2 hpl
theorem k_isiT {tab : List (Tg × Bool)} {ts : List Tg} {p2 : Pos} {kk : Nat} (hB : isB tab ts X.K = true) (hz : ts.length ≤ 1000) (hm : X.mg "isinstance" = none) (A : PD X W a fa) (C : PCls X es ts) (hg : Gl X "isinstance" := by rfl)
    (he : starEach [a, .Tuple es kk p2] X.env = (false, eval a X.env) :: starEach [.Tuple es kk p2] X.env := by rfl) (he2 : starEach [.Tuple es kk p2] X.env = (false, eval (.Tuple es kk p2) X.env) :: starEach [] X.env := by rfl)
    (hpl : (backTo pos (starEach [.Tuple es kk p2] X.env)).any (·.1) = false := by rfl) : PD X W (.Call (.Name "isinstance" p) [a, .Tuple es kk p2] [] pos) (xIsi tab fa) := d_isiT (isB_ok hB).2 (isB_ok hB).1 hz hm A C hg he he2 hpl
/-- x == y of instances -/
theorem k_eqO {cs : List Str} {bn : Str} (hB : ewB cs bn X.K = true) (F : FO X.prog X.w X.K X.mg X.base k (He.ma X.K (He.ga X.K bn) "__eq__") ps (spD X.K m)) (hr : Room j X.A) (hj : k ≤ j) (A : PD X W a fa) (B : PD X W b fb) (hm : behindInMarks .Eq b = false := by first | exact nomark _ | rfl) :
    PD X W (.Compare a [.Eq] [b] pos) (xOp (oEqO cs m) fa fb) := by
  obtain ⟨fd, F, hb⟩ := F
  obtain ⟨h1, h2⟩ := He.ba hB
  exact d_cmp (or_own F (hr.mono hj) hb h1 h2) (od_own (f := 0) (fd := fd) (ps := []) (k := 0)) A B hm
/-- raise C('text') -/
theorem k_raise {cn mg_ : Str} {jj : Nat} {p2 p3 : Pos} (hc : X.calm = true) (tk : Takes X W) (gC : X.mg cn = some (.ref (He.ga X.K cn))) (hE : ecB cn X.K = true) (hg : Gl X cn := by rfl) (hdb : (cn == ("__debug__" : Str)) = false := by decide) :
    PSD X W (.Raise (some (.Call (.Name cn p) [.Constant (.str mg_) jj p2] [] p3)) none pos) (sRaise cn fun _ => .ok []) :=
  let ⟨q, kC, h1, h2⟩ := He.exc_ok hE
  ds_raise hc tk (dm_own q gC kC h1 h2 hg hdb)
theorem k_sfld (i : Nat) {cs : List Str} {x f : Str} {p1 p2 : Pos} (hf : fldB cs f X.K = true) (A : PD X W a fa) (hN : X.N[i]? = some x := by rfl) (hv : Vis X.env.scope x := by first | exact Or.inl rfl | exact Or.inr (Or.inl rfl) | exact Or.inr (Or.inr rfl))
    (hd : (x == ("__debug__" : Str)) = false := by decide) (hcd : (x == ("__classdict__" : Str)) = false := by decide) (hs : swapsWith a (some (.Attribute (.Name x p1) f p2)) pos.line X.env = pure false := by rfl) : PSD X W (.Assign [.Attribute (.Name x p1) f p2] a pos) (sFldD cs i f fa) :=
  ds_fld i A (fldB_ok hf) hN hv hd hcd hs
end
end LD
namespace LD
open PySem PySem.Spec PyProof.Rows L2
theorem tk0 {X : Cx} : Takes X W0 := takes0
def kpB (x : Str) : Fk := fun K => PySem.W.keepIn K (.ref (He.ga K x))
def xChainT (o o' : DV → DV → R DV) (a b c : Ev → R DV) : Ev → R Bool := xTest (xChain o o' a b c)
theorem dt_chain {X : Cx} {W : WX} {a b c : Expr} {fa fb fc : Ev → R DV} {pos : Pos} {o o' : CmpOp} {r r' : R2} {op op' : DV → DV → R DV} (ho : OpR X (compareOp o) r) (ho' : OpR X (compareOp o') r') (od : OpD X r op) (od' : OpD X r' op') (A : PD X W a fa) (B : PD X W b fb) (C : PD X W c fc) (hm : lastMarks [o, o'] [b, c] = false := by with_unfolding_all rfl) :
    PDT X W (.Compare a [o, o'] [b, c] pos) (xTest (xChain op op' fa fb fc)) := by
  obtain ⟨ta, pa, ha⟩ := A.ex
  obtain ⟨tb, pb, hb⟩ := B.ex
  obtain ⟨tc, pc, hc⟩ := C.ex
  refine ⟨_, pt_chain ho ho' pa pb pc hm, fun {B0 G H δ σ Q} S h => ?_⟩
  have e : xTest (xChain op op' fa fb fc) δ = ((fa δ).bind fun x => (fb δ).bind fun y => (op x y).bind fun z => (asB z).bind fun k => if k = true then (fc δ).bind fun w => (op' y w).bind asB else .ok false) := by
    unfold xTest xChain
    cases fa δ with
    | ok x =>
      cases fb δ with
      | ok y =>
        show ((op x y).bind _).bind asB = (op x y).bind _
        cases op x y with
        | ok z =>
          show ((asB z).bind _).bind asB = (asB z).bind _
          cases asB z with
          | ok k => cases k with
            | true => show ((fc δ).bind _).bind asB = (fc δ).bind _; cases fc δ <;> rfl
            | false => rfl
          | _ => rfl
        | _ => rfl
      | _ => rfl
    | _ => rfl
  rw [e] at h
  refine ha S (Rq.bind (rep := DRep X.K) h fun x ex v H1 G1 t1 r1 h1 => ?_)
  refine hb (S.step t1) (Rq.bind (rep := DRep X.K) h1 fun y ey w H2 G2 t2 r2 h2 => ?_)
  refine od t2.gh (r1.mono t2.gg) r2 (Rq.bind (rep := DRep X.K) h2 fun z ez u H3 G3 t3 r3 h3 => ?_)
  cases q : asB z with
  | ok k =>
    rw [q] at h3
    refine ⟨k, asB_rep r3 q, ?_⟩
    cases k with
    | true =>
      rw [if_pos rfl]
      refine hc ((S.step t1).step (t2.trans t3)) (Rq.bind (rep := DRep X.K) h3 fun y' ey' w' H4 G4 t4 r4 h4 => ?_)
      refine od' t4.gh (r2.mono (t3.gg.trans t4.gg)) r4 (Rq.bind (rep := DRep X.K) h4 fun z' ez' u' H5 G5 t5 r5 h5 => ?_)
      cases q2 : asB z' with
      | ok k2 => rw [q2] at h5; exact ⟨k2, asB_rep r5 q2, Rq.ok_self (rep := BRep) t5.gh h5 rfl⟩
      | exc c fs => exact absurd q2 asB_no
      | bad => rw [q2] at h5; exact h5.elim
    | false =>
      rw [if_neg (by decide)]
      exact ⟨false, rfl, Rq.ok_self (rep := BRep) t3.gh h3 rfl⟩
  | exc c fs => exact absurd q asB_no
  | bad => rw [q] at h3; exact h3.elim
end LD
namespace LD
open PySem PySem.Spec PyProof.Rows L2
/-! ### defs, as printed -/
section
variable {P : Program} {w : World} {K : PySem.W.Frag} {mg : Str → Option Value} {base : Heap}
abbrev Own (X : Cx) : Prop := PassesOwn (model X.prog X.w) X.A X.env X.xe
theorem fn_k {x qual : Str} {params : Arguments} {body : List Stmt} {scope : Scope} {dvs : List V} {kws : List (Str × V)} {f : Addr} {fd : FuncData} {N ps : List Str} {k : Nat} {F : Ev → SR}
    (D : FunD K x qual params body scope dvs kws f fd) (S : FnScope N ps scope) (hle : ps.length ≤ N.length) (hb : Binds K fd ps [])
    (hbody : ∀ (cdv : Value) (A : Around) (outer : List Env) (s : Shared) (H : Hp) (E : XK), Room k (cxOf (L2.CX P w) P w K mg base N qual scope f cdv A outer s H E).A → Takes (cxOf (L2.CX P w) P w K mg base N qual scope f cdv A outer s H E) (fun cls d _ H' => E cls d H') →
      Own (cxOf (L2.CX P w) P w K mg base N qual scope f cdv A outer s H E) → PSSD (cxOf (L2.CX P w) P w K mg base N qual scope f cdv A outer s H E) (fun cls d _ H' => E cls d H') body F) : FO P w K mg base (k + 1) f ps (spD K (mir N.length ps.length F)) :=
  ⟨fd, fn_d D S hle fun cdv A outer s H E hr => hbody cdv A outer s H E hr (takes_of rfl rfl rfl rfl) (passes_of rfl), hb⟩
theorem fn_ki {x qual : Str} {params : Arguments} {body : List Stmt} {scope : Scope} {dvs : List V} {kws : List (Str × V)} {f : Addr} {fd : FuncData} {N ps : List Str} {k n : Nat} {F : Ev → SR}
    (D : FunD K x qual params body scope dvs kws f fd) (S : FnScope N ps scope) (hn : ps.length = n + 1) (hle : ps.length ≤ N.length) (hb : Binds K fd ps [])
    (hbody : ∀ (cdv : Value) (A : Around) (outer : List Env) (s : Shared) (H : Hp) (E : XK), Room k (cxOf (L2.CX P w) P w K mg base N qual scope f cdv A outer s H E).A → Takes (cxOf (L2.CX P w) P w K mg base N qual scope f cdv A outer s H E) (fun cls d _ H' => E cls d H') →
      Own (cxOf (L2.CX P w) P w K mg base N qual scope f cdv A outer s H E) → PSSD (cxOf (L2.CX P w) P w K mg base N qual scope f cdv A outer s H E) (fun cls d _ H' => E cls d H') body F) : FO P w K mg base (k + 1) f ps (spI K n (imi N.length n F)) :=
  ⟨fd, fn_init D S hn hle fun cdv A outer s H E hr => hbody cdv A outer s H E hr (takes_of rfl rfl rfl rfl) (passes_of rfl), hb⟩
theorem fn_ks {cn name qual : Str} {params : Arguments} {scope : Scope} {f f2 : Addr} {fd : FuncData} {N ps ps2 : List Str} {k n n2 : Nat} {mi : Imi} {fes : Ev → R (List DV)} {F : Ev → SR} {e : Expr} {es : List Expr} {rest : List Stmt} {p0 p1 p2 p3 p4 : Pos} {a0 : Str} {ar : Arg}
    (D : SupK P K cn name qual params (.Expr (.Call (.Attribute (.Call (.Name "super" p0) [] [] p1) "__init__" p2) (e :: es) [] p3) p4 :: rest) scope f fd f2) (S : NdefX.NScope N ps ["__class__"] scope) (hn : ps.length = n + 1) (hps : ps[0]? = some a0)
    (hp : (params.posonlyargs ++ params.args).head? = some ar) (har : ar.arg = a0) (hks : scope.names.lookup ("super" : Str) = some .globalImplicit)
    (htop : (P.main.scope.names.lookup ("super" : Str)).isSome = false) (hsup : mg "super" = none) (hb : Binds K fd ps [])
    (F2 : FO P w K mg base k f2 ps2 (spI K n2 mi))
    (hargs : ∀ (NF : NdefX.NF) (A : Around) (outer : List Env) (s : Shared) (H : Hp) (E : XK), NF.scope = scope → NF.qual = qual → Room k (NdefX.ncx (L2.CX P w) P w K mg base N NF f A outer s H E).A → Takes (NdefX.ncx (L2.CX P w) P w K mg base N NF f A outer s H E) (fun cls d _ H' => E cls d H') →
      PDA (NdefX.ncx (L2.CX P w) P w K mg base N NF f A outer s H E) (fun cls d _ H' => E cls d H') (e :: es) fes)
    (hrest : ∀ (NF : NdefX.NF) (A : Around) (outer : List Env) (s : Shared) (H : Hp) (E : XK), NF.scope = scope → NF.qual = qual → Room k (NdefX.ncx (L2.CX P w) P w K mg base N NF f A outer s H E).A → Takes (NdefX.ncx (L2.CX P w) P w K mg base N NF f A outer s H E) (fun cls d _ H' => E cls d H') →
      PSSD (NdefX.ncx (L2.CX P w) P w K mg base N NF f A outer s H E) (fun cls d _ H' => E cls d H') rest F)
    (hint : ∀ env : Env, env.scope = scope → interactive env = false := by intro env h; unfold interactive; rw [h]; rfl)
    (hs : ∀ env, swapsWith (.Call (.Attribute (.Call (.Name "super" p0) [] [] p1) "__init__" p2) (e :: es) [] p3) none p4.line env = pure false := by intro _; rfl)
    (he : ∀ env, starEach (e :: es) env = (false, eval e env) :: starEach es env := by intro _; rfl) (hpl : ∀ env, (backTo p3 (starEach es env)).any (·.1) = false := by intro _; rfl)
    (hev : ∀ env, ∃ pl : Sem Bool, eval (.Call (.Attribute (.Call (.Name "super" p0) [] [] p1) "__init__" p2) (e :: es) [] p3) env = (do
      let ov ← attributeBase (.Call (.Name "super" p0) [] [] p1) "__init__" env (eval (.Call (.Name "super" p0) [] [] p1) env)
      standAt p2.atName
      let (f, first) ← holding [ov] (getMethod ov "__init__" pl)
      callWith p3 f first (backTo p3 (starEach (e :: es) env)) []) := by intro _; exact ⟨_, rfl⟩) :
    FO P w K mg base (k + 1) f ps (spI K n (imS cn N.length n fes mi n2 F)) := by
  obtain ⟨fd2, F2, hb2⟩ := F2
  exact ⟨fd, fn_initS D S hn hps hp har hks htop hsup F2 hb2 (fun NF A outer s H E h1 h2 hr => hargs NF A outer s H E h1 h2 hr (takes_of rfl rfl rfl rfl)) (fun NF A outer s H E h1 h2 hr => hrest NF A outer s H E h1 h2 hr (takes_of rfl rfl rfl rfl)) hint hs he hpl hev, hb⟩
end
/-! ### a property of several classes -/
def ppsB (cs : List Str) (f bn : Str) : Fk := fun K => cs.all fun c => kcB c K && (propB c f K && decide ((Wh.prop c f).adr K = (Wh.prop bn f).adr K))
def xProps (cs : List Str) (m : Mir) (fa : Ev → R DV) : Ev → R DV := fun δ => (fa δ).bind fun d => match d with
  | .obj c fs => if cs.contains c then noX (m [.obj c fs]) else .bad
  | _ => .bad
theorem k_props {X : Cx} {W : WX} {a : Expr} {fa : Ev → R DV} {pos : Pos} {k j : Nat} {ps : List Str} {m : Mir} {cs : List Str} {bn f : Str} (hp : ppsB cs f bn X.K = true) (F : FO X.prog X.w X.K X.mg X.base k ((Wh.prop bn f).adr X.K) ps (spD X.K m)) (hr : Room j X.A) (hj : k + 1 ≤ j)
    (A : PD X W a fa) (hab : attributeBase a f X.env (eval a X.env) = eval a X.env := by rfl) : PD X W (.Attribute a f pos) (xProps cs m fa) := by
  obtain ⟨fd, F, hb⟩ := F
  obtain ⟨ta, pa, ha⟩ := A.ex
  refine ⟨fun σ H Q => ta σ H fun x H1 => ∃ c, cs.contains c = true ∧ ∃ a dx fs, x = .ref a ∧ H1 a = some (.ins (He.ga X.K c) dx fs) ∧ spD X.K m [.ref a] H1 Q E0, ⟨fun pins s σ H Q I h => ?_⟩, fun {B0 G H δ σ Q} S h => ?_⟩
  · have h' : ta σ H fun x H1 => ∃ c, cs.contains c = true ∧ ∃ a dx fs, x = .ref a ∧ H1 a = some (.ins (He.ga X.K c) dx fs) ∧ spD X.K m [.ref a] H1 Q E0 := h
    refine attr_of hab (thn (pa.run pins s σ H _ I h') fun u s1 ⟨v, H1, I1, r1, c, hc, a1, dx, fs, ev, ea, q⟩ => ?_)
    subst ev
    obtain rfl : u = Value.ref a1 := r1
    obtain ⟨k1, k2⟩ := He.ba (List.all_eq_true.mp hp c (by simpa using hc))
    obtain ⟨k2, k3⟩ := He.ba k2
    have po := propB_ok k2
    rw [of_decide_eq_true k3] at po
    exact getprop_ok (dvs := []) (ds := []) (E := E0) I1 ea (kcB_ok k1).cl po F (hr.mono hj) hb .nil passL q
  · refine ha S (Rq.bind (rep := DRep X.K) h fun d e v H1 G1 t1 r1 h1 => ?_)
    cases r1 with
    | obj e1 r =>
      rename_i a1 dx c vs fs
      have h2 : Rq X.K (DRep X.K) (fun c d H' => W c d σ H') G1 H1 (if cs.contains c = true then noX (m [.obj c fs]) else .bad) Q := h1
      by_cases q : cs.contains c = true
      · rw [if_pos q] at h2
        exact ⟨c, q, _, _, _, rfl, t1.gh _ _ e1, G1, [.obj c fs], t1.gh, .cons (.obj e1 r) .nil, Rq.noX h2⟩
      · rw [if_neg q] at h2; exact h2.elim
    | _ => exact h1.elim
end LD
namespace LD
def sFz (i : Nat) (F : Ev → SR) : Ev → SR := fun δ => F (frz δ i)
def xIt (as_ : List DV → R (List DV)) (fes : Ev → R (List DV)) : Ev → R (List DV) := fun δ => (fes δ).bind as_
def sBk : Ev → SR := fun δ => .bk δ
def sCt : Ev → SR := fun δ => .ct δ
end LD
namespace LD
open PySem PySem.Spec PyProof.Rows L2
theorem FO.mono {P : Program} {w : World} {K : PySem.W.Frag} {mg : Str → Option Value} {base : Heap} {k j : Nat} {f : Addr} {ps : List Str} {sp : Sp} (F : FO P w K mg base k f ps sp) (h : k ≤ j) : FO P w K mg base j f ps sp :=
  let ⟨fd, a, b⟩ := F
  ⟨fd, a.mono h, b⟩
end LD

set_option maxHeartbeats 2000000
/-! Layer D, part L: a law's end. -/
namespace LD
open PySem PySem.Spec PyProof.Rows L2
section
variable {P : Program} {w : World} {K : PySem.W.Frag} {mg : Str → Option Value} {base : Heap}
/-- the law's own def: the function object first, the promise over every base -/
def FL (P : Program) (w : World) (K : PySem.W.Frag) (mg : Str → Option Value) (k : Nat) (f : Addr) (x : Str) (m : Mir) : Prop :=
  ∃ fd : FuncData, (∀ (s : Shared) (v : Value), BindsTo s fd ⟨[v], []⟩ [(x, v)]) ∧ ∀ base : Heap, FnOk P w K mg base (L2.CX P w) k f fd [x] (spD K m)
theorem fn_kl {x y qual : Str} {params : Arguments} {body : List Stmt} {scope : Scope} {f : Addr} {fd : FuncData} {N : List Str} {k : Nat} {F : Ev → SR}
    (D : FunD K x qual params body scope [] [] f fd) (S : FnScope N [y] scope) (hle : [y].length ≤ N.length) (hb : ∀ (kV doc pm : Value) (an : Option Addr) (cdv ct : Value) (us : List Value), us.length = [y].length → bindArgs (PySem.W.fnOf x qual params body scope .none kV doc pm an cdv ct) ⟨us, []⟩ = pure ([y].zip us))
    (hbody : ∀ (base : Heap) (cdv : Value) (A : Around) (outer : List Env) (s : Shared) (H : Hp) (E : XK), Room k (cxOf (L2.CX P w) P w K mg base N qual scope f cdv A outer s H E).A → Takes (cxOf (L2.CX P w) P w K mg base N qual scope f cdv A outer s H E) (fun cls d _ H' => E cls d H') →
      Own (cxOf (L2.CX P w) P w K mg base N qual scope f cdv A outer s H E) → PSSD (cxOf (L2.CX P w) P w K mg base N qual scope f cdv A outer s H E) (fun cls d _ H' => E cls d H') body F) : FL P w K mg (k + 1) f y (mir N.length 1 F) :=
  ⟨fd, fun s v => FunD.bindsA (ps := [y]) D hb s [v] rfl, fun base => fn_d D S hle fun cdv A outer s H E hr => hbody base cdv A outer s H E hr (takes_of rfl rfl rfl rfl) (passes_of rfl)⟩
theorem to0 {k : Nat} {f : Addr} {fd : FuncData} {ps : List Str} {sp : Sp} (F : FnOk P w K mg base (L2.CX P w) k f fd ps sp) : FnOk P w K mg base CX0 k f fd ps (fun vs H Q _ => sp vs H Q fun _ _ _ => False) := by
  refine ⟨fun vs H Q E h => F.len _ _ _ _ h, fun A outer s H args us vs Q E hr e0 hb r h => ?_⟩
  refine codeAny_mono (F.run A outer s H args us vs Q (fun _ _ _ => False) hr e0 hb r h) fun r s' hq => ?_
  cases r with
  | error e =>
    obtain ⟨_, _, _, _, _, _, _, _, _, _, _, _, z⟩ := hq
    exact z.elim
  | ok fl => cases fl <;> exact hq
theorem sp_law {m : Mir} {n : Nat} (hm : ∀ ns : List Int, ns.length ≤ n → m [.ro (ns.map DV.int)] = .ok (.bl true)) {H : Hp} {a : Addr} {ns : List Int} (hl : ns.length ≤ n) (hS : SqL K H a (ns.map V.int)) :
    spD K m [.ref a] H (fun v _ => v = .bl true) fun _ _ _ => False := by
  refine ⟨H, [.ro (ns.map DV.int)], Same.refl _, .cons (.ro hS (DReps.ints ns)) .nil, ?_⟩
  rw [hm ns hl]
  intro v H' G' t r
  cases r
  rfl
end
/-- the end: what walk_ofE wants -/
theorem law_F {l : PySem.W.OpenLaw} {fa : List Fk} {fn : List DefE} {n k i : Nat} {x : Str} {m : Mir} {name : Str} (hi : fa[i]? = some (glB "law"))
    (ok : ∀ {w : World} {K : PySem.W.Frag} {mg : Str → Option Value}, Fx l.prog fa fn K mg → FL l.prog w K mg k (He.ga K "law") x m) (hm : ∀ ns : List Int, ns.length ≤ n → m [.ro (ns.map DV.int)] = .ok (.bl true)) (hn : name = "law") :
    ∀ (w : World) (mg : Str → Option Value) (f : Addr) (h : Heap), (∃ K : PySem.W.Frag, K.In h ∧ SaysL l.prog fa fn K) → h.Ns mainGlobals mg → mg name = some (.ref f) →
      ∃ (K : PySem.W.Frag) (fd : FuncData) (sp : Sp), K.In h ∧ (∀ (s : Shared) (u : Value), BindsTo s fd ⟨[u], []⟩ [(x, u)]) ∧
        (∀ (H : Hp) (a : Addr) (ns : List Int), ns.length ≤ n → Only H → SqL K H a (ns.map V.int) → sp [.ref a] H (fun v _ => v = .bl true) fun _ _ _ => False) ∧
        ∀ base : Heap, K.In base → base.Ns mainGlobals mg → FnOk l.prog w K mg base CX0 k f fd [x] sp := by
  intro w mg f h ⟨K, KX, c⟩ G hmg
  subst hn
  have X : Fx l.prog fa fn K mg := ⟨⟨h, KX, G⟩, c⟩
  obtain ⟨fd, hb, hF⟩ := ok (w := w) X
  have e := hmg.symm.trans (X.gl (n := "law") (X.f i hi))
  cases e
  exact ⟨K, fd, fun vs H Q _ => spD K m vs H Q fun _ _ _ => False, KX, hb, fun H a ns hl _ hS => sp_law hm hl hS, fun base _ _ => to0 (hF base)⟩
end LD

set_option maxHeartbeats 2000000
/-! Layer D, part S: the readings' equations, for simp. -/
namespace LD
open PySem PySem.Spec PyProof.Rows L2
section
variable {op : DV → DV → R DV} {o1 : DV → R DV} {a b c : Ev → R DV} {ga gb : Ev → R Bool} {es : Ev → R (List DV)} {δ : Ev} {m : Mir} {d : DV} {F F' : Ev → SR} {α : Type}
@[simp] theorem e_xC : xC d δ = .ok d := rfl
@[simp] theorem e_xOp : xOp op a b δ = (a δ).bind fun x => (b δ).bind fun y => op x y := rfl
@[simp] theorem e_xUn : xUn o1 a δ = (a δ).bind o1 := rfl
@[simp] theorem e_xTest : xTest a δ = (a δ).bind asB := rfl
@[simp] theorem e_xIf : xIf ga a b δ = (ga δ).bind fun z => if z = true then a δ else b δ := rfl
@[simp] theorem e_xAnd : xAnd ga gb δ = (ga δ).bind fun z => if z = true then gb δ else .ok false := rfl
@[simp] theorem e_xOr : xOr ga gb δ = (ga δ).bind fun z => if z = true then .ok true else gb δ := rfl
@[simp] theorem e_xNot : xNot ga δ = (ga δ).bind fun z => .ok (!z) := rfl
@[simp] theorem e_xAndV : xAndV a b δ = (a δ).bind fun x => (asB x).bind fun z => if z = true then b δ else .ok (.bl false) := rfl
@[simp] theorem e_xOrV : xOrV a b δ = (a δ).bind fun x => (asB x).bind fun z => if z = true then .ok (.bl true) else b δ := rfl
@[simp] theorem e_xNotV : xNotV a δ = (a δ).bind fun x => (asB x).bind fun z => .ok (.bl (!z)) := rfl
@[simp] theorem e_xNil : xNil δ = .ok [] := rfl
@[simp] theorem e_xCons : xCons a es δ = (a δ).bind fun x => (es δ).bind fun xs => .ok (x :: xs) := rfl
@[simp] theorem e_xTup : xTup es δ = (es δ).bind fun xs => if small xs.length = true then .ok (.tup xs) else .bad := rfl
@[simp] theorem e_xLst : xLst es δ = (es δ).bind fun xs => if small xs.length = true then .ok (.lst xs) else .bad := rfl
@[simp] theorem e_xCall : xCall m es δ = (es δ).bind m := rfl
@[simp] theorem e_xCB {op : List DV → R DV} : xCB op es δ = (es δ).bind op := rfl
@[simp] theorem e_xIsi {tab} : xIsi tab a δ = (a δ).bind (oIsi tab) := rfl
@[simp] theorem e_xChain {o o' : DV → DV → R DV} : xChain o o' a b c δ = (a δ).bind fun x => (b δ).bind fun y => (o x y).bind fun z => (asB z).bind fun k => if k = true then (c δ).bind fun w => o' y w else .ok (.bl false) := rfl
@[simp] theorem e_xSrc {as_ : DV → R (List DV)} : xSrc as_ a δ = (a δ).bind as_ := rfl
@[simp] theorem e_xIt {as_ : List DV → R (List DV)} : xIt as_ es δ = (es δ).bind as_ := rfl
@[simp] theorem e_xPart : xPart a δ = (a δ).bind asI := rfl
@[simp] theorem e_xNo : xNo δ = .ok none := rfl
@[simp] theorem e_xSl {l u : Ev → R (Option Int)} : xSl a l u δ = (a δ).bind fun x => (l δ).bind fun l => (u δ).bind fun u => oSl x l u := rfl
@[simp] theorem e_xYes : xYes δ = .ok true := rfl
@[simp] theorem e_asB {b : Bool} : asB (.bl b) = .ok b := rfl
@[simp] theorem e_asI {i : Int} : asI (.int i) = .ok (some i) := rfl
@[simp] theorem e_v0 {s : Sl} {r : Ev} {d : DV} : xVar 0 (.pu d :: r) = .ok d := rfl
@[simp] theorem e_vs {i : Nat} {s : Sl} {r : Ev} : xVar (i + 1) (s :: r) = xVar i r := rfl
@[simp] theorem e_v1 {s0 : Sl} {r : Ev} : xVar 1 (s0 :: r) = xVar 0 r := rfl
@[simp] theorem e_v2 {s0 s1 : Sl} {r : Ev} : xVar 2 (s0 :: s1 :: r) = xVar 0 r := rfl
@[simp] theorem e_v3 {s0 s1 s2 : Sl} {r : Ev} : xVar 3 (s0 :: s1 :: s2 :: r) = xVar 0 r := rfl
@[simp] theorem e_v4 {s0 s1 s2 s3 : Sl} {r : Ev} : xVar 4 (s0 :: s1 :: s2 :: s3 :: r) = xVar 0 r := rfl
@[simp] theorem e_v5 {s0 s1 s2 s3 s4 : Sl} {r : Ev} : xVar 5 (s0 :: s1 :: s2 :: s3 :: s4 :: r) = xVar 0 r := rfl
@[simp] theorem e_v6 {s0 s1 s2 s3 s4 s5 : Sl} {r : Ev} : xVar 6 (s0 :: s1 :: s2 :: s3 :: s4 :: s5 :: r) = xVar 0 r := rfl
@[simp] theorem e_v7 {s0 s1 s2 s3 s4 s5 s6 : Sl} {r : Ev} : xVar 7 (s0 :: s1 :: s2 :: s3 :: s4 :: s5 :: s6 :: r) = xVar 0 r := rfl
@[simp] theorem e_v8 {s0 s1 s2 s3 s4 s5 s6 s7 : Sl} {r : Ev} : xVar 8 (s0 :: s1 :: s2 :: s3 :: s4 :: s5 :: s6 :: s7 :: r) = xVar 0 r := rfl
@[simp] theorem e_v9 {s0 s1 s2 s3 s4 s5 s6 s7 s8 : Sl} {r : Ev} : xVar 9 (s0 :: s1 :: s2 :: s3 :: s4 :: s5 :: s6 :: s7 :: s8 :: r) = xVar 0 r := rfl
@[simp] theorem e_gN {i : Nat} : gN i d δ = .ok (δ.set i (.pu d)) := rfl
@[simp] theorem e_gsNil : gsNil [] δ = .ok δ := rfl
@[simp] theorem e_gsCons {g : DV → Ev → R Ev} {gs : List DV → Ev → R Ev} {ds : List DV} : gsCons g gs (d :: ds) δ = (g d δ).bind (gs ds) := rfl
@[simp] theorem e_gT {n : Nat} {gs : List DV → Ev → R Ev} {ds : List DV} : gT n gs (.tup ds) δ = if Nat.beq ds.length n then gs ds δ else .bad := rfl
@[simp] theorem e_xS_ok {x : α} {k : α → SR} : xS (.ok x) δ k = k x := rfl
@[simp] theorem e_xS_exc {cl fs} {k : α → SR} : xS (.exc cl fs) δ k = .ex cl fs δ := rfl
@[simp] theorem e_xS_bad {k : α → SR} : xS (.bad : R α) δ k = .bad := rfl
@[simp] theorem e_sNx : sNx δ = .nx δ := rfl
@[simp] theorem e_sRet : sRet a δ = xS (a δ) δ .rt := rfl
@[simp] theorem e_sSet {i : Nat} : sSet i a δ = xS (a δ) δ fun d => .nx (δ.set i (.pu d)) := rfl
@[simp] theorem e_sPar {i j : Nat} : sPar i j a b δ = xS (a δ) δ fun d => xS (b δ) δ fun d' => .nx ((δ.set i (.pu d)).set j (.pu d')) := rfl
@[simp] theorem e_sIf : sIf ga F F' δ = xS (ga δ) δ fun z => if z = true then F δ else F' δ := rfl
@[simp] theorem e_sDrop : sDrop a δ = xS (a δ) δ fun _ => .nx δ := rfl
/-- one statement after another -/
def SR.andThen (r : SR) (F : Ev → SR) : SR := match r with
  | .nx δ => F δ
  | r => r
@[simp] theorem e_sSeq : sSeq F F' δ = (F δ).andThen F' := rfl
@[simp] theorem e_nx {δ : Ev} : (SR.nx δ).andThen F = F δ := rfl
@[simp] theorem e_rt : (SR.rt d).andThen F = .rt d := rfl
@[simp] theorem e_ex {cl fs} : (SR.ex cl fs δ).andThen F = .ex cl fs δ := rfl
@[simp] theorem e_bk {δ : Ev} : (SR.bk δ).andThen F = .bk δ := rfl
@[simp] theorem e_ct {δ : Ev} : (SR.ct δ).andThen F = .ct δ := rfl
@[simp] theorem e_bd : SR.bad.andThen F = .bad := rfl
@[simp] theorem e_sAsg {g : DV → Ev → R Ev} : sAsg a g δ = xS (a δ) δ fun d => match g d δ with
  | .ok δ' => .nx δ'
  | _ => .bad := rfl
@[simp] theorem e_sRaise {cl : Str} {f : Ev → R (List (Str × DV))} : sRaise cl f δ = match f δ with
  | .ok fs => .ex cl fs δ
  | _ => .bad := rfl
@[simp] theorem e_sFor {fi : Ev → R (List DV)} {g : DV → Ev → R Ev} : sFor fi g F δ = xS (fi δ) δ fun ds => forD g F ds δ := rfl
@[simp] theorem e_sSetLc {i : Nat} {f : Ev → R (List DV)} : sSetLc i f δ = xS (f δ) δ fun ys => .nx (δ.set i (.pu (.lst ys))) := rfl
@[simp] theorem e_sSetLcO {i : Nat} {f : Ev → R (List DV)} : sSetLcO i f δ = xS (f δ) δ fun ys => .nx (δ.set i (.ol ys)) := rfl
@[simp] theorem e_sFz {i : Nat} : sFz i F δ = F (frz δ i) := rfl
@[simp] theorem e_lc {vs fi g ft fe} : xLc vs fi g ft fe δ = (xLcs vs fi g ft fe δ).bind fun ys => .ok (.lst ys) := rfl
@[simp] theorem e_lcs {vs fi g ft fe} : xLcs vs fi g ft fe δ = (fi δ).bind fun ds => (lcD g ft fe (wipeD δ vs) ds).bind fun ys => if small ys.length = true then .ok ys else .bad := rfl
@[simp] theorem e_wn : wipeD δ [] = δ := rfl
@[simp] theorem e_wc {i : Nat} {vs : List Nat} : wipeD δ (i :: vs) = (wipeD δ vs).set i .un := rfl
@[simp] theorem e_asN {i : Int} : asRange1 [.int i] = if rng62 i then .ok (intsFrom 0 i.toNat) else .bad := rfl
end
/-- a def's end -/
def outR : SR → R DV
  | .nx _ => .ok .non
  | .rt d => .ok d
  | .ex c fs _ => .exc c fs
  | _ => .bad
@[simp] theorem outR_nx {δ : Ev} : outR (.nx δ) = .ok .non := rfl
@[simp] theorem outR_rt {d : DV} : outR (.rt d) = .ok d := rfl
@[simp] theorem outR_ex {c fs} {δ : Ev} : outR (.ex c fs δ) = .exc c fs := rfl
@[simp] theorem e_sFld {cs : List Str} {f : Str} {a : Ev → R DV} {c : Str} {fs : List (Str × DV)} {r : Ev} : sFldD cs 0 f a (.oo c fs :: r) = xS (a (.oo c fs :: r)) (.oo c fs :: r) fun d => if (cs.contains c && Nat.blt fs.length 1000) = true then .nx (.oo c (putD f d fs) :: r) else .bad := rfl
/-- an __init__'s end -/
def outI (c : Str) : SR → R (List (Str × DV))
  | .nx δ => (match (δ[0]? : Option Sl) with
    | some (Sl.oo c' fs') => if c' = c then .ok fs' else .bad
    | _ => .bad)
  | .ex c fs _ => .exc c fs
  | _ => .bad
@[simp] theorem outI_nx {c : Str} {fs : List (Str × DV)} {r : Ev} : outI c (.nx (.oo c fs :: r)) = .ok fs := by
  show (if c = c then R.ok fs else .bad) = _
  rw [if_pos rfl]
@[simp] theorem outI_ex {c cl : Str} {fs : List (Str × DV)} {r : Ev} : outI c (.ex cl fs r) = .exc cl fs := rfl
theorem imi_ev {n p : Nat} {F : Ev → SR} {c : Str} {fs : List (Str × DV)} {ds : List DV} : imi n p F c fs ds = if Nat.beq ds.length p then outI c (F (Sl.oo c fs :: (ds.map Sl.pu ++ List.replicate (n - (p + 1)) Sl.un))) else .bad := rfl
theorem imS_ev {cn : Str} {n p n2 : Nat} {fes : Ev → R (List DV)} {mi : Imi} {F : Ev → SR} {fs : List (Str × DV)} {ds : List DV} (h : Nat.beq ds.length p = true) :
    imS cn n p fes mi n2 F cn fs ds = (fes (Sl.oo cn fs :: (ds.map Sl.pu ++ List.replicate (n - (p + 1)) Sl.un))).bind fun ds2 => if Nat.beq ds2.length n2 = true then (mi cn fs ds2).bind fun fs2 => outI cn (F (Sl.oo cn fs2 :: (ds.map Sl.pu ++ List.replicate (n - (p + 1)) Sl.un))) else .bad := by
  unfold imS
  rw [if_pos (by rw [h, beq_self_eq_true]; rfl)]
  rfl
@[simp] theorem e_xMake {c : Str} {n : Nat} {mi : Imi} {es : Ev → R (List DV)} {δ : Ev} : xMake c n mi es δ = (es δ).bind fun ds => if Nat.beq ds.length n then (mi c [] ds).bind fun fs => .ok (.obj c fs) else .bad := rfl
@[simp] theorem e_sTry {tab : List (Str × Bool)} {F F2 : Ev → SR} {δ : Ev} : sTry tab F F2 δ = match F δ with
  | .ex c fs δ' => (match tab.lookup c with
    | some true => noXS (F2 δ')
    | some false => .ex c fs δ'
    | none => .bad)
  | r => r := rfl
@[simp] theorem e_xIxO1 {a : Ev → R DV} {s0 : Sl} {ds : List DV} {r : Ev} : xIxO 1 a (s0 :: .ol ds :: r) = (a (s0 :: .ol ds :: r)).bind fun k => oIx (.lst ds) k := rfl
@[simp] theorem e_sApp1 {a : Ev → R DV} {s0 : Sl} {ds : List DV} {r : Ev} : sApp 1 a (s0 :: .ol ds :: r) = xS (a (s0 :: .ol ds :: r)) (s0 :: .ol ds :: r) fun d => if Nat.blt ds.length 16777216 = true then .nx (s0 :: .ol (ds ++ [d]) :: r) else .bad := rfl
@[simp] theorem e_frz1 {s0 : Sl} {ds : List DV} {r : Ev} : frz (s0 :: .ol ds :: r) 1 = s0 :: .pu (.lst ds) :: r := rfl
/-! ### comprehensions, as maps -/
/-- every turn gives a value of which P holds -/
theorem lcD_ex {g : DV → Ev → R Ev} {fe : Ev → R DV} {δ : Ev} {P : DV → DV → Prop} : ∀ {ds : List DV}, (∀ d ∈ ds, ∃ δ' y, g d δ = .ok δ' ∧ fe δ' = .ok y ∧ P d y) → ∃ ys, lcD g xYes fe δ ds = .ok ys ∧ ys.length = ds.length ∧ ∀ y ∈ ys, ∃ d ∈ ds, P d y
  | [], _ => ⟨[], rfl, rfl, fun y h => by cases h⟩
  | d :: ds, q => by
    obtain ⟨δ', y, h1, h2, h3⟩ := q d List.mem_cons_self
    obtain ⟨ys, e, l, p⟩ := lcD_ex (ds := ds) fun d hd => q d (List.mem_cons_of_mem _ hd)
    refine ⟨y :: ys, ?_, by rw [List.length_cons, List.length_cons, l], fun z hz => ?_⟩
    · unfold lcD
      rw [h1]
      dsimp only
      show (noX (R.ok true)).bind _ = _
      simp only [noX, R.bind_ok, if_true]
      rw [h2]
      simp only [noX, R.bind_ok]
      rw [e]
      rfl
    · rcases List.mem_cons.mp hz with rfl | hz
      · exact ⟨d, List.mem_cons_self, h3⟩
      · obtain ⟨d', h, hp⟩ := p z hz
        exact ⟨d', List.mem_cons_of_mem _ h, hp⟩
theorem ints_mem {lo : Int} {n : Nat} {d : DV} (h : d ∈ intsFrom lo n) : ∃ t : Int, d = .int t ∧ lo ≤ t ∧ t < lo + n := by
  obtain ⟨i, hi, rfl⟩ := List.mem_map.mp h
  have := List.mem_range.mp hi
  exact ⟨lo + i, rfl, by omega, by omega⟩
theorem of_all {α : Type} {P : α → Prop} {f : α → DV} : ∀ {ys : List DV}, (∀ y ∈ ys, ∃ p, P p ∧ y = f p) → ∃ ps : List α, ys = ps.map f ∧ ∀ p ∈ ps, P p
  | [], _ => ⟨[], rfl, fun p h => by cases h⟩
  | y :: ys, h => by
    obtain ⟨p, hp, rfl⟩ := h y List.mem_cons_self
    obtain ⟨ps, rfl, hps⟩ := of_all (ys := ys) fun z hz => h z (List.mem_cons_of_mem _ hz)
    exact ⟨p :: ps, rfl, fun q hq => by
      rcases List.mem_cons.mp hq with rfl | hq
      · exact hp
      · exact hps q hq⟩
theorem zip_map {α : Type} (f g : α → DV) : ∀ ps : List α, zipD (ps.map f) (ps.map g) = ps.map fun p => .tup [f p, g p]
  | [] => rfl
  | p :: ps => by show _ :: zipD (ps.map f) (ps.map g) = _; rw [zip_map f g ps]; rfl
/-- every turn gives its value -/
theorem lcD_map {g : DV → Ev → R Ev} {ft : Ev → R Bool} {fe : Ev → R DV} {δ : Ev} {h : DV → DV} : ∀ {ds : List DV}, (∀ d ∈ ds, ∃ δ', g d δ = .ok δ' ∧ ft δ' = .ok true ∧ fe δ' = .ok (h d)) → lcD g ft fe δ ds = .ok (ds.map h)
  | [], _ => rfl
  | d :: ds, q => by
    obtain ⟨δ', h1, h2, h3⟩ := q d List.mem_cons_self
    unfold lcD
    rw [h1]
    dsimp only
    rw [h2]
    simp only [noX, R.bind_ok, if_true]
    rw [h3]
    simp only [noX, R.bind_ok]
    rw [lcD_map fun d hd => q d (List.mem_cons_of_mem _ hd)]
    rfl
theorem lcD_yes {g : DV → Ev → R Ev} {fe : Ev → R DV} {δ : Ev} {h : DV → DV} {ds : List DV} (q : ∀ d ∈ ds, ∃ δ', g d δ = .ok δ' ∧ fe δ' = .ok (h d)) : lcD g xYes fe δ ds = .ok (ds.map h) :=
  lcD_map fun d hd => let ⟨δ', h1, h2⟩ := q d hd; ⟨δ', h1, rfl, h2⟩
@[simp] theorem small_ok {n : Nat} (h : n ≤ 16777216) : small n = true := Nat.ble_eq_true_of_le h
/-- a loop whose turns leave a state of one kind -/
theorem forD_inv {g : DV → Ev → R Ev} {F : Ev → SR} (I : List DV → Ev → Prop) (hs : ∀ d ds δ, I (d :: ds) δ → ∃ δ1 δ2, g d δ = .ok δ1 ∧ F δ1 = .nx δ2 ∧ I ds δ2) : ∀ (ds : List DV) (δ : Ev), I ds δ → ∃ δ', forD g F ds δ = .nx δ' ∧ I [] δ'
  | [], δ, i => ⟨δ, rfl, i⟩
  | d :: ds, δ, i => by
    obtain ⟨δ1, δ2, h1, h2, h3⟩ := hs d ds δ i
    obtain ⟨δ', h4, h5⟩ := forD_inv I hs ds δ2 h3
    refine ⟨δ', ?_, h5⟩
    unfold forD
    rw [h1]
    dsimp only
    rw [h2]
    exact h4
end LD

set_option maxHeartbeats 2000000
/-! Layer D, part T: small laws of the data. -/
namespace LD
open PySem PySem.Spec PyProof.Rows L2
@[simp] theorem asInts_map (ns : List Int) : asInts (ns.map DV.int) = some ns := by
  induction ns with
  | nil => rfl
  | cons n ns ih => show (asInts (ns.map DV.int)).map (n :: ·) = _; rw [ih]; rfl
@[simp] theorem asBls_map (ns : List Bool) : asBls (ns.map DV.bl) = some ns := by
  induction ns with
  | nil => rfl
  | cons n ns ih => show (asBls (ns.map DV.bl)).map (n :: ·) = _; rw [ih]; rfl
theorem toPys_ints (ns : List Int) : toPys (ns.map DV.int) = some (ns.map PyData.int) := by
  induction ns with
  | nil => rfl
  | cons n ns ih => show (match toPy (.int n), toPys (ns.map DV.int) with | some p, some ps => some (p :: ps) | _, _ => none) = _; rw [ih]; rfl
theorem canAll_ints (ns : List Int) : PyData.canLayAll0 (ns.map PyData.int) = true := by
  induction ns with
  | nil => rfl
  | cons n ns ih => show (PyData.canLay0 (.int n) && PyData.canLayAll0 (ns.map PyData.int)) = true; rw [ih]; rfl
theorem depth_ints (ns : List Int) : PyData.depthAll (ns.map PyData.int) ≤ 1 := by
  induction ns with
  | nil => simp [PyData.depthAll]
  | cons n ns ih => simp [PyData.depthAll, PyData.depth]; exact ih
theorem shaped_ints (ns : List Int) : SeqAt.shaped (.list (ns.map PyData.int)) = true := by
  unfold SeqAt.shaped
  rw [Bool.and_eq_true]
  refine ⟨by show PyData.canLayAll0 _ = true; exact canAll_ints ns, decide_eq_true ?_⟩
  show PyData.depthAll _ + 1 ≤ 64
  have := depth_ints ns
  omega
/-- the script against [] -/
theorem ne_nil (ns : List Int) : oNe (.ro (ns.map DV.int)) (.lst []) = .ok (.bl (!ns.isEmpty)) := by
  have e1 : toPy (.ro (ns.map DV.int)) = some (.list (ns.map PyData.int)) := by
    show (toPys _).map _ = _
    rw [toPys_ints]; rfl
  have e2 : toPy (.lst []) = some (.list []) := rfl
  unfold oNe oEqW
  rw [e1, e2]
  dsimp only
  rw [shaped_ints, show SeqAt.shaped (.list []) = true from rfl]
  cases ns <;> rfl
theorem cut_map {α β : Type} (f : α → β) (xs : List α) (lo hi : Option Int) : cutD (xs.map f) lo hi = (cutD xs lo hi).map f := by
  unfold cutD
  rw [List.length_map, ← List.map_drop, ← List.map_take]
theorem ixN_lt {n : Nat} {i : Int} (h0 : 0 ≤ i) (h : i < n) : ixN n i = some i.toNat := by
  unfold ixN
  rw [if_pos h0, if_pos h]
/-- xs[i % len(xs)] -/
theorem atI_mod {α : Type} [Inhabited α] (xs : List α) (h : xs ≠ []) (i : Int) : ∃ x ∈ xs, atI xs (i % (xs.length : Int)) = some x := by
  have hl : 0 < xs.length := List.length_pos_iff.mpr h
  have h1 := Int.emod_nonneg i (show (xs.length : Int) ≠ 0 by omega)
  have h2 := Int.emod_lt_of_pos i (show (0 : Int) < xs.length by omega)
  have h3 : (i % (xs.length : Int)).toNat < xs.length := by omega
  refine ⟨xs[(i % (xs.length : Int)).toNat], List.getElem_mem h3, ?_⟩
  unfold atI
  rw [ixN_lt h1 h2]
  exact List.getElem?_eq_getElem h3
theorem atI_at {α : Type} (xs : List α) {i : Int} (h0 : 0 ≤ i) (h : i < xs.length) : ∃ x ∈ xs, atI xs i = some x := by
  have h3 : i.toNat < xs.length := by omega
  refine ⟨xs[i.toNat], List.getElem_mem h3, ?_⟩
  unfold atI
  rw [ixN_lt h0 h]
  exact List.getElem?_eq_getElem h3
theorem inM_of {i : Int} (h1 : -(2 ^ 64) < i) (h2 : i < 2 ^ 64) : inM i = true := by
  unfold inM
  rw [decide_eq_true h1, decide_eq_true h2]; rfl
@[simp] theorem o_sub {i j : Int} : oSub (.int i) (.int j) = .ok (.int (i - j)) := rfl
@[simp] theorem o_add {i j : Int} : oAdd (.int i) (.int j) = .ok (.int (i + j)) := rfl
theorem o_mul1 {i j : Int} (h : inM i = true) : oMul (.int i) (.int j) = .ok (.int (i * j)) := by
  show (if (inM i || inM j) = true then _ else _) = _
  rw [h]; rfl
theorem o_mul2 {i j : Int} (h : inM j = true) : oMul (.int i) (.int j) = .ok (.int (i * j)) := by
  show (if (inM i || inM j) = true then _ else _) = _
  rw [h, Bool.or_true]; rfl
theorem o_div {i j : Int} (h1 : 0 < j) (h2 : j < 1073741824) : oDiv (.int i) (.int j) = .ok (.int (i / j)) := by
  show (if (decide (0 < j) && decide (j < 1073741824)) = true then _ else _) = _
  rw [decide_eq_true h1, decide_eq_true h2]; rfl
theorem o_mod {i j : Int} (h1 : 0 < j) : oMod (.int i) (.int j) = .ok (.int (i % j)) := by
  show (if decide (0 < j) = true then _ else _) = _
  rw [decide_eq_true h1]; rfl
@[simp] theorem o_lt {i j : Int} : oLt (.int i) (.int j) = .ok (.bl (decide (i < j))) := rfl
@[simp] theorem o_le {i j : Int} : oLe (.int i) (.int j) = .ok (.bl (decide (i ≤ j))) := rfl
@[simp] theorem o_gt {i j : Int} : oGt (.int i) (.int j) = .ok (.bl (decide (j < i))) := rfl
@[simp] theorem o_ge {i j : Int} : oGe (.int i) (.int j) = .ok (.bl (decide (j ≤ i))) := rfl
@[simp] theorem o_neg {i : Int} : oNeg (.int i) = .ok (.int (-i)) := rfl
@[simp] theorem o_int {i : Int} : oInt [.int i] = .ok (.int i) := rfl
@[simp] theorem o_lenl {xs : List DV} : oLen [.lst xs] = .ok (.int xs.length) := rfl
@[simp] theorem o_lent {xs : List DV} : oLen [.tup xs] = .ok (.int xs.length) := rfl
@[simp] theorem o_lenr {xs : List DV} : oLen [.ro xs] = .ok (.int xs.length) := rfl
@[simp] theorem o_sum {ns : List Int} : oSum [.lst (ns.map DV.int)] = .ok (.int ns.sum) := by
  show (R.ofO (asInts _)).bind _ = _
  rw [asInts_map]; rfl
@[simp] theorem o_all {ns : List Bool} : oAll [.lst (ns.map DV.bl)] = .ok (.bl (ns.all id)) := by
  show (R.ofO (asBls _)).bind _ = _
  rw [asBls_map]; rfl
@[simp] theorem o_eqi {i j : Int} : oEq (.int i) (.int j) = .ok (.bl (i == j)) := rfl
@[simp] theorem o_nei {i j : Int} : oNe (.int i) (.int j) = .ok (.bl (!(i == j))) := rfl
@[simp] theorem o_eqb {i j : Bool} : oEq (.bl i) (.bl j) = .ok (.bl (i == j)) := rfl
@[simp] theorem o_neb {i j : Bool} : oNe (.bl i) (.bl j) = .ok (.bl (!(i == j))) := rfl
@[simp] theorem o_ixt {xs : List DV} {i : Int} : oIx (.tup xs) (.int i) = R.ofO (atI xs i) := rfl
@[simp] theorem o_ixl {xs : List DV} {i : Int} : oIx (.lst xs) (.int i) = R.ofO (atI xs i) := rfl
@[simp] theorem o_ixr {xs : List DV} {i : Int} : oIx (.ro xs) (.int i) = R.ofO (atI xs i) := rfl
end LD

set_option maxHeartbeats 2000000
/-! Layer D, part M: dicts. -/
namespace LD
open PySem PySem.Spec PyProof.Rows L2

/-! ### nothing told -/
def xBad : Ev → R DV := fun _ => .bad
def xBadT : Ev → R Bool := fun _ => .bad
def sBad : Ev → SR := fun _ => .bad
section
variable {X : Cx} {W : WX} {a b : Expr} {st : Stmt}
theorem d_bad : PD X W a xBad := ⟨fun _ _ _ => False, ⟨fun _ _ _ _ _ _ h => h.elim⟩, fun _ h => h⟩
theorem dt_bad : PDT X W a xBadT := ⟨fun _ _ _ => False, ⟨fun _ _ _ _ _ _ h => h.elim⟩, fun _ h => h⟩
theorem ds_bad : PSD X W st sBad := ⟨fun _ _ _ => False, ⟨fun _ _ _ _ _ _ h => h.elim⟩, fun _ h => h⟩
theorem PE.or {t u : TE} (A : PE X a t) (B : PE X a u) : PE X a (fun σ H Q => t σ H Q ∨ u σ H Q) :=
  ⟨fun pins s σ H Q I h => h.elim (fun z => A.run pins s σ H Q I z) fun z => B.run pins s σ H Q I z⟩
theorem CallR.or {f : Value} {r r' : List V → Hp → VK → Prop} (A : CallR X f r) (B : CallR X f r') : CallR X f (fun xs H Q => r xs H Q ∨ r' xs H Q) :=
  fun pins s σ H xs us Q I r h => h.elim (fun z => A pins s σ H xs us Q I r z) fun z => B pins s σ H xs us Q I r z
end

/-! ### pairs -/
section
variable {K : PySem.W.Frag} {G : Hp} {κ : Type}
inductive RP (K : PySem.W.Frag) (G : Hp) {κ : Type} : List (κ × V) → List (κ × DV) → Prop
  | nil : RP K G [] []
  | cons {k : κ} {v : V} {d : DV} {vs : List (κ × V)} {ds : List (κ × DV)} : DRep K G v d → RP K G vs ds → RP K G ((k, v) :: vs) ((k, d) :: ds)
theorem KReps.to : ∀ {vs : List (Key × V)} {ds : List (Key × DV)}, KReps K G vs ds → RP K G vs ds
  | _, _, .nil => .nil
  | _, _, .cons a b => .cons a (KReps.to b)
theorem RP.k : ∀ {vs : List (Key × V)} {ds : List (Key × DV)}, RP K G vs ds → KReps K G vs ds
  | _, _, .nil => .nil
  | _, _, .cons a b => .cons a (RP.k b)
theorem TReps.to : ∀ {vs : List (List Key × V)} {ds : List (List Key × DV)}, TReps K G vs ds → RP K G vs ds
  | _, _, .nil => .nil
  | _, _, .cons a b => .cons a (TReps.to b)
theorem RP.t : ∀ {vs : List (List Key × V)} {ds : List (List Key × DV)}, RP K G vs ds → TReps K G vs ds
  | _, _, .nil => .nil
  | _, _, .cons a b => .cons a (RP.t b)
theorem RP.length : ∀ {vs : List (κ × V)} {ds : List (κ × DV)}, RP K G vs ds → vs.length = ds.length
  | _, _, .nil => rfl
  | _, _, .cons _ b => by rw [List.length_cons, List.length_cons, b.length]
theorem RP.mono {G' : Hp} (s : Same G G') : ∀ {vs : List (κ × V)} {ds : List (κ × DV)}, RP K G vs ds → RP K G' vs ds
  | _, _, .nil => .nil
  | _, _, .cons a b => .cons (a.mono s) (b.mono s)
theorem RP.keys : ∀ {vs : List (κ × V)} {ds : List (κ × DV)}, RP K G vs ds → vs.map (·.1) = ds.map (·.1)
  | _, _, .nil => rfl
  | _, _, .cons _ b => by rw [List.map_cons, List.map_cons, b.keys]
theorem RP.append {v2 : List (κ × V)} {d2 : List (κ × DV)} : ∀ {vs : List (κ × V)} {ds : List (κ × DV)}, RP K G vs ds → RP K G v2 d2 → RP K G (vs ++ v2) (ds ++ d2)
  | _, _, .nil, h => h
  | _, _, .cons a b, h => .cons a (b.append h)
theorem RP.get : ∀ {vs : List (κ × V)} {ds : List (κ × DV)} {i : Nat} {k : κ} {v : V}, RP K G vs ds → vs[i]? = some (k, v) → ∃ d, ds[i]? = some (k, d) ∧ DRep K G v d
  | _, _, _, _, _, .nil, e => by simp at e
  | _, _, 0, _, _, .cons a b, e => by simp at e; obtain ⟨rfl, rfl⟩ := e; exact ⟨_, rfl, a⟩
  | _, _, i + 1, k, v, .cons a b, e => by simpa using RP.get (i := i) (k := k) (v := v) b (by simpa using e)
variable [DecidableEq κ]
def valD (kvs : List (κ × DV)) (k : κ) : Option DV := (kvs.find? fun kv => decide (kv.1 = k)).map (·.2)
def putKD (kvs : List (κ × DV)) (k : κ) (v : DV) : List (κ × DV) :=
  if (kvs.any fun kv => decide (kv.1 = k)) = true then kvs.map (fun kv => if kv.1 = k then (kv.1, v) else kv) else kvs ++ [(k, v)]
def mergeD (kvs more : List (κ × DV)) : List (κ × DV) := more.foldl (fun acc kv => putKD acc kv.1 kv.2) kvs
theorem RP.val {k : κ} : ∀ {vs : List (κ × V)} {ds : List (κ × DV)}, RP K G vs ds → (valV vs k = none ∧ valD ds k = none) ∨ ∃ v d, valV vs k = some v ∧ valD ds k = some d ∧ DRep K G v d
  | _, _, .nil => .inl ⟨rfl, rfl⟩
  | _, _, .cons (k := k') (v := v) (d := d) (vs := vs) (ds := ds) a b => by
    by_cases h : k' = k
    · exact .inr ⟨v, d, by simp [valV, List.find?_cons, h], by simp [valD, List.find?_cons, h], a⟩
    · have e1 : valV ((k', v) :: vs) k = valV vs k := by simp [valV, List.find?_cons, h]
      have e2 : valD ((k', d) :: ds) k = valD ds k := by simp [valD, List.find?_cons, h]
      rw [e1, e2]
      exact b.val
theorem RP.any {k : κ} : ∀ {vs : List (κ × V)} {ds : List (κ × DV)}, RP K G vs ds → (vs.any fun kv => decide (kv.1 = k)) = (ds.any fun kv => decide (kv.1 = k))
  | _, _, .nil => rfl
  | _, _, .cons _ b => by rw [List.any_cons, List.any_cons, b.any]
theorem RP.put {k : κ} {v : V} {d : DV} {vs : List (κ × V)} {ds : List (κ × DV)} (r : RP K G vs ds) (h : DRep K G v d) : RP K G (putK vs k v) (putKD ds k d) := by
  unfold putK putKD
  rw [r.any]
  split
  · have key : ∀ {vs : List (κ × V)} {ds : List (κ × DV)}, RP K G vs ds → RP K G (vs.map fun kv => if kv.1 = k then (kv.1, v) else kv) (ds.map fun kv => if kv.1 = k then (kv.1, d) else kv) := by
      intro vs ds r
      induction r with
      | nil => exact .nil
      | cons a b ih =>
        rename_i k' v' d' vs' ds'
        rw [List.map_cons, List.map_cons]
        by_cases q : k' = k
        · simp only [q, if_true]; exact .cons h ih
        · simp only [q, if_false]; exact .cons a ih
    exact key r
  · exact r.append (.cons h .nil)
theorem RP.merge {K : PySem.W.Frag} {G : Hp} {more : List (Key × V)} {mds : List (Key × DV)} (h : RP K G more mds) : ∀ {vs : List (Key × V)} {ds : List (Key × DV)}, RP K G vs ds → RP K G (mergeK vs more) (mergeD ds mds) := by
  induction h with
  | nil => exact fun r => r
  | cons a b ih => exact fun r => ih (r.put a)
theorem putKD_len (kvs : List (κ × DV)) (k : κ) (d : DV) : (putKD kvs k d).length ≤ kvs.length + 1 := by
  unfold putKD
  split
  · rw [List.length_map]; omega
  · rw [List.length_append, List.length_singleton]; omega
end

/-! ### keys -/
def asKey : DV → Option Key
  | .int i => some (.inl i)
  | .str x => some (.inr x)
  | _ => none
def kD : Key → DV
  | .inl i => .int i
  | .inr x => .str x
def asKeys : List DV → Option (List Key)
  | [] => some []
  | d :: ds => match asKey d, asKeys ds with
    | some k, some ks => some (k :: ks)
    | _, _ => none
theorem asKey_rep {K : PySem.W.Frag} {G : Hp} {v : V} {d : DV} {k : Key} (r : DRep K G v d) (h : asKey d = some k) : v = kV k := by
  cases r with
  | int i => cases h; rfl
  | str x => cases h; rfl
  | _ => cases h
theorem asKeys_rep {K : PySem.W.Frag} {G : Hp} : ∀ {vs : List V} {ds : List DV} {ks : List Key}, DReps K G vs ds → asKeys ds = some ks → vs = ks.map kV
  | _, _, _, .nil, e => by cases e; rfl
  | _, _, ks, .cons (d := d) (ds := ds) a b, e => by
    unfold asKeys at e
    cases q1 : asKey d with
    | none => rw [q1] at e; cases e
    | some k =>
      cases q2 : asKeys ds with
      | none => rw [q1, q2] at e; cases e
      | some ks' => rw [q1, q2] at e; cases e; rw [asKey_rep a q1, asKeys_rep b q2]; rfl
theorem kD_rep {K : PySem.W.Frag} (G : Hp) : ∀ k : Key, DRep K G (kV k) (kD k)
  | .inl i => .int i
  | .inr x => .str x
/-- what a dict gives for a key: none: not a dict, not a key -/
def dgetD : DV → DV → Option (Option DV)
  | .dic kvs, y => (asKey y).map fun k => valD kvs k
  | .dit kvs, .tup ys => (asKeys ys).map fun k => valD kvs k
  | _, _ => none
theorem dget_rep {K : PySem.W.Frag} {G H : Hp} {x y : V} {dx dy : DV} {o : Option DV} (s : Same G H) (rx : DRep K G x dx) (ry : DRep K G y dy) (h : dgetD dx dy = some o) :
    ∃ a ov, x = .ref a ∧ DGet H a y ov ∧ ((ov = none ∧ o = none) ∨ ∃ v d, ov = some v ∧ o = some d ∧ DRep K G v d) := by
  cases rx with
  | dic e r =>
    rename_i a ob vs ds
    have h : (asKey dy).map (fun k => valD ds k) = some o := h
    cases q : asKey dy with
    | none => rw [q] at h; cases h
    | some k =>
      rw [q] at h
      obtain rfl := Option.some.inj h
      have ek := asKey_rep ry q
      refine ⟨a, valV vs k, rfl, .inl ⟨vs, k, .inr ⟨ob, s _ _ e⟩, ek, rfl⟩, ?_⟩
      rcases r.to.val (k := k) with ⟨h1, h2⟩ | ⟨v, d, h1, h2, h3⟩
      · exact .inl ⟨h1, h2⟩
      · exact .inr ⟨v, d, h1, h2, h3⟩
  | dit e r =>
    rename_i a ob vs ds
    cases ry with
    | tup e2 r2 =>
      rename_i b ws ys
      have h : (asKeys ys).map (fun k => valD ds k) = some o := h
      cases q : asKeys ys with
      | none => rw [q] at h; cases h
      | some k =>
        rw [q] at h
        obtain rfl := Option.some.inj h
        have ek := asKeys_rep r2 q
        refine ⟨a, valV vs k, rfl, .inr ⟨vs, k, b, .inr ⟨ob, s _ _ e⟩, rfl, by rw [← ek]; exact s _ _ e2, rfl⟩, ?_⟩
        rcases r.to.val (k := k) with ⟨h1, h2⟩ | ⟨v, d, h1, h2, h3⟩
        · exact .inl ⟨h1, h2⟩
        · exact .inr ⟨v, d, h1, h2, h3⟩
    | _ => cases h
  | _ => cases h

/-! ### subscripts of all kinds -/
def oIxU (x y : DV) : R DV := match dgetD x y with
  | some (some d) => .ok d
  | some none => .bad
  | none => oIx x y
section
variable {X : Cx} {W : WX} {a b c : Expr} {es : List Expr} {fa fb fc : Ev → R DV} {fes : Ev → R (List DV)} {pos p : Pos} {k : Nat}
theorem d_ixU (hr : Room k X.A) (A : PD X W a fa) (B : PD X W b fb) (hs : PlainIx b := by exact fun _ _ => rfl) (hn : NoSl b := by exact fun _ _ => rfl) : PD X W (.Subscript a b pos) (xOp oIxU fa fb) := by
  obtain ⟨ta, pa, ha⟩ := A.ex
  obtain ⟨tb, pb, hb⟩ := B.ex
  refine ⟨_, PE.or (pe_ix ix_seq pa pb hs) (pe_dget (by have := hr.units; omega) pa pb hn), fun {B0 G H δ σ Q} S h => ?_⟩
  have key : ∀ (P : V → V → Hp → Prop), (∀ x y v w H1 G1, Tr G H G1 H1 → fa δ = .ok x → fb δ = .ok y → DRep X.K G1 v x → DRep X.K G1 w y → Rq X.K (DRep X.K) (fun c d H' => W c d σ H') G1 H1 (oIxU x y) Q → P v w H1) → ta σ H fun v H1 => tb σ H1 fun w H2 => P v w H2 := fun P hP =>
    ha S (Rq.bind (rep := DRep X.K) h fun x ex v H1 G1 t1 r1 h1 => hb (S.step t1) (Rq.bind (rep := DRep X.K) h1 fun y ey w H2 G2 t2 r2 h2 => hP x y v w H2 G2 (t1.trans t2) ex ey (r1.mono t2.gg) r2 h2))
  cases q1 : fa δ with
  | bad => unfold xOp at h; rw [q1] at h; exact h.elim
  | exc c fs => exact .inl (key _ fun x y v w H1 G1 t ex => by rw [q1] at ex; cases ex)
  | ok x =>
    cases q2 : fb δ with
    | bad => unfold xOp at h; rw [q1, q2] at h; exact h.elim
    | exc c fs => exact .inl (key _ fun x y v w H1 G1 t _ ey => by rw [q2] at ey; cases ey)
    | ok y =>
      cases q3 : dgetD x y with
      | none =>
        refine .inl (key (fun v w H1 => rIx X.K v w H1 Q) fun x' y' v w H1 G1 t ex ey rv rw' h1 => ?_)
        rw [q1] at ex; rw [q2] at ey
        cases ex; cases ey
        unfold oIxU at h1
        rw [q3] at h1
        exact od_ix t.gh rv rw' h1
      | some o =>
        refine .inr (key (fun v w H1 => ∃ a u, v = .ref a ∧ DGet H1 a w (some u) ∧ Q u H1) fun x' y' v w H1 G1 t ex ey rv rw' h1 => ?_)
        rw [q1] at ex; rw [q2] at ey
        cases ex; cases ey
        unfold oIxU at h1
        rw [q3] at h1
        obtain ⟨a1, ov, e1, g, z⟩ := dget_rep t.gh rv rw' q3
        rcases z with ⟨z1, z2⟩ | ⟨u, d, z1, z2, z3⟩
        · subst z2; exact h1.elim
        · subst z1 z2
          exact ⟨a1, u, e1, g, Rq.ok_self (rep := DRep X.K) t.gh h1 z3⟩

/-! ### in, not in -/
def flAll : List DV → Option (List V)
  | [] => some []
  | d :: ds => match d.fl, flAll ds with
    | some v, some vs => some (v :: vs)
    | _, _ => none
theorem fl_eq {K : PySem.W.Frag} {G : Hp} {v w : V} {d : DV} (r : DRep K G v d) (h : d.fl = some w) : v = w := by
  cases r with
  | non => cases h; rfl
  | bl b => cases h; rfl
  | int i => cases h; rfl
  | str x => cases h; rfl
  | _ => cases h
theorem flAll_eq {K : PySem.W.Frag} {G : Hp} : ∀ {vs ws : List V} {ds : List DV}, DReps K G vs ds → flAll ds = some ws → vs = ws
  | _, _, _, .nil, e => by cases e; rfl
  | _, ws, _, .cons (d := d) (ds := ds) a b, e => by
    unfold flAll at e
    cases q1 : d.fl with
    | none => rw [q1] at e; cases e
    | some k =>
      cases q2 : flAll ds with
      | none => rw [q1, q2] at e; cases e
      | some ks' => rw [q1, q2] at e; cases e; rw [fl_eq a q1, flAll_eq b q2]
theorem fl_flat {d : DV} {v : V} (h : d.fl = some v) : flatV v = true := by
  cases d with
  | non => cases h; rfl
  | bl b => cases h; rfl
  | int i => cases h; rfl
  | str x => cases h; rfl
  | _ => cases h
theorem flAll_flat : ∀ {ds : List DV} {vs : List V}, flAll ds = some vs → vs.all flatV = true
  | [], _, e => by cases e; rfl
  | d :: ds, vs, e => by
    unfold flAll at e
    cases q1 : d.fl with
    | none => rw [q1] at e; cases e
    | some k =>
      cases q2 : flAll ds with
      | none => rw [q1, q2] at e; cases e
      | some ks' => rw [q1, q2] at e; cases e; rw [List.all_cons, fl_flat q1, flAll_flat q2]; rfl
/-- is x in y -/
def isIn : DV → DV → Option Bool
  | .str c, .str z => match c.cps.toList with
    | [k] => some (decide (k ∈ z.cps.toList))
    | _ => none
  | x, .lst ys => match x.fl, flAll ys with
    | some v, some vs => some (inV v vs)
    | _, _ => none
  | x, .ro ys => match x.fl, flAll ys with
    | some v, some vs => some (inV v vs)
    | _, _ => none
  | x, .tup ys => match x.fl, flAll ys with
    | some v, some vs => some (inV v vs)
    | _, _ => none
  | x, y => (dgetD y x).map (·.isSome)
def oInU (neg : Bool) (x y : DV) : R DV := match isIn x y with
  | some b => .ok (.bl (if neg then !b else b))
  | none => .bad
def rInU (X : Cx) (neg : Bool) : R2 := fun x y H Q => (∃ (c : Nat) (z : Str), x = .str ⟨#[c]⟩ ∧ y = .str z ∧ Q (.bl (if neg then !decide (c ∈ z.cps.toList) else decide (c ∈ z.cps.toList))) H) ∨ rIn X.K neg x y H Q ∨ ∃ a o, y = .ref a ∧ DGet H a x o ∧ Q (.bl (if neg then !o.isSome else o.isSome)) H
theorem or_in (hr : Room k X.A) : OpR X (compareOp .In) (rInU X false) := OpR.or op_in_sign (OpR.or op_in_seq fun pins s σ H x y v u Q I rx ry ⟨a, o, ey, g, q⟩ => by
  subst ey
  obtain rfl : u = Value.ref a := ry
  exact d_in (by have := hr.units; omega) I g rx fun s3 I3 => ⟨.bl o.isSome, H, I3, rfl, q⟩)
theorem or_notin (hr : Room k X.A) : OpR X (compareOp .NotIn) (rInU X true) := OpR.or op_notIn_sign (OpR.or op_notIn_seq fun pins s σ H x y v u Q I rx ry ⟨a, o, ey, g, q⟩ => by
  subst ey
  obtain rfl : u = Value.ref a := ry
  exact d_notIn (by have := hr.units; omega) I g rx fun s3 I3 => ⟨.bl (!o.isSome), H, I3, rfl, q⟩)
theorem od_inU {neg : Bool} : OpD X (rInU X neg) (oInU neg) := fun {G H x y dx dy Q W} s rx ry h => by
  unfold oInU at h
  cases q : isIn dx dy with
  | none => rw [q] at h; exact h.elim
  | some b =>
    rw [q] at h
    have hq : Q (.bl (if neg then !b else b)) H := Rq.ok_self (rep := DRep X.K) s h (.bl _)
    have seq : ∀ {vs : List V} {ds : List DV} {a : Addr}, DReps X.K G vs ds → (SqL X.K H a vs ∨ SqT X.K H a vs) → (match dx.fl, flAll ds with
        | some v, some vs => some (inV v vs)
        | _, _ => none) = some b → y = .ref a → rIn X.K neg x y H Q := fun {vs ds a} r hs e ey => by
      cases q1 : dx.fl with
      | none => rw [q1] at e; cases e
      | some v =>
        cases q2 : flAll ds with
        | none => rw [q1, q2] at e; cases e
        | some ws =>
          rw [q1, q2] at e
          obtain rfl := Option.some.inj e
          have e1 := fl_eq rx q1
          have e2 := flAll_eq r q2
          subst e1 e2
          exact ⟨a, vs, ey, hs, fl_flat q1, flAll_flat q2, hq⟩
    have dic : dgetD dy dx = none ∨ ∃ o, dgetD dy dx = some o := by cases dgetD dy dx with
      | none => exact .inl rfl
      | some o => exact .inr ⟨o, rfl⟩
    have dd : (dgetD dy dx).map (·.isSome) = some b → rInU X neg x y H Q := fun e => by
      rcases dic with z | ⟨o, z⟩
      · rw [z] at e; cases e
      · rw [z] at e
        obtain rfl := Option.some.inj e
        obtain ⟨a1, ov, e1, g, w⟩ := dget_rep s ry rx z
        refine .inr (.inr ⟨a1, ov, e1, g, ?_⟩)
        rcases w with ⟨z1, z2⟩ | ⟨u, d, z1, z2, _⟩
        · subst z1 z2; exact hq
        · subst z1 z2; exact hq
    cases ry with
    | lst e r => exact .inr (.inl (seq r (.inl (SqL.of (s _ _ e))) (by cases dx <;> exact q) rfl))
    | ro e r => exact .inr (.inl (seq r (.inl (Same.seq s e)) (by cases dx <;> exact q) rfl))
    | tup e r => exact .inr (.inl (seq r (.inr (SqT.of (s _ _ e))) (by cases dx <;> exact q) rfl))
    | str z =>
      cases rx with
      | str c =>
        unfold isIn at q
        dsimp only at q
        split at q
        · rename_i k e
          obtain rfl := Option.some.inj q
          exact .inl ⟨k, z, by rw [str_one e], rfl, hq⟩
        · cases q
      | _ => cases q
    | dic e r => exact dd (by cases dx <;> exact q)
    | dit e r => exact dd (by cases dx <;> exact q)
    | _ => exact dd (by cases dx <;> exact q)
end
end LD

set_option maxHeartbeats 3200000
/-! Layer D, part Q: len(set(xs)) of any texts. -/
namespace LD
open PySem PySem.Spec PyProof.Rows L2

/-- the texts met so far, how many -/
def memS (xs : List Str) : Str → Bool := fun k => xs.any (· == k)
def cntS : List Str → Nat
  | [] => 0
  | x :: r => (if memS r x then cntS r else cntS r + 1)
theorem memS_cons (x : Str) (r : List Str) (k : Str) : memS (x :: r) k = (memS r k || decide (k = x)) := by
  unfold memS
  rw [List.any_cons, Bool.or_comm]
  congr 1
  by_cases e : k = x
  · subst e; simp
  · rw [decide_eq_false e]; exact beq_eq_false_iff_ne.mpr fun z => e z.symm
theorem cntS_le : ∀ r : List Str, cntS r ≤ r.length
  | [] => Nat.le_refl _
  | x :: r => by
    have := cntS_le r
    unfold cntS
    rw [List.length_cons]
    split <;> omega
/-- what stands behind the first i, the last first -/
def upTo (xs : List Str) (i : Nat) : List Str := (xs.take i).reverse
theorem upTo_succ {xs : List Str} {i : Nat} (h : i < xs.length) : upTo xs (i + 1) = xs.getD i Str.empty :: upTo xs i := by
  unfold upTo
  rw [List.take_succ_eq_append_getElem h, List.reverse_append, List.getD_eq_getElem?_getD, List.getElem?_eq_getElem h]
  rfl
section
variable {prog : Program} {w : World} {A : Around} {R : Result → Shared → Prop} {it : Addr} {fp wr : List Addr} {Gs : Array GenState → Array GenState → Prop} {n : Nat} {Pv : Nat → Value → Prop} {St : Nat → Shared → Prop}
/-- set.update's loop over any walk of texts -/
theorem loopT (W : WalksS prog w A.in1 it fp wr Gs n Pv St) (a : Addr) (hf : a ∉ fp) (xs : List Str) (hn : xs.length = n) (hb : n + 1 < scanBound) (hv : ∀ i v, Pv i v → ∃ t, v = .str (xs.getD i Str.empty) t) :
    ∀ (m i : Nat) (s : Shared), n - i = m → i ≤ n → St i s → s.heap.SetOf (strKind prog w) a (memS (upTo xs i)) (cntS (upTo xs i)) →
      (∀ s', Moved (a :: wr) Gs s s' → s'.heap.SetOf (strKind prog w) a (memS (upTo xs n)) (cntS (upTo xs n)) → R (.ok (.ret .none)) s') → codeAny (model prog w) A (.builtin "set.update.loop" ⟨[.ref a, .ref it], []⟩) R s := by
  have aw : a ∉ wr := fun h => hf (W.sub _ h)
  have up : ∀ b ∈ wr, b ∈ a :: wr := fun b hb => List.mem_cons_of_mem _ hb
  have moved : ∀ {s s' : Shared} {S : Str → Bool} {c : Nat}, Moved wr Gs s s' → s.heap.SetOf (strKind prog w) a S c → s'.heap.SetOf (strKind prog w) a S c := fun hm ⟨o, es, ep, t, ho, r⟩ => ⟨o, es, ep, t, hm.heap a _ aw ho, r⟩
  intro m
  induction m with
  | zero =>
    intro i s hk hi st hS hR
    obtain rfl : i = n := by omega
    refine codeAny_builtin F.entry_set_update_loop ?_
    rw [Around.under_plainId F.plain_set_update_loop _]
    exact wpAny_bind (m := pyNext (.ref it)) (W.done s _ _ st fun s' hm => wpAny_pure (hR s' (hm.mono up) (moved hm hS)))
  | succ m ih =>
    intro i s hk hi st hS hR
    have hlt : i < n := by omega
    refine codeAny_builtin F.entry_set_update_loop ?_
    rw [Around.under_plainId F.plain_set_update_loop _]
    refine wpAny_bind (m := pyNext (.ref it)) (W.item i s _ _ hlt st fun v s' hP st' hm => ?_)
    obtain ⟨t, rfl⟩ := hv i v hP
    refine wpAny_bind (m := holding [Value.str (xs.getD i Str.empty) t] (setAdd a (.str (xs.getD i Str.empty) t))) (wpAny_holding ?_)
    unfold setAdd
    refine wpAny_holding (wpAny_bind ((strKind prog w).pyHash (k := xs.getD i Str.empty) (strKind_is _ _ _ _) ?_))
    have cb : cntS (upTo xs i) + 1 < scanBound := by
      have h1 := cntS_le (upTo xs i)
      have h2 : (upTo xs i).length ≤ i := by unfold upTo; rw [List.length_reverse, List.length_take]; omega
      omega
    have hSm := moved hm hS
    refine wpAny_setAddHashed_of (knd := strKind prog w) (s := { s' with toks := s'.toks + 1 }) (strKind_is _ _ _ _) rfl hSm cb fun h' hs hS2 => ?_
    have e := upTo_succ (xs := xs) (i := i) (by omega)
    have hS3 : h'.SetOf (strKind prog w) a (memS (upTo xs (i + 1))) (cntS (upTo xs (i + 1))) := by
      refine SetOf_congr hS2 (fun k => ?_) ?_
      · rw [e, memS_cons]
      · rw [e]; rfl
    have hs' : ∀ b o, b ≠ a → s'.heap.get? b = some o → h'.get? b = some o := fun b o ne q => (hs.2 b ne).trans q
    refine wpAny_pure ⟨plainId_quiet F.plain_set_update_loop _, ih (i + 1) _ (by omega) hlt (W.frame _ s' _ _ st' (Nat.le_succ _) fun b hb' o q => hs' b o (fun z => hf (z ▸ hb')) q) hS3 fun s2 hm2 hS4 => ?_⟩
    exact hR s2 (Moved.trans W.gtrans ((hm.mono up).then_heap (Nat.le_succ _) fun b o nb q => hs' b o (fun z => nb (z ▸ List.mem_cons_self)) q) hm2) hS4
end

/-! ### set(t), t a tuple of texts -/
def emptySet (led : Bool) : Obj := { cls := .type "set", dict := none, data := .set #[] 0 (.fresh 0 0 led) }
section
variable {prog : Program} {w : World} {A : Around} {E : Value → Shared → Prop} {s : Shared}
theorem set_of_texts {l : Addr} {its : Array Value} {xs : List Str} {Q : Value → Shared → Prop} (hh : A.handled = none) (ht : s.heap.IsTuple l its) (hx : StrsAre its.toList xs) (hb : xs.length + 1 < scanBound)
    (h : ∀ (g : Heap) (tk : Nat), g.SetOf (strKind prog w) s.heap.objs.size (memS (upTo xs xs.length)) (cntS (upTo xs xs.length)) → (∀ b o, b < s.heap.objs.size → s.heap.get? b = some o → g.get? b = some o) → Q (.ref s.heap.objs.size) { s with heap := g, toks := tk }) :
    wpAny (model prog w) A (call (.type "set") [.ref l]) Q E s := by
  obtain ⟨c, tl, mro⟩ := F.called_set.mro
  have made := F.called_set.made
  have sub := F.called_set.sub
  have not_type := F.called_set.notType
  have creates := F.called_set.canCreate
  have check := F.typeCall_set_1 (.ref l)
  have hn : xs.length = its.size := by rw [← StrsAre.len_eq hx, Array.length_toList]
  generalize hS0 : s.heap.objs.size = S0 at h ⊢
  refine wpAny_call (codeAny_of_tree ?_)
  show wpAny _ _ (callAny (.type "set") _) _ _ _
  refine wpAny_pure ⟨Code.quiet_builtin _ (by decide +kernel), codeAny_builtin F.entry_type_call ?_⟩
  rw [Around.under_plain (weight_type_call_type "set" [.ref l] []) rfl]
  repeat (any_goals (first
    | assumption
    | wp_step))
  refine codeAny_mono (code_set_new_1 (.ref l) (E := E) (Q₁ := fun v s1 => ∃ led : Bool, v = .ref S0 ∧ s1 = { s with heap := s.heap.push (emptySet led) }) fun led => ⟨led, by rw [hS0], rfl⟩) fun r s1 hr => ?_
  match r, hr with
  | .error e, hr => exact hr
  | .ok .next, hr => exact hr.elim
  | .ok .brk, hr => exact hr.elim
  | .ok .cont, hr => exact hr.elim
  | .ok (.ret v), hr =>
    obtain ⟨led, rfl, rfl⟩ := hr
    have hS : (s.heap.push (emptySet led)).get? S0 = some (emptySet led) := by rw [← hS0]; exact Heap.get?_push_size _ rfl
    have hT : Shared.TypeIs { s with heap := s.heap.push (emptySet led) } (.ref S0) "set" := ⟨_, hS, rfl⟩
    have look := F.called_set.init.lookup
    have bound := F.called_set.init.bind (.ref S0)
    repeat (any_goals (first
      | assumption
      | wp_step))
    refine codeAny_mono (codeAny_call_builtin (R := wants (fun r s2 => r = .none ∧ ∃ g tk, s2 = { s with heap := g, toks := tk } ∧ g.SetOf (strKind prog w) S0 (memS (upTo xs xs.length)) (cntS (upTo xs xs.length)) ∧ ∀ b o, b < S0 → s.heap.get? b = some o → g.get? b = some o) E)
      F.called_set.init.plain F.entry_set_init (check_set_init_1 hT ?_)) fun r2 s2 hr2 => ?_
    · obtain ⟨⟨ocl, odc, odt, osl⟩, hol, hoc, nn, hod⟩ := ht
      simp only at hoc hod
      subst hoc hod
      generalize hpush : s.heap.push (emptySet led) = hp at hS hT
      have hol2 : hp.get? l = some { cls := .type "tuple", dict := odc, data := .seq its nn, slots := osl } := by rw [← hpush]; exact Heap.get?_push_of_some _ hol
      have hsz : hp.objs.size = S0 + 1 := by rw [← hpush, Heap.size_push, hS0]
      have lS : l < S0 := by rw [← hS0]; exact Heap.lt_size hol
      have no_dict : (Value.type "tuple" == Value.type "dict") = false := by decide
      have no_set := F.sub_tuple_set
      have no_frozen := F.sub_tuple_frozenset
      have it_tup : hp.IsTuple l its := ⟨_, hol2, rfl, nn, rfl⟩
      unfold Builtin.«set.__init__» noKeywords Builtin.Frozenset.updateFrom
      generalize hIter : pyIter = iter
      wp_walk
      subst hIter
      refine wpAny_pyIter_tuple it_tup (wpAny_bind (wpAny_runValue ?_))
      have nl : l ≠ hp.objs.size := by rw [hsz]; exact Nat.ne_of_lt (Nat.lt_succ_of_lt lS)
      have nf : S0 ∉ [hp.objs.size, l] := by
        rw [hsz]
        intro z
        simp only [List.mem_cons, List.not_mem_nil, or_false] at z
        rcases z with z | z
        · exact absurd z (Nat.ne_of_lt (Nat.lt_succ_self _))
        · exact absurd z (Nat.ne_of_gt lS)
      refine loopT (n := its.size) ((Walks.tuple (show A.in1.in1.in1.handled = none by simp [hh]) _ l nl its).toS) S0 nf xs hn (by rw [← hn]; exact hb) (fun i v hv => SS.strs_at hx i v (by rw [Array.getElem?_toList]; exact hv)) (its.size - 0) 0 _ rfl (Nat.zero_le _)
        ⟨⟨_, Heap.get?_push_size _ rfl, rfl, rfl⟩, it_tup.push _⟩ ?_ fun s3 hm hS3 => ?_
      · have hS2 : (hp.push { cls := .type "tuple_iterator", data := .fields #[.ref l, .int 0 0] }).get? S0 = some (emptySet led) := Heap.get?_push_of_some _ hS
        exact SetOf_congr ((setObjOf_fresh (knd := strKind prog w) led).setOf hS2 (by unfold scanBound; omega)) (fun _ => rfl) rfl
      · obtain ⟨g, gn, dr, tk, os⟩ := s3
        obtain rfl : gn = s.gens := hm.gens
        obtain rfl : dr = s.drawn := hm.drawn
        obtain rfl : os = s.os := hm.os
        rw [← hn] at hS3
        refine wpAny_pure (wpAny_pure ⟨rfl, g, tk, rfl, hS3, fun b o hb' e => ?_⟩)
        refine hm.heap b o (fun z => ?_) (Heap.get?_push_of_some _ (by rw [← hpush]; exact Heap.get?_push_of_some _ e))
        rw [hsz] at z
        simp only [List.mem_cons, List.not_mem_nil, or_false] at z
        rcases z with z | z
        · exact absurd z (Nat.ne_of_lt hb')
        · exact absurd z (Nat.ne_of_lt (Nat.lt_succ_of_lt hb'))
    · match r2, hr2 with
      | .error e, hr2 => exact hr2
      | .ok .next, hr2 => exact hr2.elim
      | .ok .brk, hr2 => exact hr2.elim
      | .ok .cont, hr2 => exact hr2.elim
      | .ok (.ret v), hr2 =>
        obtain ⟨rfl, g, tk, rfl, hS2, hk⟩ := hr2
        repeat (any_goals (first
          | assumption
          | wp_step))
        exact h _ _ hS2 hk
end

/-! ### len(set(t)) -/
def strsOf : List DV → Option (List Str)
  | [] => some []
  | .str x :: r => (strsOf r).map (x :: ·)
  | _ => none
theorem strsOf_rep {K : PySem.W.Frag} {G : Hp} : ∀ {vs : List V} {ds : List DV} {xs : List Str}, DReps K G vs ds → strsOf ds = some xs → vs = xs.map V.str
  | _, _, _, .nil, e => by cases e; rfl
  | _, _, xs, .cons (d := d) (ds := ds) a b, e => by
    cases a with
    | str x =>
      unfold strsOf at e
      cases q : strsOf ds with
      | none => rw [q] at e; cases e
      | some r => rw [q] at e; cases e; rw [strsOf_rep b q]; rfl
    | _ => cases e
def oLenSet : DV → R DV
  | .tup ds => (match strsOf ds with
    | some xs => if Nat.blt xs.length 4000 then .ok (.int (cntS (upTo xs xs.length))) else .bad
    | none => .bad)
  | _ => .bad
section
variable {X : Cx} {W : WX} {a : Expr} {fa : Ev → R DV} {pos p p2 q : Pos}
theorem d_lenSet (hc : X.calm = true) (hm : X.mg "len" = none) (hm2 : X.mg "set" = none) (A : PD X W a fa) (hg : Gl X "len" := by rfl) (hg2 : Gl X "set" := by rfl) (na : starEach [a] X.env = (false, eval a X.env) :: starEach [] X.env := by rfl) :
    PD X W (.Call (.Name "len" p) [.Call (.Name "set" p2) [a] [] q] [] pos) (xUn oLenSet fa) := by
  obtain ⟨ta, pa, ha⟩ := A.ex
  refine ⟨fun σ H Q => ta σ H fun x H1 => ∃ l, ∃ xs : List Str, x = .ref l ∧ SqT X.K H1 l (xs.map V.str) ∧ xs.length < 4000 ∧ Q (.int (cntS (upTo xs xs.length))) H1, ⟨fun pins s σ H Q I h => ?_⟩, fun {B0 G H δ σ Q} S h => ?_⟩
  · have h' : ta σ H fun x H1 => ∃ l, ∃ xs : List Str, x = .ref l ∧ SqT X.K H1 l (xs.map V.str) ∧ xs.length < 4000 ∧ Q (.int (cntS (upTo xs xs.length))) H1 := h
    refine Call_ (ld_blt I hg hm boot_len (callWith_builtin1 (args_cons ?_ rfl) rfl rfl))
    refine Call_ (ld_blt I hg2 hm2 boot_set (callWith_type1 (args_cons (thn (pa.run pins s σ H _ I h') fun v s1 ⟨x, H1, I1, r1, q1⟩ => args_nil ?_) na) na rfl))
    obtain ⟨l, xs, rfl, hq, hz, q1⟩ := q1
    cases r1
    obtain ⟨its, r, pl, _⟩ := I1.tuple hq
    have sb : xs.length + 1 < scanBound := by unfold scanBound; omega
    refine set_of_texts (I1.ok.hd hc) pl (by simpa using strsAre_of r) sb fun g tk hS hk => args_nil ?_
    obtain ⟨o, es, ep, t, ho, hex, hd, _, _, _, hf, hn⟩ := hS
    have I2 : Inv X pins σ H1 { s1 with heap := g, toks := tk } := I1.kept fun b o e => hk b o (Heap.lt_size e) e
    have cl := cntS_le (upTo xs xs.length)
    have ul : (upTo xs xs.length).length ≤ xs.length := by unfold upTo; rw [List.length_reverse, List.length_take]; omega
    exact call_len_set ho hex hd hf (by rw [hn]; omega) ⟨.int (cntS (upTo xs xs.length)), H1, I2.tok _, ⟨_, by rw [hn]⟩, q1⟩
  · refine ha S (Rq.bind (rep := DRep X.K) h fun x ex v H1 G1 t1 r1 h1 => ?_)
    cases r1 with
    | tup e r =>
      rename_i a1 vs ds
      have h2 : Rq X.K (DRep X.K) (fun c d H' => W c d σ H') G1 H1 (match strsOf ds with
        | some xs => if Nat.blt xs.length 4000 = true then .ok (.int (cntS (upTo xs xs.length))) else .bad
        | none => .bad) Q := h1
      cases q : strsOf ds with
      | none => rw [q] at h2; exact h2.elim
      | some xs =>
        rw [q] at h2
        obtain ⟨c, h3⟩ := rq_if h2
        rw [strsOf_rep r q] at e
        exact ⟨a1, xs, rfl, SqT.of (t1.gh _ _ e), Nat.le_of_ble_eq_true c, Rq.ok_self (rep := DRep X.K) t1.gh h3 (.int _)⟩
    | _ => exact h1.elim
end
end LD

set_option maxHeartbeats 2000000
/-! Layer D, part N: new dicts, own dicts, walks over dicts, stars, while. -/
namespace LD
open PySem PySem.Spec PyProof.Rows L2

/-! ### new dicts -/
/-- a new dict at D, not yet frozen -/
def DRq (K : PySem.W.Frag) (W : Value → Option Addr → Hp → Prop) (G H : Hp) (r : R (List (Key × DV))) (Q : VK) : Prop := match r with
  | .ok ys => ∀ D ws H' G', Tr G H G' H' → H D = none → G' D = none → H' D = some (.dK ws) → RP K G' ws ys → Q (.ref D) H'
  | .exc c fs => ∀ H' G' d, Tr G H G' H' → XRep K G' H' d fs → W (.ref (He.ga K c)) d H'
  | .bad => False
theorem DRq.tr {K : PySem.W.Frag} {W : Value → Option Addr → Hp → Prop} {G H G1 H1 : Hp} {r : R (List (Key × DV))} {Q : VK} (t : Tr G H G1 H1) (h : DRq K W G H r Q) : DRq K W G1 H1 r Q := by
  cases r with
  | ok ys => exact fun D ws H' G' t' hd => h D ws H' G' (t.trans t') (by
      cases q : H D with
      | none => rfl
      | some o => rw [t.sm _ _ q] at hd; cases hd)
  | exc c fs => exact fun H' G' d t' => h H' G' d (t.trans t')
  | bad => exact h
theorem DRq.bind {α β : Type} {K : PySem.W.Frag} {W : Value → Option Addr → Hp → Prop} {rep : Rel α β} {G H : Hp} {r : R α} {k : α → R (List (Key × DV))} {Q : β → Hp → Prop} {Q' : VK} (h : DRq K W G H (r.bind k) Q') (c : ∀ a, r = .ok a → ∀ b H1 G1, Tr G H G1 H1 → rep G1 b a → DRq K W G1 H1 (k a) Q' → Q b H1) : Rq K rep W G H r Q := by
  cases r with
  | ok a => exact fun b H1 G1 t p => c a rfl b H1 G1 t p (DRq.tr t h)
  | exc _ _ => exact h
  | bad => exact h
/-- an expression that makes a dict -/
structure PDD (X : Cx) (W : WX) (e : Expr) (f : Ev → R (List (Key × DV))) : Prop where
  ex : ∃ t : TE, PE X e t ∧ ∀ {B : Bas} {G H : Hp} {δ : Ev} {σ : L2.St} {Q : VK}, SOk X.K B G H δ σ → DRq X.K (fun c d H' => W c d σ H') G H (f δ) Q → t σ H Q
def tLockK (t : TE) : TE := fun σ H Q => t σ H fun x H1 => ∃ a kvs, x = .ref a ∧ H1 a = some (.dK kvs) ∧ ∀ o, Q x (upd H1 a (.frz o (.dK kvs)))
theorem pe_lock {X : Cx} {e : Expr} {t : TE} (p : PE X e t) : PE X e (tLockK t) := ⟨fun pins s σ H Q I h => thn (p.run pins s σ H _ I h) fun u s1 ⟨x, H1, I1, r, a, kvs, ex, e, q⟩ => by
  obtain ⟨o, I2⟩ := I1.lock e trivial
  exact ⟨x, _, I2, r, q o⟩⟩
def xDic (f : Ev → R (List (Key × DV))) : Ev → R DV := fun δ => (f δ).bind fun kvs => .ok (.dic kvs)
section
variable {X : Cx} {W : WX} {a b c e : Expr} {es : List Expr} {fa fb fc : Ev → R DV} {fes : Ev → R (List DV)} {fd : Ev → R (List (Key × DV))} {pos p : Pos} {k : Nat}
/-- a new dict that no one changes -/
theorem d_dic (A : PDD X W e fd) : PD X W e (xDic fd) := by
  obtain ⟨t, p, hq⟩ := A.ex
  refine ⟨_, pe_lock p, fun {B0 G H δ σ Q} S h => hq S ?_⟩
  unfold xDic at h
  cases q : fd δ with
  | bad => rw [q] at h; exact h.elim
  | exc c fs => rw [q] at h; exact h
  | ok kvs =>
    rw [q] at h
    intro D ws H' G' t hd hg hh r
    refine ⟨D, ws, rfl, hh, fun o => ?_⟩
    have t2 := tr_own_upd t (.frz o (.dK ws)) hd hg
    obtain ⟨t3, gg⟩ := t2.freeze hd hg upd_same
    exact h (.ref D) _ _ t3 (.dic upd_same (RP.mono gg r).k)
/-- name = a new dict, the name's own -/
def sSetD (i : Nat) (f : Ev → R (List (Key × DV))) : Ev → SR := fun δ => xS (f δ) δ fun kvs => .nx (δ.set i (.od kvs))
theorem ds_setD (i : Nat) {x : Str} {pos' : Pos} (hN : X.N.Nodup) (A : PDD X W e fd) (hi : X.N[i]? = some x := by rfl) (hx : Loc X.env.scope x := by first | exact Or.inl rfl | exact Or.inr rfl) (hs : swapsWith e (some (.Name x pos')) pos.line X.env = pure false := by rfl)
    (hf : X.fn x = true ∨ X.env.scope.names.lookup x = some .local := by first | exact .inl rfl | exact .inr rfl) : PSD X W (.Assign [.Name x pos'] e pos) (sSetD i fd) := by
  obtain ⟨t, p, hq⟩ := A.ex
  refine ⟨_, L2.ps_set hN hi hx p hs hf, fun {B0 G H δ σ D} S h => hq S ?_⟩
  unfold sSetD at h
  cases q : fd δ with
  | bad => rw [q] at h; exact h.elim
  | exc c fs => rw [q] at h; exact fun H' G' d t x => h σ H' G' d t.gg (S.step t) x
  | ok kvs =>
    rw [q] at h
    intro D' ws H' G' t hd hg hh r
    exact h _ _ _ t.gg (own_laid S i t hd hg rfl (fun _ _ z => nomatch z) ⟨ws, hh, r.k⟩)
/-! ### {k: v, ..} -/
structure PDPs (X : Cx) (W : WX) (pos : Pos) (keys : List (Option Expr)) (values : List Expr) (f : Ev → R (List (Key × DV))) : Prop where
  ex : ∃ trs, PPs X pos keys values trs ∧ ∀ {B : Bas} {G H : Hp} {δ : Ev} {σ : L2.St} {Q : List (V × V) → Hp → Prop}, SOk X.K B G H δ σ →
    Rq X.K (fun G' ps ds => ∃ kvs : List (Key × V), ps = kvs.map (fun kv => (kV kv.1, kv.2)) ∧ RP X.K G' kvs ds) (fun c d H' => W c d σ H') G H (f δ) Q → tPairs trs σ H Q
def xP0 : Ev → R (List (Key × DV)) := fun _ => .ok []
def xPc (fk fv : Ev → R DV) (r : Ev → R (List (Key × DV))) : Ev → R (List (Key × DV)) := fun δ => (fk δ).bind fun k => (fv δ).bind fun v => (r δ).bind fun ps => match asKey k with
  | some k => .ok ((k, v) :: ps)
  | none => .bad
theorem dp_nil : PDPs X W pos [] [] xP0 := ⟨[], pps_nil, fun {B G H δ σ Q} S h => h [] H G (Tr.refl S.gh) ⟨[], rfl, .nil⟩⟩
theorem dp_cons {keys : List (Option Expr)} {values : List Expr} (A : PD X W a fa) (B : PD X W b fb) (C : PDPs X W pos keys values fd) : PDPs X W pos (some a :: keys) (b :: values) (xPc fa fb fd) := by
  obtain ⟨ta, pa, ha⟩ := A.ex
  obtain ⟨tb, pb, hb⟩ := B.ex
  obtain ⟨trs, pc, hc⟩ := C.ex
  refine ⟨_, pps_cons pa pb pc, fun {B0 G H δ σ Q} S h => ?_⟩
  refine ha S (Rq.bind (rep := DRep X.K) h fun x ex v H1 G1 t1 r1 h1 => ?_)
  refine hb (S.step t1) (Rq.bind (rep := DRep X.K) h1 fun y ey w H2 G2 t2 r2 h2 => ?_)
  refine hc ((S.step t1).step t2) (Rq.bind h2 fun ps eps qs H3 G3 t3 ⟨kvs, e3, r3⟩ h3 => ?_)
  cases q : asKey x with
  | none => rw [q] at h3; exact h3.elim
  | some k =>
    rw [q] at h3
    have ek := asKey_rep r1 q
    subst ek e3
    exact h3 _ H3 G3 (Tr.refl t3.gh) ⟨(k, w) :: kvs, rfl, .cons (r2.mono t3.gg) r3⟩
def xDisp (f : Ev → R (List (Key × DV))) : Ev → R (List (Key × DV)) := fun δ => (f δ).bind fun ps => if Nat.ble ps.length 15 then .ok (mergeD [] ps) else .bad
theorem dd_disp {keys : List (Option Expr)} {values : List Expr} (A : PDPs X W pos keys values fd) (hall : keys.all (·.isSome) = true := by rfl) (hl : keys.length = values.length := by rfl) (h0 : keys ≠ [] := by exact fun z => nomatch z) (h15 : keys.length ≤ 15 := by exact Nat.le_of_ble_eq_true rfl) : PDD X W (.Dict keys values pos) (xDisp fd) := by
  obtain ⟨trs, pc, hc⟩ := A.ex
  refine ⟨_, pe_disp pc hall hl h0 h15, fun {B0 G H δ σ Q} S h p hp => ?_⟩
  have t0 := Tr.own S.gh (.dK []) hp
  refine hc (S.step t0) (DRq.bind (DRq.tr t0 h) fun ps eps qs H3 G3 t3 ⟨kvs, e3, r3⟩ h3 => ?_)
  cases q : Nat.ble ps.length 15 with
  | false => rw [q] at h3; exact h3.elim
  | true =>
    have h4 : Q (.ref p) (upd H3 p (.dK (mergeK [] kvs))) := by
      unfold xDisp at h
      rw [eps] at h
      have h5 : DRq X.K (fun c d H' => W c d σ H') G H (if Nat.ble ps.length 15 = true then .ok (mergeD [] ps) else .bad) Q := h
      rw [q, if_pos rfl] at h5
      have hg : G3 p = none := by rw [t3.nw p (by rw [upd_same]; simp)]; exact S.gh.none hp
      have t := tr_own_upd (t0.trans t3) (.dK (mergeK [] kvs)) hp hg
      exact h5 p _ _ _ t hp hg upd_same (RP.merge r3 .nil)
    exact ⟨t3.sm _ _ upd_same, kvs, e3, by rw [r3.length]; exact Nat.le_of_ble_eq_true q, h4⟩
/-- {} -/
theorem dd_empty : PDD X W (.Dict [] [] pos) (fun _ => .ok []) := ⟨_, pe_dnewK, fun {B0 G H δ σ Q} S h p hp => h p [] _ G (Tr.own S.gh _ hp) hp (S.gh.none hp) upd_same .nil⟩
/-! ### dict(x) -/
def asPairs : List DV → Option (List (Key × DV))
  | [] => some []
  | .tup [k, v] :: r => (match asKey k, asPairs r with
    | some k, some ps => some ((k, v) :: ps)
    | _, _ => none)
  | _ => none
theorem asPairs_rep {K : PySem.W.Frag} {G H : Hp} (s : Same G H) : ∀ {vs : List V} {ds : List DV} {kvs : List (Key × DV)}, DReps K G vs ds → asPairs ds = some kvs →
    ∃ (ps : List Addr) (ws : List (Key × V)), vs = ps.map V.ref ∧ Paired (fun p kv => SqT K H p [kV kv.1, kv.2]) ps ws ∧ RP K G ws kvs
  | _, _, _, .nil, e => by cases e; exact ⟨[], [], rfl, .nil, .nil⟩
  | _, _, kvs, .cons (d := d) (ds := ds) a b, e => by
    cases a with
    | tup e1 r1 =>
      rename_i p ws ys
      cases r1 with
      | nil => cases e
      | cons rk r2 =>
        cases r2 with
        | nil => cases e
        | cons rv r3 =>
          cases r3 with
          | cons _ _ => cases e
          | nil =>
            rename_i vk dk vv dv
            have e : (match asKey dk, asPairs ds with
              | some k, some ps => some ((k, dv) :: ps)
              | _, _ => none) = some kvs := e
            cases q1 : asKey dk with
            | none => rw [q1] at e; cases e
            | some k =>
              cases q2 : asPairs ds with
              | none => rw [q1, q2] at e; cases e
              | some ps =>
                rw [q1, q2] at e
                obtain rfl := Option.some.inj e
                obtain ⟨as, ws', h1, h2, h3⟩ := asPairs_rep s b q2
                have ek := asKey_rep rk q1
                subst ek h1
                exact ⟨p :: as, (k, vv) :: ws', rfl, .cons (SqT.of (s _ _ e1)) h2, .cons rv h3⟩
    | _ => cases e
def dictOf : List DV → R (List (Key × DV))
  | [.dic kvs] => .ok kvs
  | [.lst ds] => (R.ofO (asPairs ds)).bind fun ps => .ok (mergeD [] ps)
  | _ => .bad
def xDict (fes : Ev → R (List DV)) : Ev → R (List (Key × DV)) := fun δ => (fes δ).bind dictOf
theorem dd_dict (hc : X.calm = true) (hm : X.mg "dict" = none) (A : PDA X W (a :: es) fes) (hg : Gl X "dict" := by rfl)
    (he : starEach (a :: es) X.env = (false, eval a X.env) :: starEach es X.env := by rfl) (hpl : (backTo pos (starEach es X.env)).any (·.1) = false := by rfl) : PDD X W (.Call (.Name "dict" p) (a :: es) [] pos) (xDict fes) := by
  obtain ⟨ta, pa, ha⟩ := A.ex
  refine ⟨_, pe_callTy (CallR.or call_dictD (call_dictP hc)) hg hm (by decide +kernel) pa (by decide) (by decide) he hpl, fun {B0 G H δ σ Q} S h => ?_⟩
  refine ha S (DRq.bind (rep := DReps X.K) h fun dds eqs vvs H1 G1 t1 r1 h1 => ?_)
  clear eqs
  have s := t1.gh
  cases r1 with
  | nil => exact h1.elim
  | cons ra rb =>
    cases rb with
    | cons _ _ => rename_i d _ _ _ _ _ _; cases d <;> exact h1.elim
    | nil =>
      cases ra with
      | @dic a1 o vs ds e0 r => exact .inl ⟨a1, vs, rfl, .inr ⟨o, s _ _ e0⟩, fun q hq => h1 q _ _ G1 (Tr.own s _ hq) hq (s.none hq) upd_same r.to⟩
      | @lst a1 vs ds e0 r =>
        have h2 : DRq X.K (fun c d H' => W c d σ H') G1 H1 ((R.ofO (asPairs ds)).bind fun ps => .ok (mergeD [] ps)) Q := h1
        cases q : asPairs ds with
        | none => rw [q] at h2; exact h2.elim
        | some ps =>
          rw [q] at h2
          obtain ⟨as, ws, rfl, h3, h4⟩ := asPairs_rep s r q
          exact .inr ⟨a1, as, ws, rfl, SqL.of (s _ _ e0), h3, fun q hq => h2 q _ _ G1 (Tr.own s _ hq) hq (s.none hq) upd_same (RP.merge h4 .nil)⟩
      | _ => exact h1.elim

/-! ### d[k] = v, the name's own dict -/
def sPutD (i : Nat) (fv fk : Ev → R DV) : Ev → SR := fun δ => xS (fv δ) δ fun v => match δ[i]? with
  | some (.od kvs) => xS (fk δ) δ fun k => (match asKey k with
    | some k => if Nat.blt kvs.length 16777216 then .nx (δ.set i (.od (putKD kvs k v))) else .bad
    | none => .bad)
  | _ => .bad
theorem ds_putD (i : Nat) (hr : Room k X.A) {x : Str} {pos' p3 : Pos} (A : PD X W a fa) (B : PD X W b fb) (hN : X.N[i]? = some x := by rfl) (hv : Vis X.env.scope x := by first | exact Or.inl rfl | exact Or.inr (Or.inl rfl) | exact Or.inr (Or.inr rfl)) (hd : (x == ("__debug__" : Str)) = false := by decide)
    (hcd : (x == ("__classdict__" : Str)) = false := by decide) (hs : swapsWith a (some (.Subscript (.Name x pos') b p3)) pos.line X.env = pure false := by rfl) : PSD X W (.Assign [.Subscript (.Name x pos') b p3] a pos) (sPutD i fa fb) := by
  obtain ⟨ta, pa, ha⟩ := A.ex
  obtain ⟨tb, pb, hb⟩ := B.ex
  have pv' : PE X (.Name x pos') (tVar i) := L2.pv i hN hv hd hcd
  refine ⟨_, ps_dput (by have := hr.units; omega) pv' pb pa hs, fun {B0 G H δ σ D} S h => ?_⟩
  refine ha S (SRq.of S h fun v ev u H1 G1 t1 r1 h1 => ?_)
  have S1 := S.step t1
  split at h1
  · rename_i kvs e
    obtain ⟨q, es, h0, hg, vs, hp, r⟩ := S1.own e rfl
    refine ⟨_, es, hb S1 (SRq.of S1 h1 fun kd ek w H2 G2 t2 r2 h2 => ?_)⟩
    cases qk : asKey kd with
    | none => rw [qk] at h2; exact h2.elim
    | some key =>
      rw [qk] at h2
      dsimp only at h2
      cases c : Nat.blt kvs.length 16777216 with
      | false => rw [c] at h2; exact h2.elim
      | true =>
        rw [c, if_pos rfl] at h2
        have ew := asKey_rep r2 qk
        subst ew
        have hp2 := t2.sm _ _ hp
        have hg2 : G2 q = none := by rw [t2.nw q (by rw [hp]; simp)]; exact hg
        refine ⟨q, _, rfl, .inl ⟨vs, key, hp2, rfl, ?_, rfl⟩, h2 _ _ _ (Same.refl _) (own_upd (S1.step t2) e rfl es h0 hg2 rfl (fun _ _ z => nomatch z) ⟨_, upd_same, ((r.mono t2.gg).to.put (r1.mono t2.gg)).k⟩)⟩
        rw [r.to.length, sizeLine_eq]
        exact Nat.le_of_ble_eq_true c
  · exact h1.elim
/-- the name's own dict is changed by no one from here on -/
def frzD (δ : Ev) (i : Nat) : Ev := match δ[i]? with
  | some (.od kvs) => δ.set i (.pu (.dic kvs))
  | _ => δ
def sFzD (i : Nat) (F : Ev → SR) : Ev → SR := fun δ => match δ[i]? with
  | some (.od kvs) => F (δ.set i (.pu (.dic kvs)))
  | _ => .bad
theorem dss_frzD (i : Nat) {sts : List Stmt} {F : Ev → SR} (A : PSSD X W sts F) : PSSD X W sts (sFzD i F) := by
  obtain ⟨ta, pa, ha⟩ := A.ex
  refine ⟨fun D σ H => ∃ a kvs, σ[i]? = some (some (.ref a)) ∧ H a = some (.dK kvs) ∧ ∀ o, ta D σ (upd H a (.frz o (.dK kvs))), ⟨fun pins s σ H D I ⟨a, kvs, _, e, h⟩ => ?_⟩, fun {B0 G H δ σ D} S h => ?_⟩
  · obtain ⟨o, I2⟩ := I.lock e trivial
    exact pa.run pins s σ _ D I2 (h o)
  · unfold sFzD at h
    split at h
    · rename_i kvs e
      obtain ⟨q, es, h0, hg, vs, hp, r⟩ := S.own e rfl
      refine ⟨q, vs, es, hp, fun o => ?_⟩
      have t2 := tr_own_upd S.tr (.frz o (.dK vs)) h0 hg
      obtain ⟨t3, gg⟩ := t2.freeze h0 hg upd_same
      have S' : SOk X.K B0 (upd G q (.frz o (.dK vs))) (upd H q (.frz o (.dK vs))) (δ.set i .un) (σ.set i (some (.ref q))) := by
        have Sf := S.forget i (some (.ref q))
        refine ⟨t3, Sf.len, fun j u e' => ?_, Sf.dj, Sf.me⟩
        by_cases qi : i = j
        · subst qi
          have hi : i < δ.length := (List.getElem?_eq_some_iff.mp e).1
          rw [List.getElem?_set_self hi] at e'
          cases e'; trivial
        · have z := Sf.sl j u e'
          have ne : ∀ b, isOwn u = true → (σ.set i (some (.ref q)))[j]?.join = some (.ref b) → b ≠ q := fun b ou hb z => by
            subst z
            rw [List.getElem?_set_ne qi] at e' hb
            exact qi (S.dj i j _ u b e e' rfl ou es (join_some hb))
          exact z.step gg (fun b ob ou hb h1 => by rw [upd_ne (ne b ou hb)]; exact h1) fun b ou hb _ hgb => by rw [upd_ne (ne b ou hb)]; exact hgb
      have S2 := S'.set i (show DRep X.K _ (.ref q) (.dic kvs) from .dic upd_same (RP.mono gg r.to).k)
      rw [List.set_set, List.set_set] at S2
      have es' : σ.set i (some (.ref q)) = σ := by
        apply List.ext_getElem?
        intro j
        by_cases qj : i = j
        · subst qj
          rw [List.getElem?_set_self (List.getElem?_eq_some_iff.mp es).1, es]
        · rw [List.getElem?_set_ne qj]
      rw [es'] at S2
      exact ha S2 (h.gg gg)
    · exact h.elim
end
end LD

set_option maxHeartbeats 2000000
/-! Layer D, part O: dicts walked, stars, index, extend, while, two own lists at once. -/
namespace LD
open PySem PySem.Spec PyProof.Rows L2

section
variable {X : Cx} {W : WX} {a b c e : Expr} {es : List Expr} {fa fb fc : Ev → R DV} {fes : Ev → R (List DV)} {fd : Ev → R (List (Key × DV))} {pos p : Pos} {k : Nat} {tg iter : Expr}
/-! ### len, list of dicts too -/
def oLenU : List DV → R DV
  | [.dic kvs] => .ok (.int kvs.length)
  | xs => oLen xs
def rLenU (X : Cx) : List V → Hp → VK → Prop := fun xs H Q => (∃ x n, xs = [x] ∧ LenV X.K x H n ∧ Q (.int n) H) ∨ ∃ a kvs, xs = [V.ref a] ∧ Rd H a (.dK kvs) ∧ Q (.int kvs.length) H
theorem call_lenU : CallR X (.builtin "len") (rLenU X) := CallR.or call_len fun pins s σ H xs us Q I r ⟨a, kvs, e, ha, q⟩ => by
  subst e
  obtain ⟨u, rfl, ru⟩ := vals1 r
  cases ru
  exact d_len I ha fun t s' I' => ⟨.int kvs.length, H, I', ⟨t, rfl⟩, q⟩
theorem cb_lenU : CbD X (rLenU X) oLenU := fun {G H vs ds Q W} s r h => by
  by_cases hd : ∃ kvs, ds = [.dic kvs]
  · obtain ⟨kvs, rfl⟩ := hd
    cases r with
    | cons ra rb =>
      cases rb
      cases ra with
      | @dic a1 o ws _ e0 r0 =>
        refine .inr ⟨a1, ws, rfl, .inr ⟨o, s _ _ e0⟩, ?_⟩
        rw [r0.to.length]
        exact Rq.ok_self (rep := DRep X.K) s h (.int _)
  · have e : oLenU ds = oLen ds := by
      unfold oLenU
      split
      · rename_i kvs; exact absurd ⟨kvs, rfl⟩ hd
      · rfl
    rw [e] at h
    exact .inl (cb_len s r h)
def oListU : List DV → R DV
  | [.dic kvs] => .ok (.lst (kvs.map fun kv => kD kv.1))
  | xs => oList xs
def rListU (X : Cx) : List V → Hp → VK → Prop := fun xs H Q => (∃ p ys, xs = [.ref p] ∧ (SqL X.K H p ys ∨ SqT X.K H p ys) ∧ ∀ l, H l = none → Q (.ref l) (upd H l (.lst ys))) ∨ ∃ (a : Addr) (kvs : List (Key × V)), xs = [.ref a] ∧ Rd H a (.dK kvs) ∧ ∀ p, H p = none → Q (.ref p) (upd H p (.lst (kvs.map fun kv => kV kv.1)))
theorem call_listU (hc : X.calm = true) : CallR X (.type "list") (rListU X) := CallR.or call_list_of (call_listD hc)
theorem keys_rep {K : PySem.W.Frag} {G : Hp} : ∀ {vs : List (Key × V)} {ds : List (Key × DV)}, RP K G vs ds → DReps K G (vs.map fun kv => kV kv.1) (ds.map fun kv => kD kv.1)
  | _, _, .nil => .nil
  | _, _, .cons (k := k) a b => .cons (kD_rep G k) (keys_rep b)
theorem cb_listU : CbD X (rListU X) oListU := fun {G H vs ds Q W} s r h => by
  by_cases hd : ∃ kvs, ds = [.dic kvs]
  · obtain ⟨kvs, rfl⟩ := hd
    cases r with
    | cons ra rb =>
      cases rb
      cases ra with
      | @dic a1 o ws _ e0 r0 =>
        exact .inr ⟨a1, ws, rfl, .inr ⟨o, s _ _ e0⟩, fun q hq => Rq.ok_new (rep := DRep X.K) s hq h (.lst upd_same ((keys_rep r0.to).mono (Same.upd (s.none hq))))⟩
  · have e : oListU ds = oList ds := by
      unfold oListU
      split
      · rename_i kvs; exact absurd ⟨kvs, rfl⟩ hd
      · rfl
    rw [e] at h
    exact .inl (cb_list s r h)
/-! ### dicts walked -/
theorem walks_keys {K : PySem.W.Frag} {G : Hp} {d : Addr} {o : Obj} {vs : List (Key × V)} {ds : List (Key × DV)} (h : G d = some (.frz o (.dK vs))) (r : RP K G vs ds) : Walks K (Itk d o vs) (ds.map fun kv => kD kv.1) G := by
  refine ⟨fun H s => ⟨s _ _ h, by rw [List.length_map, r.length]; exact Nat.le_refl _⟩, fun i H s hi => ⟨s _ _ h, by rw [List.length_map] at hi; rw [r.length]; exact hi⟩, fun i H x H' Gc g s hi y => ?_⟩
  obtain ⟨rfl, k, v, e, rfl⟩ := y
  obtain ⟨d', e', _⟩ := r.get e
  exact ⟨Gc, kD k, Tr.refl s, by rw [List.getElem?_map, e']; rfl, kD_rep Gc k⟩
theorem walks_vals {K : PySem.W.Frag} {G : Hp} {d : Addr} {o : Obj} {vs : List (Key × V)} {ds : List (Key × DV)} (h : G d = some (.frz o (.dK vs))) (r : RP K G vs ds) : Walks K (Itd d o vs) (ds.map fun kv => kv.2) G := by
  refine ⟨fun H s => ⟨s _ _ h, by rw [List.length_map, r.length]; exact Nat.le_refl _⟩, fun i H s hi => ⟨s _ _ h, by rw [List.length_map] at hi; rw [r.length]; exact hi⟩, fun i H x H' Gc g s hi y => ?_⟩
  obtain ⟨rfl, k, e⟩ := y
  obtain ⟨d', e', p⟩ := r.get e
  exact ⟨Gc, d', Tr.refl s, by rw [List.getElem?_map, e']; rfl, p.mono g⟩
theorem walks_items {K : PySem.W.Frag} {G : Hp} {d : Addr} {o : Obj} {vs : List (Key × V)} {ds : List (Key × DV)} (h : G d = some (.frz o (.dK vs))) (r : RP K G vs ds) : Walks K (Iti d o vs) (ds.map fun kv => .tup [kD kv.1, kv.2]) G := by
  refine ⟨fun H s => ⟨s _ _ h, by rw [List.length_map, r.length]; exact Nat.le_refl _⟩, fun i H s hi => ⟨s _ _ h, by rw [List.length_map] at hi; rw [r.length]; exact hi⟩, fun i H x H' Gc g s hi y => ?_⟩
  obtain ⟨T, k, v, e, rfl, hT, rfl⟩ := y
  obtain ⟨d', e', p⟩ := r.get e
  have gn := Same.upd (o := .tup [kV k, v]) (s.none hT)
  exact ⟨upd Gc T (.tup [kV k, v]), .tup [kD k, d'], Tr.new s _ hT, by rw [List.getElem?_map, e']; rfl, .tup upd_same (.cons (kD_rep _ k) (.cons ((p.mono g).mono gn) .nil))⟩
def asDicK : DV → R (List DV)
  | .dic kvs => .ok (kvs.map fun kv => kD kv.1)
  | _ => .bad
def asDicV : DV → R (List DV)
  | .dic kvs => .ok (kvs.map fun kv => kv.2)
  | _ => .bad
def asDicI : DV → R (List DV)
  | .dic kvs => .ok (kvs.map fun kv => .tup [kD kv.1, kv.2])
  | _ => .bad
theorem di_keys (A : PD X W iter fa) : PID X W tg iter (xSrc asDicK fa) := by
  obtain ⟨ta, pa, ha⟩ := A.ex
  refine ⟨_, pi_keys pa, fun {B0 G H δ σ Q} S h => ?_⟩
  refine ha S (Rq.bind (rep := DRep X.K) h fun x ex v H1 G1 t1 r1 h1 => ?_)
  cases r1 with
  | @dic a1 o vs ds e0 r => exact ⟨a1, o, rfl, .inl ⟨vs, t1.gh _ _ e0, h1 _ H1 G1 (Tr.refl t1.gh) (walks_keys e0 r.to)⟩⟩
  | _ => exact h1.elim
theorem di_values {apos cpos : Pos} (A : PD X W a fa) (hbase : attributeBase a "values" X.env (eval a X.env) = eval a X.env := by rfl) (hline : (apos.endLine == cpos.line) = true := by rfl) : PID X W tg (.Call (.Attribute a "values" apos) [] [] cpos) (xSrc asDicV fa) := by
  obtain ⟨ta, pa, ha⟩ := A.ex
  refine ⟨_, pi_values pa hbase hline, fun {B0 G H δ σ Q} S h => ?_⟩
  refine ha S (Rq.bind (rep := DRep X.K) h fun x ex v H1 G1 t1 r1 h1 => ?_)
  cases r1 with
  | @dic a1 o vs ds e0 r => exact ⟨a1, o, vs, rfl, t1.gh _ _ e0, h1 _ H1 G1 (Tr.refl t1.gh) (walks_vals e0 r.to)⟩
  | _ => exact h1.elim
theorem di_items {apos cpos tpos : Pos} {elts : List Expr} {kk : Nat} (A : PD X W a fa) (hbase : attributeBase a "items" X.env (eval a X.env) = eval a X.env := by rfl) (hline : (apos.endLine == cpos.line) = true := by rfl) : PID X W (.Tuple elts kk tpos) (.Call (.Attribute a "items" apos) [] [] cpos) (xSrc asDicI fa) := by
  obtain ⟨ta, pa, ha⟩ := A.ex
  refine ⟨_, pi_items pa hbase hline, fun {B0 G H δ σ Q} S h => ?_⟩
  refine ha S (Rq.bind (rep := DRep X.K) h fun x ex v H1 G1 t1 r1 h1 => ?_)
  cases r1 with
  | @dic a1 o vs ds e0 r => exact ⟨a1, o, vs, rfl, t1.gh _ _ e0, h1 _ H1 G1 (Tr.refl t1.gh) (walks_items e0 r.to)⟩
  | _ => exact h1.elim
/-- a list, a tuple, a text, a dict's keys -/
def asAnyU : DV → R (List DV)
  | .dic kvs => .ok (kvs.map fun kv => kD kv.1)
  | x => asAny x
theorem di_anyU (A : PD X W iter fa) : PID X W tg iter (xSrc asAnyU fa) := by
  obtain ⟨wl, pl, hl⟩ := (di_any (tg := tg) A).ex
  obtain ⟨wk, pk, hk⟩ := (di_keys (tg := tg) A).ex
  refine ⟨_, PI.or pl pk, fun {B0 G H δ σ Q} S h => ?_⟩
  unfold xSrc at h
  cases q : fa δ with
  | bad => rw [q] at h; exact h.elim
  | exc c fs => exact .inl (hl S (by unfold xSrc; rw [q] at h ⊢; exact h))
  | ok d =>
    rw [q] at h
    cases d with
    | dic kvs => exact .inr (hk S (by unfold xSrc; rw [q]; exact h))
    | _ => exact .inl (hl S (by unfold xSrc; rw [q]; exact h))
/-! ### stars -/
def asStar : DV → R (List DV)
  | .tup xs => .ok xs
  | .lst xs => .ok xs
  | .ro xs => .ok xs
  | _ => .bad
def xStar (fa : Ev → R DV) (r : Ev → R (List DV)) : Ev → R (List DV) := fun δ => (fa δ).bind fun x => (asStar x).bind fun xs => (r δ).bind fun ys => .ok (xs ++ ys)
theorem da_star (A : PD X W a fa) (B : PDA X W es fes) (hs : starEach (.Starred a p :: es) X.env = (true, eval a X.env) :: starEach es X.env := by rfl) : PDA X W (.Starred a p :: es) (xStar fa fes) := by
  obtain ⟨ta, pa, ha⟩ := A.ex
  obtain ⟨tb, pb, hb⟩ := B.ex
  refine ⟨_, StX.pa_star pa pb hs, fun {B0 G H δ σ Q} S h => ?_⟩
  refine ha S (Rq.bind (rep := DRep X.K) h fun x ex v H1 G1 t1 r1 h1 => ?_)
  have go : ∀ {q : Addr} {vs : List V} {ds : List DV}, DReps X.K G1 vs ds → (SqT X.K H1 q vs ∨ SqL X.K H1 q vs) → Rq X.K (DReps X.K) (fun c d H' => W c d σ H') G1 H1 ((fes δ).bind fun ys => .ok (ds ++ ys)) Q → ∃ p xs, V.ref q = V.ref p ∧ (SqT X.K H1 p xs ∨ SqL X.K H1 p xs) ∧ tb σ H1 fun ys H2 => Q (xs ++ ys) H2 := fun {q vs ds} r hs h2 =>
    ⟨q, vs, rfl, hs, hb (S.step t1) (Rq.bind (rep := DReps X.K) h2 fun ys ey ws H2 G2 t2 r2 h3 => Rq.ok_self (rep := DReps X.K) t2.gh h3 ((r.mono t2.gg).append r2))⟩
  cases r1 with
  | tup e r => exact go r (.inl (SqT.of (t1.gh _ _ e))) h1
  | lst e r => exact go r (.inr (SqL.of (t1.gh _ _ e))) h1
  | ro e r => exact go r (.inr (Same.seq t1.gh e)) h1
  | _ => exact h1.elim
/-! ### xs.index(x) -/
def oIndex : DV → DV → R DV := fun l x => match l, x with
  | .lst ds, .str z => (match strsOf ds with
    | some ys => if decide (z ∈ ys) then .ok (.int (ys.idxOf z : Nat)) else .bad
    | none => .bad)
  | _, _ => .bad
theorem mt_index : MtR X "list.index" (fun x xs H Q => ∃ p, ∃ ys : List Str, ∃ z, x = .ref p ∧ xs = [.str z] ∧ SqL X.K H p (ys.map V.str) ∧ z ∈ ys ∧ Q (.int (ys.idxOf z : Nat)) H) := by
  intro pins s σ H x xs v us Q I rx rs ⟨p, ys, z, ex, exs, hq, hz, q⟩
  subst ex exs
  cases rx
  obtain ⟨u, rfl, t, rfl⟩ := vals1 rs
  obtain ⟨its, r, pl, hl⟩ := I.list hq
  exact PySem.SeqAt.list_index_strs pl.isList (strsAre_of r) (by rw [List.length_map] at hl; exact hl) hz ⟨.int _, H, I.tok _, ⟨_, rfl⟩, q⟩
theorem od_index : ∀ {G H : Hp} {x y : V} {dx dy : DV} {Q : VK} {W : Value → Option Addr → Hp → Prop}, Same G H → DRep X.K G x dx → DRep X.K G y dy → Rq X.K (DRep X.K) W G H (oIndex dx dy) Q →
    ∃ p, ∃ ys : List Str, ∃ z, x = .ref p ∧ [y] = [V.str z] ∧ SqL X.K H p (ys.map V.str) ∧ z ∈ ys ∧ Q (.int (ys.idxOf z : Nat)) H := by
  intro G H x y dx dy Q W s rx ry h
  cases rx with
  | @lst a1 vs ds e r =>
    cases ry with
    | str z =>
      have h2 : Rq X.K (DRep X.K) W G H (match strsOf ds with
        | some ys => if decide (z ∈ ys) = true then .ok (.int (ys.idxOf z : Nat)) else .bad
        | none => .bad) Q := h
      cases q : strsOf ds with
      | none => rw [q] at h2; exact h2.elim
      | some ys =>
        rw [q] at h2
        obtain ⟨c, h3⟩ := rq_if h2
        rw [strsOf_rep r q] at e
        exact ⟨a1, ys, z, rfl, rfl, SqL.of (s _ _ e), of_decide_eq_true c, Rq.ok_self (rep := DRep X.K) s h3 (.int _)⟩
    | _ => exact h.elim
  | _ => cases ry <;> exact h.elim
def isLstD : DV → Bool
  | .lst _ => true
  | _ => false
def xIdx (fa fb : Ev → R DV) : Ev → R DV := fun δ => (fa δ).bind fun x => if isLstD x = true then (fb δ).bind (oIndex x) else .bad
theorem d_index {apos cpos : Pos} (A : PD X W a fa) (B : PD X W b fb) (hs : starEach (b :: []) X.env = (false, eval b X.env) :: starEach [] X.env := by rfl) (hbase : attributeBase a "index" X.env (eval a X.env) = eval a X.env := by rfl)
    (hfew : ((backTo cpos (starEach [b] X.env)).all (fun x => !x.1) && (backToKw cpos (keywordEach [] X.env)).all (fun x => x.1.isSome)
      && decide (([b] : List Expr).length + ([] : List Keyword).length + (if ([] : List Keyword).isEmpty then 0 else 1) < 30)) = true := by rfl)
    (hline : (apos.endLine == cpos.line) = true := by rfl) : PD X W (.Call (.Attribute a "index" apos) [b] [] cpos) (xIdx fa fb) := by
  obtain ⟨ta, pa, ha⟩ := A.ex
  obtain ⟨tb, pb, hb⟩ := B.ex
  refine ⟨_, pe_bm F.plainAttrs_list F.slot_list_index F.type_list_index mt_index pa (pa_cons pb pa_nil hs) hbase hfew hline hs, fun {B0 G H δ σ Q} S h => ?_⟩
  refine ha S (Rq.bind (rep := DRep X.K) h fun x ex v H1 G1 t1 r1 h1 => ?_)
  cases hl : isLstD x with
  | false => rw [hl] at h1; exact h1.elim
  | true =>
    rw [hl, if_pos rfl] at h1
    refine ⟨?_, hb (S.step t1) (Rq.bind (rep := DRep X.K) h1 fun y ey w H2 G2 t2 r2 h2 => od_index t2.gh (r1.mono t2.gg) r2 h2)⟩
    cases r1 with
    | lst e r => exact .inl ⟨rfl, _, SqL.of (t1.gh _ _ e)⟩
    | _ => cases hl
/-! ### x.extend(e), x's own list -/
def sExt (i : Nat) (f : Ev → R DV) : Ev → SR := fun δ => match δ[i]? with
  | some (.ol ds) => xS (f δ) δ fun d => (match d with
    | .lst es => if Nat.ble (ds.length + es.length) 16777216 then .nx (δ.set i (.ol (ds ++ es))) else .bad
    | _ => .bad)
  | _ => .bad
theorem ds_ext (i : Nat) {x : Str} {pos' p3 p4 : Pos} (A : PD X W a fa) (hN : X.N[i]? = some x := by rfl) (hv : Vis X.env.scope x := by first | exact Or.inl rfl | exact Or.inr (Or.inl rfl) | exact Or.inr (Or.inr rfl)) (hd : (x == ("__debug__" : Str)) = false := by decide)
    (hcd : (x == ("__classdict__" : Str)) = false := by decide)
    (hs : starEach (a :: []) X.env = (false, eval a X.env) :: starEach [] X.env := by rfl) (hbase : attributeBase (.Name x pos') "extend" X.env (eval (.Name x pos') X.env) = eval (.Name x pos') X.env := by rfl)
    (hfew : ((backTo p4 (starEach [a] X.env)).all (fun x => !x.1) && (backToKw p4 (keywordEach [] X.env)).all (fun x => x.1.isSome)
      && decide (([a] : List Expr).length + ([] : List Keyword).length + (if ([] : List Keyword).isEmpty then 0 else 1) < 30)) = true := by rfl)
    (hline : (p3.endLine == p4.line) = true := by rfl) (hsw : swapsWith (.Call (.Attribute (.Name x pos') "extend" p3) [a] [] p4) none pos.line X.env = pure false := by rfl) :
    PSD X W (.Expr (.Call (.Attribute (.Name x pos') "extend" p3) [a] [] p4) pos) (sExt i fa) := by
  obtain ⟨ta, pa, ha⟩ := A.ex
  have pv' : PE X (.Name x pos') (tVar i) := L2.pv i hN hv hd hcd
  refine ⟨_, ps_expr (pe_bm F.plainAttrs_list F.slot_list_extend F.type_list_extend mt_extend pv' (pa_cons pa pa_nil hs) hbase hfew hline hs) hsw, fun {B0 G H δ σ D} S h => ?_⟩
  unfold sExt at h
  split at h
  · rename_i ds e
    obtain ⟨p, es, h0, hg, vs, hp, r⟩ := S.own e rfl
    refine ⟨_, es, .inl ⟨rfl, _, SqL.of hp⟩, ha S (SRq.of S h fun d ed v H1 G1 t1 r1 h1 => ?_)⟩
    cases r1 with
    | @lst b ws ys e1 r1 =>
      have h2 : SRq X.K W D B0 G1 (if Nat.ble (ds.length + ys.length) 16777216 = true then .nx (δ.set i (.ol (ds ++ ys))) else .bad) := h1
      cases c : Nat.ble (ds.length + ys.length) 16777216 with
      | false => rw [c] at h2; exact h2.elim
      | true =>
        rw [c, if_pos rfl] at h2
        have S1 := S.step t1
        have hp1 := t1.sm _ _ hp
        have hg1 : G1 p = none := by rw [t1.nw p (by rw [hp]; simp)]; exact hg
        refine ⟨p, b, vs, ws, rfl, rfl, hp1, t1.gh _ _ e1, ?_, ?_⟩
        · rw [r.length, r1.length, sizeLine_eq]; exact Nat.le_of_ble_eq_true c
        · exact h2 _ _ _ (Same.refl _) (own_upd S1 e rfl es h0 hg1 rfl (fun _ _ z => nomatch z) ⟨vs ++ ws, upd_same, (r.mono t1.gg).append r1⟩)
    | _ => exact h1.elim
  · exact h.elim
/-! ### while -/
def whileD (c : Ev → R Bool) (F : Ev → SR) : Nat → Ev → SR
  | 0, _ => .bad
  | n + 1, δ => xS (c δ) δ fun b => if b = true then (match F δ with
    | .nx δ' => whileD c F n δ'
    | .ct δ' => whileD c F n δ'
    | .bk δ' => .nx δ'
    | .rt d => .rt d
    | .ex cl fs δ' => .ex cl fs δ'
    | .bad => .bad) else .nx δ
def sWhile (n : Nat) (c : Ev → R Bool) (F : Ev → SR) : Ev → SR := whileD c F n
theorem ds_while (n : Nat) {sts : List Stmt} {gc : Ev → R Bool} {F : Ev → SR} (hp : PassesOwn (model X.prog X.w) X.A X.env X.xe) (C : PDT X W c gc) (B : PSSD X W sts F) : PSD X W (.While c sts [] pos) (sWhile n gc F) := by
  obtain ⟨tc, pc, hc⟩ := C.ex
  obtain ⟨tb, pb, hb⟩ := B.ex
  refine ⟨_, ps_while hp pc pb, fun {B0 G H δ σ D} S h => ?_⟩
  refine ⟨fun m σ H => ∃ δ' G', Same G G' ∧ SOk X.K B0 G' H δ' σ ∧ SRq X.K W D B0 G' (whileD gc F m δ'), ⟨n, δ, G, Same.refl _, S, h⟩, ?_⟩
  rintro m σ H ⟨δ', G', gg, S', q⟩
  cases m with
  | zero => exact q.elim
  | succ m =>
    unfold whileD at q
    refine hc S' (SRq.of S' q fun b eb k H1 G1 t1 r1 q1 => ?_)
    cases r1
    have S1 := S'.step t1
    cases b with
    | false =>
      rw [if_neg (by decide)] at q1 ⊢
      exact q1 σ H1 G1 (Same.refl _) S1
    | true =>
      rw [if_pos rfl] at q1 ⊢
      refine ⟨fun σ' H' => ∃ δ2 G2, Same G G2 ∧ SOk X.K B0 G2 H' δ2 σ' ∧ SRq X.K W D B0 G2 (whileD gc F m δ2), fun σ' H' z => ⟨m, Nat.lt_succ_self m, z⟩, hb S1 ?_⟩
      have gg1 := gg.trans t1.gg
      cases eF : F δ' with
      | nx δ2 => rw [eF] at q1; exact fun σ4 H4 G4 g4 S4 => ⟨δ2, G4, gg1.trans g4, S4, q1.gg g4⟩
      | ct δ2 => rw [eF] at q1; exact fun σ4 H4 G4 g4 S4 => ⟨δ2, G4, gg1.trans g4, S4, q1.gg g4⟩
      | bk δ2 => rw [eF] at q1; exact q1
      | rt d => rw [eF] at q1; exact q1
      | ex c fs δ2 => rw [eF] at q1; exact q1
      | bad => rw [eF] at q1; exact q1
end
end LD

set_option maxHeartbeats 2000000
/-! Layer D, part R: a class's own len, in, [], (). -/
namespace LD
open PySem PySem.Spec PyProof.Rows L2

/-- the class c finds its method m, a plain def -/
def ownB (c m : Str) : Fk := fun K => kcB c K && (He.Fa.meth c m).ok K && PySem.W.fnIn K (He.ma K (He.ga K c) m)
structure OwnM (K : PySem.W.Frag) (c m : Str) : Prop where
  kc : KC K c
  me : Meth K (He.ga K c) m (He.ma K (He.ga K c) m)
  fn : PySem.W.fnIn K (He.ma K (He.ga K c) m) = true
theorem ownB_ok {K : PySem.W.Frag} {c m : Str} (h : ownB c m K = true) : OwnM K c m := by
  obtain ⟨h1, h2⟩ := He.ba h
  obtain ⟨h1, h3⟩ := He.ba h1
  exact ⟨kcB_ok h1, He.meth_ok h3, h2⟩
section
variable {X : Cx} {W : WX} {a b c e : Expr} {es : List Expr} {fa fb fc : Ev → R DV} {fes : Ev → R (List DV)} {pos p : Pos} {k j : Nat} {ps : List Str} {m : Mir} {cn : Str}
theorem ins_at {pins : List (Addr × Obj)} {σ : L2.St} {H : Hp} {s : Shared} {a C dx : Addr} {fs : List (Str × V)} (I : Inv X pins σ H s) (h : H a = some (.ins C dx fs)) : ∃ od, PySem.W.InstAt s.heap a (PySem.W.instObj C dx) C (some od) := by
  obtain ⟨mA, J, _⟩ := ins_get I.hok h
  obtain ⟨od, J, _⟩ := J.look
  exact ⟨od, J⟩

/-! ### in -/
def rInO (sp : Sp) (K : PySem.W.Frag) (c : Str) (neg : Bool) : R2 := fun x y H Q => ∃ b dx fs, y = .ref b ∧ H b = some (.ins (He.ga K c) dx fs) ∧ sp [y, x] H (fun v H' => ∃ k, v = .bl k ∧ Q (.bl (if neg then !k else k)) H') E0
theorem or_inO {neg : Bool} {sp : Sp} (o : OwnM X.K cn "__contains__") (F : FO X.prog X.w X.K X.mg X.base k (He.ma X.K (He.ga X.K cn) "__contains__") ps sp) (hr : Room j X.A) (hj : k ≤ j) : OpR X (compareOp (if neg then .NotIn else .In)) (rInO sp X.K cn neg) := by
  intro pins s σ H x y v u Q I rx ry ⟨b, dx, fs, ey, hb, hsp⟩
  subst ey
  obtain rfl : u = Value.ref b := ry
  obtain ⟨fd, F, hbn⟩ := F
  obtain ⟨od, J⟩ := ins_at I hb
  obtain ⟨mm, hF⟩ := I.fr
  have go := run_fn (Q := fun v H' => ∃ k, v = V.bl k ∧ Q (.bl (if neg then !k else k)) H') (E := E0) (us := [.ref b, v]) (vs := [.ref b, x]) F (hr.mono hj) hbn .nil passL I (.cons rfl (.cons rx .nil)) (by simpa using hsp)
  have fin : wpAny (model X.prog X.w) X.A (call (.ref (He.ma X.K (He.ga X.K cn) "__contains__")) [.ref b, v]) (fun r s' => wpAny (model X.prog X.w) X.A (truthy r) (fun bb => EP X pins σ Q (.bool (if neg then !bb else bb))) X.xe s') X.xe s := by
    refine wpAny_mono go (fun r s' hq => ?_) fun _ _ z => z
    obtain ⟨z, H', I', rz, kk, ek, q⟩ := hq
    subst ek
    cases (show r = Value.bool kk from rz)
    exact wpAny_truthy_bool ⟨.bl _, H', I', rfl, q⟩
  cases neg with
  | true => exact PySem.W.notIn_K hF I.ok.mod.kin J o.me.at_ o.me.fn fin
  | false => exact PySem.W.in_K hF I.ok.mod.kin J o.me.at_ o.me.fn fin
/-- in, an instance of the class cn to the right too -/
def oInV (neg : Bool) (cn : Str) (m : Mir) (x y : DV) : R DV := match y with
  | .obj c fs => if c = cn then (match m [.obj c fs, x] with
    | .ok (.bl b) => .ok (.bl (if neg then !b else b))
    | _ => .bad) else .bad
  | y => oInU neg x y
theorem od_inV {neg : Bool} : OpD X (fun x y H Q => rInU X neg x y H Q ∨ rInO (spD X.K m) X.K cn neg x y H Q) (oInV neg cn m) := fun {G H x y dx dy Q W} s rx ry h => by
  by_cases hd : ∃ c fs, dy = .obj c fs
  · obtain ⟨c, fs, rfl⟩ := hd
    cases ry with
    | @obj b dx' _ vs _ e r =>
      have h2 : Rq X.K (DRep X.K) W G H (if c = cn then (match m [.obj c fs, dx] with
        | .ok (.bl b) => .ok (.bl (if neg then !b else b))
        | _ => .bad) else .bad) Q := h
      by_cases q : c = cn
      · rw [if_pos q] at h2
        subst q
        refine .inr ⟨b, dx', vs, rfl, s _ _ e, G, [.obj c fs, dx], s, .cons (.obj e r) (.cons rx .nil), ?_⟩
        split at h2
        · rename_i bb eb
          rw [eb]
          intro v H' G' t rv
          cases rv
          exact ⟨bb, rfl, h2 (.bl _) H' G' t (.bl _)⟩
        · exact h2.elim
      · rw [if_neg q] at h2; exact h2.elim
  · have e : oInV neg cn m dx dy = oInU neg dx dy := by
      cases dy with
      | obj c fs => exact absurd ⟨c, fs, rfl⟩ hd
      | _ => rfl
    rw [e] at h
    exact .inl (od_inU s rx ry h)
theorem or_inV {neg : Bool} (hB : ownB cn "__contains__" X.K = true) (F : FO X.prog X.w X.K X.mg X.base k (He.ma X.K (He.ga X.K cn) "__contains__") ps (spD X.K m)) (hr : Room j X.A) (hj : k ≤ j) :
    OpR X (compareOp (if neg then .NotIn else .In)) (fun x y H Q => rInU X neg x y H Q ∨ rInO (spD X.K m) X.K cn neg x y H Q) := by
  cases neg with
  | true => exact OpR.or (or_notin hr) (or_inO (neg := true) (ownB_ok hB) F hr hj)
  | false => exact OpR.or (or_in hr) (or_inO (neg := false) (ownB_ok hB) F hr hj)
/-! ### len -/
def rLenO (sp : Sp) (K : PySem.W.Frag) (c : Str) : List V → Hp → VK → Prop := fun xs H Q => ∃ b dx fs, xs = [V.ref b] ∧ H b = some (.ins (He.ga K c) dx fs) ∧ sp xs H (fun v H' => ∃ n : Int, v = .int n ∧ 0 ≤ n ∧ n < 2 ^ 63 ∧ Q (.int n) H') E0
def oLenV (cn : Str) (m : Mir) : List DV → R DV
  | [.obj c fs] => if c = cn then (match m [.obj c fs] with
    | .ok (.int n) => if decide (0 ≤ n) && decide (n < 2 ^ 63) then .ok (.int n) else .bad
    | _ => .bad) else .bad
  | xs => oLenU xs
theorem call_lenO {sp : Sp} (o : OwnM X.K cn "__len__") (F : FO X.prog X.w X.K X.mg X.base k (He.ma X.K (He.ga X.K cn) "__len__") ps sp) (hr : Room j X.A) (hj : k + 1 ≤ j) : CallR X (.builtin "len") (rLenO sp X.K cn) := by
  intro pins s σ H xs us Q I r ⟨b, dx, fs, exs, hb, hsp⟩
  subst exs
  obtain ⟨u, rfl, ru⟩ := vals1 r
  obtain rfl : u = Value.ref b := ru
  obtain ⟨fd, F, hbn⟩ := F
  obtain ⟨od, J⟩ := ins_at I hb
  obtain ⟨mm, hF⟩ := I.fr
  refine PySem.W.len_K hF I.ok.mod.kin J o.me.at_ o.me.fn ?_
  have hr1 : Room k X.A.in1 := (hr.mono hj).in1
  have hl := F.len _ _ _ _ hsp
  have b0 := hbn s [.ref b] I.kIn (by simpa using hl)
  refine wpAny_call (codeAny_mono (F.run X.A.in1 X.stack s H ⟨[.ref b], []⟩ [.ref b] [.ref b] _ E0 hr1 I.env0.in1 (by simpa using b0) (.cons rfl .nil) hsp) fun r' s' hq => ?_)
  cases r' with
  | error er => exact (passL (X := X) pins σ H s er s' I hq)
  | ok fl =>
    cases fl with
    | ret w =>
      obtain ⟨v, H', I', rv, n, en, h0, h1, q⟩ := I.after hq
      subst en
      obtain ⟨t, ew⟩ : ∃ t, w = Value.int n t := rv
      subst ew
      exact ⟨⟨h0, h1⟩, ⟨.int n, H', I'.tok _, ⟨_, rfl⟩, q⟩⟩
    | next => exact False.elim hq
    | brk => exact False.elim hq
    | cont => exact False.elim hq
def rLenV (sp : Sp) (X : Cx) (c : Str) : List V → Hp → VK → Prop := fun xs H Q => rLenU X xs H Q ∨ rLenO sp X.K c xs H Q
theorem call_lenV (hB : ownB cn "__len__" X.K = true) (F : FO X.prog X.w X.K X.mg X.base k (He.ma X.K (He.ga X.K cn) "__len__") ps (spD X.K m)) (hr : Room j X.A) (hj : k + 1 ≤ j) : CallR X (.builtin "len") (rLenV (spD X.K m) X cn) :=
  CallR.or call_lenU (call_lenO (ownB_ok hB) F hr hj)
theorem cb_lenV : CbD X (rLenV (spD X.K m) X cn) (oLenV cn m) := fun {G H vs ds Q W} s r h => by
  by_cases hd : ∃ c fs, ds = [.obj c fs]
  · obtain ⟨c, fs, rfl⟩ := hd
    cases r with
    | cons ra rb =>
      cases rb
      cases ra with
      | @obj b dx' _ vs _ e r =>
        have h2 : Rq X.K (DRep X.K) W G H (if c = cn then (match m [.obj c fs] with
          | .ok (.int n) => if decide (0 ≤ n) && decide (n < 2 ^ 63) then .ok (.int n) else .bad
          | _ => .bad) else .bad) Q := h
        by_cases q : c = cn
        · rw [if_pos q] at h2
          subst q
          refine .inr ⟨b, dx', vs, rfl, s _ _ e, G, [.obj c fs], s, .cons (.obj e r) .nil, ?_⟩
          split at h2
          · rename_i n en
            rw [en]
            split at h2
            · rename_i hn
              obtain ⟨h0, h1⟩ := He.ba hn
              intro v H' G' t rv
              cases rv
              exact ⟨n, rfl, of_decide_eq_true h0, of_decide_eq_true h1, h2 (.int _) H' G' t (.int _)⟩
            · exact h2.elim
          · exact h2.elim
        · rw [if_neg q] at h2; exact h2.elim
  · have e : oLenV cn m ds = oLenU ds := by
      unfold oLenV
      split
      · rename_i c fs; exact absurd ⟨c, fs, rfl⟩ hd
      · rfl
    rw [e] at h
    exact .inl (cb_lenU s r h)
/-! ### two names at once, lists of their own; three names -/
def sParVL (i j : Nat) (fa : Ev → R DV) : Ev → SR := fun δ => xS (fa δ) δ fun d => .nx ((δ.set j (.ol [])).set i (.pu d))
theorem ds_parVL (i j : Nat) {x y : Str} {px py pt p2 : Pos} {kt k2 pt2} (hc : X.calm = true) (hN : X.N.Nodup) (A : PD X W a fa) (hi : X.N[i]? = some x := by rfl) (hj : X.N[j]? = some y := by rfl) (hij : i ≠ j := by decide)
    (hx : X.env.scope.names.lookup x = some .local := by rfl) (hy : X.env.scope.names.lookup y = some .local := by rfl)
    (hw : swappedStores [.Tuple [.Name x px, .Name y py] kt pt] (.Tuple [a, .List [] p2] k2 pt2) X.env = pure (some [x, y]) := by rfl)
    (hs : swapsWithSole [.Tuple [.Name x px, .Name y py] kt pt] (.Tuple [a, .List [] p2] k2 pt2) pos.line X.env = pure false := by rfl)
    (hs1 : starEach (a :: [.List [] p2]) X.env = (false, eval a X.env) :: starEach [.List [] p2] X.env := by rfl) (hs2 : starEach (.List [] p2 :: []) X.env = (false, eval (.List [] p2) X.env) :: starEach [] X.env := by rfl) :
    PSD X W (.Assign [.Tuple [.Name x px, .Name y py] kt pt] (.Tuple [a, .List [] p2] k2 pt2) pos) (sParVL i j fa) := by
  obtain ⟨ta, pa, ha⟩ := A.ex
  refine ⟨_, L2.ps_par hc hN hi hj hij hx hy (pa_cons pa (pa_cons (pe_lst pa_nil) pa_nil hs2) hs1) hw hs, fun {B0 G H δ σ D} S h => ?_⟩
  refine ha S (SRq.of S h fun d e v H1 G1 t1 r1 h1 => ?_)
  refine ⟨by decide, fun p hp => ⟨v, .ref p, rfl, ?_⟩⟩
  have S2 := (own_new (S.step t1) (s := .ol []) j hp rfl (fun _ _ z => nomatch z) ⟨[], upd_same, .nil⟩).set i r1

  exact h1 _ _ _ (Same.refl _) (by rw [List.set_comm _ _ hij]; exact S2)
def sParLL (i j : Nat) : Ev → SR := fun δ => .nx ((δ.set i (.ol [])).set j (.ol []))
theorem ds_parLL (i j : Nat) {x y : Str} {px py pt p1 p2 : Pos} {kt k2 pt2} (hc : X.calm = true) (hN : X.N.Nodup) (hi : X.N[i]? = some x := by rfl) (hj : X.N[j]? = some y := by rfl) (hij : i ≠ j := by decide)
    (hx : X.env.scope.names.lookup x = some .local := by rfl) (hy : X.env.scope.names.lookup y = some .local := by rfl)
    (hw : swappedStores [.Tuple [.Name x px, .Name y py] kt pt] (.Tuple [.List [] p1, .List [] p2] k2 pt2) X.env = pure (some [x, y]) := by rfl)
    (hs : swapsWithSole [.Tuple [.Name x px, .Name y py] kt pt] (.Tuple [.List [] p1, .List [] p2] k2 pt2) pos.line X.env = pure false := by rfl)
    (hs1 : starEach (.List [] p1 :: [.List [] p2]) X.env = (false, eval (.List [] p1) X.env) :: starEach [.List [] p2] X.env := by rfl) (hs2 : starEach (.List [] p2 :: []) X.env = (false, eval (.List [] p2) X.env) :: starEach [] X.env := by rfl) :
    PSD X W (.Assign [.Tuple [.Name x px, .Name y py] kt pt] (.Tuple [.List [] p1, .List [] p2] k2 pt2) pos) (sParLL i j) := by
  refine ⟨_, L2.ps_par hc hN hi hj hij hx hy (pa_cons (pe_lst pa_nil) (pa_cons (pe_lst pa_nil) pa_nil hs2) hs1) hw hs, fun {B0 G H δ σ D} S h => ?_⟩
  refine ⟨by decide, fun p hp => ⟨by decide, fun q hq => ⟨.ref p, .ref q, rfl, ?_⟩⟩⟩
  have S1 := own_new S (s := .ol []) i hp rfl (fun _ _ z => nomatch z) ⟨[], upd_same, .nil⟩
  exact h _ _ _ (Same.refl _) (own_new S1 (s := .ol []) j hq rfl (fun _ _ z => nomatch z) ⟨[], upd_same, .nil⟩)
def sPar3 (i j l : Nat) (fa fb fc : Ev → R DV) : Ev → SR := fun δ => xS (fa δ) δ fun d => xS (fb δ) δ fun e => xS (fc δ) δ fun g => .nx (((δ.set i (.pu d)).set j (.pu e)).set l (.pu g))
theorem ds_par3 (i j l : Nat) {c : Expr} {x y z : Str} {px py pz pt : Pos} {kt k2 pt2} (hc : X.calm = true) (hN : X.N.Nodup) (A : PD X W a fa) (B : PD X W b fb) (C : PD X W c fc) (hi : X.N[i]? = some x := by rfl) (hj : X.N[j]? = some y := by rfl) (hl : X.N[l]? = some z := by rfl) (hij : i ≠ j := by decide) (hil : i ≠ l := by decide) (hjl : j ≠ l := by decide)
    (hx : X.env.scope.names.lookup x = some .local := by rfl) (hy : X.env.scope.names.lookup y = some .local := by rfl) (hz : X.env.scope.names.lookup z = some .local := by rfl)
    (hw : swappedStores [.Tuple [.Name x px, .Name y py, .Name z pz] kt pt] (.Tuple [a, b, c] k2 pt2) X.env = pure (some [x, y, z]) := by rfl)
    (hs : swapsWithSole [.Tuple [.Name x px, .Name y py, .Name z pz] kt pt] (.Tuple [a, b, c] k2 pt2) pos.line X.env = pure false := by rfl)
    (hs1 : starEach (a :: [b, c]) X.env = (false, eval a X.env) :: starEach [b, c] X.env := by rfl) (hs2 : starEach (b :: [c]) X.env = (false, eval b X.env) :: starEach [c] X.env := by rfl) (hs3 : starEach (c :: []) X.env = (false, eval c X.env) :: starEach [] X.env := by rfl) :
    PSD X W (.Assign [.Tuple [.Name x px, .Name y py, .Name z pz] kt pt] (.Tuple [a, b, c] k2 pt2) pos) (sPar3 i j l fa fb fc) := by
  obtain ⟨ta, pa, ha⟩ := A.ex
  obtain ⟨tb, pb, hb⟩ := B.ex
  obtain ⟨tc, pc, hc'⟩ := C.ex
  refine ⟨_, L2.ps_par3 hc hN hi hj hl hij hil hjl hx hy hz (pa_cons pa (pa_cons pb (pa_cons pc pa_nil hs3) hs2) hs1) hw hs, fun {B0 G H δ σ D} S h => ?_⟩
  refine ha S (SRq.of S h fun d e v H1 G1 t1 r1 h1 => ?_)
  refine hb (S.step t1) (SRq.of (S.step t1) h1 fun d' e' v' H2 G2 t2 r2 h2 => ?_)
  refine hc' ((S.step t1).step t2) (SRq.of ((S.step t1).step t2) h2 fun d'' e'' v'' H3 G3 t3 r3 h3 => ?_)
  exact ⟨v, v', v'', rfl, h3 _ _ _ (Same.refl _) ((((((S.step t1).step t2).step t3).set i (r1.mono (t2.gg.trans t3.gg))).set j (r2.mono t3.gg)).set l r3)⟩
/-! ### o[i], o(..): the class's own -/
theorem run_fnS1 {f : Addr} {fd : FuncData} {sp : Sp} {E : L2.St → XK} {CX : CXT} {pins : List (Addr × Obj)} {σ : L2.St} {H : Hp} {s : Shared} {Q : VK} {us : List Value} {vs : List V} (F : FnOk X.prog X.w X.K X.mg X.base CX k f fd ps sp) (hr : Room (k + 1) X.A) (hb : Binds X.K fd ps []) (hx : PassesAt CX X σ (E σ))
    (I : Inv X pins σ H s) (r : Vals vs us) (h : sp vs H Q (E σ)) : wpAny (model X.prog X.w) X.A.in1 (call (.ref f) us) (EP X pins σ Q) X.xe s := by
  have hl : us.length = ps.length := by rw [← r.length]; exact F.len _ _ _ _ h
  have b := hb s us I.kIn (by rw [List.append_nil]; exact hl)
  rw [List.append_nil] at b
  refine wpAny_call (codeAny_mono (F.run X.A.in1 X.stack s H ⟨us, []⟩ us vs Q (E σ) hr.in1 I.env0.in1 b r h) fun r s' hq => ?_)
  cases r with
  | error e => exact hx pins H s e s' I hq
  | ok fl =>
    cases fl with
    | ret u => exact I.after hq
    | next => exact False.elim hq
    | brk => exact False.elim hq
    | cont => exact False.elim hq
theorem d_ixOwn (tk : Takes X W) (hB : ownB cn "__getitem__" X.K = true) (F : FO X.prog X.w X.K X.mg X.base k (He.ma X.K (He.ga X.K cn) "__getitem__") ps (spD X.K m)) (hr : Room j X.A) (hj : k + 1 ≤ j)
    (A : PD X W a fa) (B : PD X W b fb) (hs : ∀ x i, subscripted b true (.ref x) i = runValue (.builtin "lifetime.subscript" ⟨[.ref x, i], []⟩) := by intro _ _; with_unfolding_all rfl) : PD X W (.Subscript a b pos) (xMeth cn "__getitem__" m fa (xCons fb xNil)) := by
  obtain ⟨ta, pa, ha⟩ := A.ex
  obtain ⟨tb, pb, hb⟩ := B.ex
  obtain ⟨fd, F, hbn⟩ := F
  have o := ownB_ok hB
  refine ⟨fun σ H Q => ta σ H fun x H1 => tb σ H1 fun y H2 => ∃ p dx fs, x = .ref p ∧ H2 p = some (.ins (He.ga X.K cn) dx fs) ∧ spD X.K m [x, y] H2 Q (WE W σ), ⟨fun pins s σ H Q I h => ?_⟩, fun {B0 G H δ σ Q} S h => ?_⟩
  · refine Subscript_ (binT pa pb I h fun v u s2 x y H2 I2 rx ry q => ?_)
    obtain ⟨p, dx, fs, ex, e, hsp⟩ := q
    subst ex
    obtain rfl : v = Value.ref p := rx
    obtain ⟨od, J⟩ := ins_at I2 e
    obtain ⟨mm, hF⟩ := I2.fr
    exact PySem.W.sub_K hF I2.ok.mod.kin J o.me.at_ o.fn o.me.fn (run_fnS1 (vs := [.ref p, y]) (E := WE W) F (hr.mono hj) hbn (passAt tk σ) I2 (.cons rfl (.cons ry .nil)) hsp) (hs _ _)
  · refine ha S (Rq.bind (rep := DRep X.K) h fun d e v H1 G1 t1 r1 h1 => ?_)
    cases r1 with
    | obj e1 r =>
      rename_i a1 dx c vs fs
      have h2 : Rq X.K (DRep X.K) (fun c d H' => W c d σ H') G1 H1 (if c = cn then (match fs.lookup ("__getitem__" : Str) with
        | none => (xCons fb xNil δ).bind fun ds => m (.obj c fs :: ds)
        | some _ => .bad) else .bad) Q := h1
      by_cases q : c = cn
      · rw [if_pos q] at h2
        subst q
        cases q2 : fs.lookup ("__getitem__" : Str) with
        | some _ => rw [q2] at h2; exact h2.elim
        | none =>
          rw [q2] at h2
          have h3 : Rq X.K (DRep X.K) (fun c d H' => W c d σ H') G1 H1 ((fb δ).bind fun d => m [.obj c fs, d]) Q := by
            have : ((xCons fb xNil δ).bind fun ds => m (.obj c fs :: ds)) = (fb δ).bind fun d => m [.obj c fs, d] := by
              unfold xCons xNil
              cases fb δ <;> rfl
            rw [← this]; exact h2
          refine hb (S.step t1) (Rq.bind (rep := DRep X.K) h3 fun d ed w H2 G2 t2 r2 h4 => ?_)
          exact ⟨a1, dx, vs, rfl, (t1.trans t2).gh _ _ (t2.gg _ _ e1), G2, [.obj c fs, d], t2.gh, .cons (.obj (t2.gg _ _ e1) (r.mono t2.gg)) (.cons r2 .nil), h4⟩
      · rw [if_neg q] at h2; exact h2.elim
    | _ => exact h1.elim
def xCallO (cn : Str) (m : Mir) (i : Nat) (fes : Ev → R (List DV)) : Ev → R DV := fun δ => (xVar i δ).bind fun d => match d with
  | .obj c fs => if c = cn then (fes δ).bind fun ds => m (.obj c fs :: ds) else .bad
  | _ => .bad
theorem own_callWith {M : Model} {A : Around} {E : Value → Shared → Prop} {s : Shared} {x : Addr} {first : List Value} {Q : Value → Shared → Prop} {args : List (Bool × Sem Value)} {kws : List (Option Str × Sem Value)} (hp : (args.any (·.1) || kws.any (·.1.isNone)) = false)
    (h : wpAny M A (evalArgs (.ref x) true args kws) (fun a t => (∃ ob, t.heap.get? x = some ob ∧ ob.data = .plain) ∧ wpAny M A (call (.ref x) (first ++ a.pos) a.kw) Q E t) E s) : wpAny M A (callWith pos (.ref x) first args kws) Q E s := by
  unfold callWith
  refine wpAny_bind (wpAny_holding (wpAny_mono h (fun a t hh => ?_) fun _ _ z => z))
  obtain ⟨⟨ob, ho, hd⟩, hc⟩ := hh
  refine wpAny_bind (wpAny_standAt ?_)
  have kp : PySem.W.Looks M t.heap (keeperOf (.ref x)) .caller := by
    refine (PySem.W.Looks.ld (part := none) ho).andThen ?_
    rw [hd]
    exact .now
  rw [hp]
  refine wpAny_bind (kp.here ?_)
  exact wpAny_bind (wpAny_mono (wpAny_operateT hc) (fun r t' hr => wpAny_bind (wpAny_holding (wpAny_point (wpAny_pure hr)))) fun _ _ z => z)
theorem d_callO (i : Nat) {x : Str} {p : Pos} (tk : Takes X W) (hB : ownB cn "__call__" X.K = true) (F : FO X.prog X.w X.K X.mg X.base k (He.ma X.K (He.ga X.K cn) "__call__") ps (spD X.K m)) (hr : Room j X.A) (hj : k ≤ j)
    (A : PDA X W (a :: es) fes) (hN : X.N[i]? = some x := by rfl) (hv : Vis X.env.scope x := by first | exact Or.inl rfl | exact Or.inr (Or.inl rfl) | exact Or.inr (Or.inr rfl)) (hdb : (x == ("__debug__" : Str)) = false := by decide) (hcd : (x == ("__classdict__" : Str)) = false := by decide)
    (he : starEach (a :: es) X.env = (false, eval a X.env) :: starEach es X.env := by rfl) (hpl : (backTo pos (starEach es X.env)).any (·.1) = false := by rfl) : PD X W (.Call (.Name x p) (a :: es) [] pos) (xCallO cn m i fes) := by
  obtain ⟨ta, pa, ha⟩ := A.ex
  obtain ⟨fd, F, hbn⟩ := F
  have o := ownB_ok hB
  obtain ⟨tv, pv, hvq⟩ := (d_var (X := X) (W := W) (pos := p) i hN hv hdb hcd).ex
  refine ⟨fun σ H Q => tv σ H fun y H1 => ∃ p dx fs, y = .ref p ∧ H1 p = some (.ins (He.ga X.K cn) dx fs) ∧ ta σ H1 fun vs H2 => H2 p = some (.ins (He.ga X.K cn) dx fs) ∧ spD X.K m (y :: vs) H2 Q (WE W σ), ⟨fun pins s σ H Q I h => ?_⟩, fun {B0 G H δ σ Q} S h => ?_⟩
  · refine wpAny_Call_Name_kw (thn (pv.run pins s σ H _ I h) fun u s1 ⟨y, H1, I1, ry, q⟩ => ?_)
    obtain ⟨q0, dx, fs, ex, e, q⟩ := q
    subst ex
    obtain rfl : u = Value.ref q0 := ry
    rw [he]
    refine own_callWith (first := []) (by show ((false || (backTo pos (starEach es X.env)).any (·.1)) || false) = false; rw [hpl]; rfl) (Calls.evalArgs_plain ?_)
    have run := thn (pa.run pos pins s1 σ H1 _ I1 q) (Q' := fun us s2 => (∃ ob, s2.heap.get? q0 = some ob ∧ ob.data = .plain) ∧ wpAny (model X.prog X.w) X.A (call (.ref q0) ([] ++ us)) (EP X pins σ Q) X.xe s2) fun us s2 ⟨vs, H2, I2, r, e2, q2⟩ => ?_
    · rw [he] at run; exact run
    obtain ⟨od2, J2⟩ := ins_at I2 e2
    refine ⟨⟨_, J2.at_, rfl⟩, ?_⟩
    · refine wpAny_call (PySem.W.kco_code I2.kIn J2 rfl o.me.at_ o.me.fn o.fn ?_)
      have r2 : Vals (.ref q0 :: vs) (.ref q0 :: us) := .cons rfl r
      have hl : (Value.ref q0 :: us).length = ps.length := by rw [← r2.length]; exact F.len _ _ _ _ q2
      have b := hbn s2 (.ref q0 :: us) I2.kIn (by rw [List.append_nil]; exact hl)
      rw [List.append_nil] at b
      refine codeAny_mono (F.run X.A X.stack s2 H2 ⟨.ref q0 :: us, []⟩ (.ref q0 :: us) (.ref q0 :: vs) Q (WE W σ) (hr.mono hj) I2.env0 b r2 q2) fun r' s' hq => ?_
      cases r' with
      | error e => exact passAt tk σ pins H2 s2 e s' I2 hq
      | ok fl =>
        cases fl with
        | ret u => exact I2.after hq
        | next => exact False.elim hq
        | brk => exact False.elim hq
        | cont => exact False.elim hq
  · refine hvq S (Rq.bind (rep := DRep X.K) h fun d e v H1 G1 t1 r1 h1 => ?_)
    cases r1 with
    | obj e1 r =>
      rename_i a1 dx c vs fs
      have h2 : Rq X.K (DRep X.K) (fun c d H' => W c d σ H') G1 H1 (if c = cn then (fes δ).bind fun ds => m (.obj c fs :: ds) else .bad) Q := h1
      by_cases q : c = cn
      · subst q
        rw [if_pos rfl] at h2
        refine ⟨a1, dx, vs, rfl, t1.gh _ _ e1, ha (S.step t1) (Rq.bind (rep := DReps X.K) h2 fun ds ed ws H2 G2 t2 r2 h3 => ?_)⟩
        exact ⟨(t1.trans t2).gh _ _ (t2.gg _ _ e1), G2, .obj c fs :: ds, t2.gh, .cons (.obj (t2.gg _ _ e1) (r.mono t2.gg)) r2, h3⟩
      · rw [if_neg q] at h2; exact h2.elim
    | _ => exact h1.elim
end
end LD

set_option maxHeartbeats 2000000
/-! Layer D, part U: dict comprehensions. -/
namespace LD
open PySem PySem.Spec PyProof.Rows L2

def dcD (g : DV → Ev → R Ev) (ft : Ev → R Bool) (fk fv : Ev → R DV) (δ : Ev) : List DV → R (List (Key × DV))
  | [] => .ok []
  | d :: ds => match g d δ with
    | .ok δ' => (noX (ft δ')).bind fun b => if b = true then (noX (fk δ')).bind fun y => (noX (fv δ')).bind fun z => (R.ofO (asKey y)).bind fun k => (dcD g ft fk fv δ ds).bind fun ys => .ok ((k, z) :: ys) else dcD g ft fk fv δ ds
    | _ => .bad
/-- a comprehension's dict -/
def xDcs (vs : List Nat) (fi : Ev → R (List DV)) (g : DV → Ev → R Ev) (ft : Ev → R Bool) (fk fv : Ev → R DV) : Ev → R (List (Key × DV)) := fun δ => (fi δ).bind fun ds => match dcD g ft fk fv (wipeD δ vs) ds with
  | .ok ys => if small ys.length = true then .ok (mergeD [] ys) else .bad
  | _ => .bad
theorem mergeD_len : ∀ (more kvs : List (Key × DV)), (mergeD kvs more).length ≤ kvs.length + more.length
  | [], kvs => by simp [mergeD]
  | kv :: more, kvs => by
    have h := mergeD_len more (putKD kvs kv.1 kv.2)
    have h2 := putKD_len kvs kv.1 kv.2
    show (mergeD (putKD kvs kv.1 kv.2) more).length ≤ _
    simp only [List.length_cons]
    omega
theorem mergeD_snoc (kvs more : List (Key × DV)) (kv : Key × DV) : mergeD kvs (more ++ [kv]) = putKD (mergeD kvs more) kv.1 kv.2 := by
  unfold mergeD
  rw [List.foldl_append]
  rfl
section
variable {X : Cx} {W : WX} {kx vx tg iter : Expr} {ifs : List Expr} {scope : Scope} {own : List (Str × Nat)} {pos : Pos} {fi : Ev → R (List DV)} {g : DV → Ev → R Ev} {ft : Ev → R Bool} {fk fv : Ev → R DV} {ix : List Nat}
theorem dc_req {wi : TI} {vs : List Nat} {B : Bas} {G H : Hp} {δ : Ev} {σ : L2.St} {Q : VK}
    (hw : ∀ {B : Bas} {G H : Hp} {δ : Ev} {σ : L2.St} {Q : It → Hp → Prop}, SOk X.K B G H δ σ → Rq X.K (fun G' J ds => Walks X.K J ds G') (fun c d H' => W c d σ H') G H (fi δ) Q → wi σ H Q)
    (hix : ∀ i ∈ ix, i ∈ vs) (S : SOk X.K B G H δ σ) (h : DRq X.K (fun c d H' => W c d σ H') G H (xDcs vs fi g ft fk fv δ) Q) : tDc wi (cG X.K ix g) (cT X.K W0 (fun δ => noX (ft δ))) (cE X.K W0 (fun δ => noX (fk δ))) (cE X.K W0 (fun δ => noX (fv δ))) vs σ H Q := by
  refine hw S (DRq.bind (rep := fun G' J ds => Walks X.K J ds G') h fun ds e J H1 G1 t1 wk h1 => ?_)
  intro D hD
  have S1 := S.step t1
  have hgD : G1 D = none := t1.gh.none hD
  have hbD : B.H0 D = none := S1.tr.sm.none hD
  cases ed : dcD g ft fk fv (wipeD δ vs) ds with
  | exc _ _ => rw [ed] at h1; exact h1.elim
  | bad => rw [ed] at h1; exact h1.elim
  | ok ys =>
    rw [ed] at h1
    cases hz : small ys.length with
    | false => dsimp only at h1; rw [hz, if_neg (by decide)] at h1; exact h1.elim
    | true =>
    dsimp only at h1
    rw [hz, if_pos rfl] at h1
    have ltot : ys.length ≤ sizeLine := small_le hz
    have Sw := (S1.wipe vs)
    have hne : ∀ (i : Nat) (s : Sl), (wipeD δ vs)[i]? = some s → isOwn s = true → (wipe σ vs)[i]? ≠ some (some (V.ref D)) := fun i s e o z => by
      obtain ⟨a, es, _, _, oa⟩ := Sw.own e o
      rw [z] at es
      have : D = a := by injection es with es; injection es with es; injection es
      subst this
      exact oa.there hD
    have Sw0 : SOk X.K B G1 (upd H1 D (.dK [])) (wipeD δ vs) (wipe σ vs) := Sw.other hbD hgD hne
    have t0 : Tr G1 H1 G1 (upd H1 D (.dK [])) := Tr.own t1.gh _ hD
    refine ⟨fun i m H => i ≤ ds.length ∧ m = ds.length - i ∧ ∃ G' acc accV zs, Tr G1 H1 G' H ∧ G' D = none ∧ H D = some (.dK accV) ∧ RP X.K G' accV (mergeD [] acc) ∧ SOk X.K B G' H (wipeD δ vs) (wipe σ vs) ∧ dcD g ft fk fv (wipeD δ vs) (ds.drop i) = .ok zs ∧ acc ++ zs = ys,
      ⟨ds.length, Nat.zero_le _, by simp, G1, [], [], ys, t0, hgD, upd_same, .nil, Sw0, by simpa using ed, rfl⟩, ?_⟩
    rintro i m H' ⟨hi, rfl, G', acc, accV, zs, t', hg', hH', rA, S', el, ea⟩
    by_cases hlt : i < ds.length
    · have sG : Same G1 H' := t'.gg.trans S'.gh
      refine .inr ⟨wk.go i H' sG hlt, fun H4 => ∃ G4 acc4 accV4 zs4, Tr G1 H1 G4 H4 ∧ G4 D = none ∧ H4 D = some (.dK accV4) ∧ RP X.K G4 accV4 (mergeD [] acc4) ∧ SOk X.K B G4 H4 (wipeD δ vs) (wipe σ vs) ∧ dcD g ft fk fv (wipeD δ vs) (ds.drop (i + 1)) = .ok zs4 ∧ acc4 ++ zs4 = ys,
        fun H4 z => ⟨ds.length - (i + 1), by omega, hlt, rfl, z⟩, fun x H2 y => ?_⟩
      obtain ⟨G2, d, t2, hd, rd⟩ := wk.yld i H' x H2 G' t'.gg S'.gh hlt y
      have edr : ds.drop i = d :: ds.drop (i + 1) := by
        rw [List.drop_eq_getElem_cons hlt]
        rw [List.getElem?_eq_getElem hlt] at hd
        rw [Option.some.inj hd]
      rw [edr] at el
      unfold dcD at el
      cases eg : g d (wipeD δ vs) with
      | exc _ _ => rw [eg] at el; cases el
      | bad => rw [eg] at el; cases el
      | ok δ' =>
        rw [eg] at el
        dsimp only at el
        refine ⟨B, G2, wipeD δ vs, δ', d, S'.step t2, rd, eg, fun σ' S2 w2 => ⟨by rw [w2 vs hix, wipe_idem], ?_⟩⟩
        cases et : ft δ' with
        | exc _ _ => rw [et] at el; cases el
        | bad => rw [et] at el; cases el
        | ok b =>
          rw [et] at el
          refine ⟨B, G2, δ', S2, ?_⟩
          show Rq X.K BRep _ G2 H2 (LD.noX (ft δ')) _
          rw [et]
          intro b' H3 G3 t3 eb
          cases eb
          cases b with
          | false =>
            rw [if_neg (by decide)]
            have el : dcD g ft fk fv (wipeD δ vs) (ds.drop (i + 1)) = .ok zs := el
            have tt := t2.trans t3
            refine ⟨G3, acc, accV, zs, t'.trans tt, by rw [tt.nw D (by rw [hH']; simp)]; exact hg', tt.sm _ _ hH', rA.mono tt.gg, S'.step tt, el, ea⟩
          | true =>
            rw [if_pos rfl]
            have el : ((LD.noX (fk δ')).bind fun y => (LD.noX (fv δ')).bind fun z => (R.ofO (asKey y)).bind fun k => (dcD g ft fk fv (wipeD δ vs) (ds.drop (i + 1))).bind fun ys => .ok ((k, z) :: ys)) = .ok zs := el
            cases ek : fk δ' with
            | exc _ _ => rw [ek] at el; cases el
            | bad => rw [ek] at el; cases el
            | ok ykey =>
              rw [ek] at el
              refine ⟨B, G3, δ', S2.step t3, ?_⟩
              show Rq X.K (DRep X.K) _ G3 H3 (LD.noX (fk δ')) _
              rw [ek]
              intro uk H4 G4 t4 ruk
              have el : ((LD.noX (fv δ')).bind fun z => (R.ofO (asKey ykey)).bind fun k => (dcD g ft fk fv (wipeD δ vs) (ds.drop (i + 1))).bind fun ys => .ok ((k, z) :: ys)) = .ok zs := el
              cases ev : fv δ' with
              | exc _ _ => rw [ev] at el; cases el
              | bad => rw [ev] at el; cases el
              | ok yv =>
                rw [ev] at el
                refine ⟨B, G4, δ', (S2.step t3).step t4, ?_⟩
                show Rq X.K (DRep X.K) _ G4 H4 (LD.noX (fv δ')) _
                rw [ev]
                intro u H5 G5 t5 ru
                have el : ((R.ofO (asKey ykey)).bind fun k => (dcD g ft fk fv (wipeD δ vs) (ds.drop (i + 1))).bind fun ys => .ok ((k, yv) :: ys)) = .ok zs := el
                cases eq : asKey ykey with
                | none => rw [eq] at el; cases el
                | some kk =>
                  rw [eq] at el
                  have el : ((dcD g ft fk fv (wipeD δ vs) (ds.drop (i + 1))).bind fun ys => .ok ((kk, yv) :: ys)) = .ok zs := el
                  cases er : dcD g ft fk fv (wipeD δ vs) (ds.drop (i + 1)) with
                  | exc _ _ => rw [er] at el; cases el
                  | bad => rw [er] at el; cases el
                  | ok ws =>
                    rw [er] at el
                    cases el
                    have tt := ((t2.trans t3).trans t4).trans t5
                    have hg5 : G5 D = none := by rw [tt.nw D (by rw [hH']; simp)]; exact hg'
                    have hH5 := tt.sm _ _ hH'
                    have S5 := S'.step tt
                    have tg := (t'.trans tt)
                    refine ⟨accV, kk, asKey_rep ruk eq, hH5, ?_, G5, acc ++ [(kk, yv)], putK accV kk u, ws, tr_own_upd tg _ hD hg5, hg5, upd_same, ?_, S5.other hbD hg5 hne, rfl, by simpa using ea⟩
                    · rw [rA.length]
                      have hm := mergeD_len acc []
                      have : acc.length + ((kk, yv) :: ws).length = ys.length := by rw [← ea, List.length_append]
                      rw [List.length_cons] at this
                      simp only [List.length_nil, Nat.zero_add] at hm
                      omega
                    · rw [mergeD_snoc]
                      exact (rA.mono tt.gg).put ru
    · have e : i = ds.length := by omega
      subst e
      have sG : Same G1 H' := t'.gg.trans S'.gh
      refine .inl ⟨wk.stop H' sG, ?_⟩
      rw [List.drop_length] at el
      cases el
      rw [List.append_nil] at ea
      subst ea
      exact h1 D accV H' G' t' hD hg' hH' rA
theorem dd_dc (hc : X.calm = true) (hN : X.N.Nodup) (ok : BlkOk X.N X.env.scope scope own) (hix : ∀ i ∈ ix, i ∈ own.map (·.2)) (I : PID X W tg iter fi)
    (hg : ∀ (s : Shared) (H : Hp) (C : Addr) (cl : List (Str × Addr)) (fp : List Addr), PGD (X.blk s H scope (compEnvC scope cl C X.env) fp) tg ix g) (ht : ∀ (s : Shared) (H : Hp) (C : Addr) (cl : List (Str × Addr)) (fp : List Addr), PDTs (X.blk s H scope (compEnvC scope cl C X.env) fp) W0 ifs ft)
    (hk : ∀ (s : Shared) (H : Hp) (C : Addr) (cl : List (Str × Addr)) (fp : List Addr), PD (X.blk s H scope (compEnvC scope cl C X.env) fp) W0 kx fk) (he : ∀ (s : Shared) (H : Hp) (C : Addr) (cl : List (Str × Addr)) (fp : List Addr), PD (X.blk s H scope (compEnvC scope cl C X.env) fp) W0 vx fv)
    (hs : ∀ x, foldedSetIterable iter X.env x = pure x := by intro _; rfl) :
    PDD X W (.DictComp kx vx [⟨tg, iter, ifs, 0⟩] scope pos) (xDcs (own.map (·.2)) fi g ft fk fv) := by
  obtain ⟨wi, pw, hw⟩ := I.ex
  refine ⟨_, pe_dc (g := cG X.K ix g) (tt := cT X.K W0 (fun δ => noX (ft δ))) (tk := cE X.K W0 (fun δ => noX (fk δ))) (tv := cE X.K W0 (fun δ => noX (fv δ))) hc hN pw ok (fun s H C cl fp => (hg s H C cl fp).can) (fun s H C cl fp => ⟨fun pins s' σ H' Q I' ⟨B, G, δ, S, q⟩ => (ht s H C cl fp).can.run pins s' σ H' Q I' ⟨B, G, δ, S, Rq.noX q⟩⟩)
    (fun s H C cl fp => ⟨fun pins s' σ H' Q I' ⟨B, G, δ, S, q⟩ => (hk s H C cl fp).can.run pins s' σ H' Q I' ⟨B, G, δ, S, Rq.noX q⟩⟩) (fun s H C cl fp => ⟨fun pins s' σ H' Q I' ⟨B, G, δ, S, q⟩ => (he s H C cl fp).can.run pins s' σ H' Q I' ⟨B, G, δ, S, Rq.noX q⟩⟩) hs, fun {B G H δ σ Q} S h => ?_⟩
  exact dc_req hw hix S h
end
end LD

set_option maxHeartbeats 2000000
/-! Layer D, part V: != of instances whose class has an own ==. -/
namespace LD
open PySem PySem.Spec PyProof.Rows L2
section
variable {prog : Program} {w : World} {A : Around} {E : Value → Shared → Prop} {s : Shared} {K : PySem.W.Frag} {x C L f : Addr} {h₀ : Heap} {m : Str → Option Value} {ox : Obj} {od : Option Obj} {b tb : Value}
theorem ifBoundB {M : Model} {T : String} {nm : Str} {id : String} {args : List Value} {Q : Option Value → Shared → Prop} (X : K.In s.heap) (I : PySem.W.InstAt s.heap x ox C od) (hs : PySem.W.findIn K (.ref C) nm = some (some (.builtin id))) (S : Slot T nm id)
    (h : wpAny M A (call (.builtin id) (.ref x :: args)) (fun v => Q (some v)) E s) : wpAny M A (callSpecialIfBound? (.ref x) nm args) Q E s := by
  simp only [callSpecialIfBound?, bindSpecialIfBound?]
  refine wpAny_holding (wpAny_bind (wpAny_bind (wpAny_bind (I.type.here ((PySem.W.looks_findIn X hs).here ?_)))))
  simp only [S.bind]
  refine wpAny_bind (wpAny_askSetting (wpAny_ite ?_))
  have fin : wpAny M A (call (.builtin id) ([.ref x] ++ args) >>= fun v => pure (some v)) Q E s := wpAny_bind (wpAny_mono h (fun v t z => wpAny_pure z) fun _ _ z => z)
  split
  · exact wpAny_bind (wpAny_pure (wpAny_pure fin))
  · exact wpAny_tryCatch (wpAny_bind (wpAny_pure (wpAny_pure fin)))
theorem objNe_K {Q : Fin → Shared → Prop} (hu : A.units < cLine) (X : K.In s.heap) (I : PySem.W.InstAt s.heap x ox C od) (hs : PySem.W.findIn K (.ref C) "__eq__" = some (some (.ref f))) (hf : PySem.W.isFn K (.ref f) = true)
    (h : wpAny (model prog w) A (call (.ref f) [.ref x, b]) (fun v s' => ∃ k, v = .bool k ∧ Q (.done (.ret (.bool (!k)))) s') E s) :
    wpAny (model prog w) A (Builtin.«object.__ne__» ⟨[.ref x, b], []⟩) Q E s := by
  unfold Builtin.«object.__ne__»
  repeat (first
    | with_reducible refine wpAny_cRoomFor hu ?_
    | (refine wpAny_bind (m := callSpecialIfBound? (.ref x) (Str.ofString "__eq__") [b])
        (PySem.W.ifBound_K X I hs hf (wpAny_mono h (fun r s' hr => by
          obtain ⟨k, rfl, hq⟩ := hr
          repeat (first | exact hq | exact wpAny_pure hq | exact wpAny_truthy_bool hq | (refine wpAny_bind (m := truthy (.bool _)) (wpAny_truthy_bool ?_)) | wp_step)) fun _ _ e => e)))
    | wp_step)
theorem ne_K {Q : Value → Shared → Prop} (hu : A.units + 1 < cLine) (X : K.In s.heap) (I : PySem.W.InstAt s.heap x ox C od) (hb : PySem.W.Looks (model prog w) s.heap (typeOf b) tb) (hn : PySem.W.notFirst K C tb = true)
    (h1 : PySem.W.findIn K (.ref C) "__ne__" = some (some (.builtin "object.__ne__"))) (hs : PySem.W.findIn K (.ref C) "__eq__" = some (some (.ref f))) (hf : PySem.W.isFn K (.ref f) = true) (ho : PySem.W.subIn K (.ref C) (.type "object") = some true)
    (h : wpAny (model prog w) A.in1 (call (.ref f) [.ref x, b]) (fun v s' => ∃ k, v = .bool k ∧ Q (.bool (!k)) s') E s) : wpAny (model prog w) A (richCompare .NotEq (.ref x) b) Q E s := by
  have hi : PySem.W.Looks (model prog w) s.heap (isInstance (.ref x) (.type "object")) true := I.type.andThen (PySem.W.looks_subIn X ho)
  have one : wpAny (model prog w) A (tryCompare (.ref x) (cmpInfo .NotEq).2.1 b) (fun r s' => ∃ v, r = some v ∧ Q v s') E s := by
    unfold tryCompare
    refine wpAny_bind (ifBoundB (id := "object.__ne__") X I h1 F.cmp_object.ne (wpAny_call (codeAny_call_builtin F.cmp_object.ne.plain F.cmpEntry_ne (PySem.W.check_slot F.cmpKind_ne F.cmpSplit_ne hi (F.cmpArgs_ne _ _) ?_))))
    refine objNe_K (by exact hu) X I hs hf (wpAny_mono h (fun v s' hv => ?_) fun _ _ z => z)
    obtain ⟨k, rfl, q⟩ := hv
    first | exact ⟨k, rfl, wpAny_pure ⟨_, rfl, q⟩⟩ | exact ⟨k, rfl, wpAny_pure (wpAny_pure ⟨_, rfl, q⟩)⟩
  unfold richCompare
  simp only [oneThing_ref]
  refine wpAny_holding (wpAny_bind (wpAny_cRoomFor (Nat.lt_of_succ_lt hu) ?_))
  refine wpAny_bind (I.type.here (wpAny_bind (hb.here ?_)))
  split
  · rename_i q
    have e : PySem.W.subIn K tb (.ref C) = some false := by
      rcases Bool.or_eq_true_iff.mp hn with e | e
      · rw [beq_iff_eq.mp e] at q; simp at q
      · exact beq_iff_eq.mp e
    refine wpAny_bind ((PySem.W.looks_subIn X e).here ?_)
    simp only [Bool.false_eq_true, if_false]
    refine wpAny_bind (wpAny_mono one (fun r t hr => ?_) fun _ _ z => z)
    obtain ⟨v, rfl, hq⟩ := hr
    exact wpAny_pure hq
  · refine wpAny_bind (wpAny_pure ?_)
    simp only [Bool.false_eq_true, if_false]
    refine wpAny_bind (wpAny_mono one (fun r t hr => ?_) fun _ _ z => z)
    obtain ⟨v, rfl, hq⟩ := hr
    exact wpAny_pure hq
end
def oNeO (cs : List Str) (m : Mir) : DV → DV → R DV := fun x y => (oEqO cs m x y).bind fun r => match r with
  | .bl k => .ok (.bl (!k))
  | _ => .bad
def neB (K : PySem.W.Frag) (cs : List Str) (f : Addr) : Bool := eqB K cs f && (cs.all fun c => decide (PySem.W.findIn K (.ref (He.ga K c)) "__ne__" = some (some (.builtin "object.__ne__"))) && decide (PySem.W.subIn K (.ref (He.ga K c)) (.type "object") = some true))
def rOwnNe (sp : Sp) (K : PySem.W.Frag) (cs : List Str) : R2 := fun x y H Q => ∃ a b dx dy c c' fs gs, x = .ref a ∧ y = .ref b ∧ cs.contains c = true ∧ cs.contains c' = true ∧ H a = some (.ins (He.ga K c) dx fs) ∧ H b = some (.ins (He.ga K c') dy gs) ∧ sp [x, y] H (fun v H' => ∃ k, v = .bl k ∧ Q (.bl (!k)) H') E0
section
variable {X : Cx} {W : WX} {j : Nat}
theorem or_ownNe {f : Addr} {fd : FuncData} {ps : List Str} {k : Nat} {sp : Sp} {cs : List Str} (F : FnOk X.prog X.w X.K X.mg X.base (L2.CX X.prog X.w) k f fd ps sp) (hr : Room (k + 1) X.A) (hb : Binds X.K fd ps []) (hB : neB X.K cs f = true) (hf : PySem.W.isFn X.K (.ref f) = true) : OpR X (compareOp .NotEq) (rOwnNe sp X.K cs) := by
  intro pins s σ H x y v u Q I rx ry h
  obtain ⟨a, b, dx, dy, c, c', fs, gs, rfl, rfl, hc, hc', ha, hbb, hsp⟩ := h
  cases rx
  cases ry
  show wpAny (model X.prog X.w) X.A (richCompare .NotEq (.ref a) (.ref b)) (EP X pins σ Q) X.xe s
  obtain ⟨od, J⟩ := ins_at I ha
  obtain ⟨od', J'⟩ := ins_at I hbb
  obtain ⟨hB1, hB2⟩ := He.ba hB
  obtain ⟨k1, k2⟩ := He.ba (List.all_eq_true.mp hB1 c (by simpa using hc))
  have k3 := List.all_eq_true.mp k2 c' (by simpa using hc')
  obtain ⟨k4, k5⟩ := He.ba (List.all_eq_true.mp hB2 c (by simpa using hc))
  refine ne_K (tb := .ref (He.ga X.K c')) (by have := hr.units; omega) I.kIn J J'.type k3 (of_decide_eq_true k4) (of_decide_eq_true k1) hf (of_decide_eq_true k5) ?_
  refine wpAny_mono (run_fnS1 (Q := fun v H' => ∃ k, v = V.bl k ∧ Q (.bl (!k)) H') (E := fun _ => E0) (vs := [V.ref a, V.ref b]) F hr hb (fun pins' H' s1 e s2 I' c => passL pins' σ H' s1 e s2 I' c) I (.cons rfl (.cons rfl .nil)) hsp) (fun r s' hq => ?_) fun _ _ z => z
  obtain ⟨z, H', I', rz, kk, ek, q⟩ := hq
  subst ek
  cases (show r = Value.bool kk from rz)
  exact ⟨kk, rfl, .bl _, H', I', rfl, q⟩
theorem od_ownNe {f : Addr} {cs : List Str} {m : Mir} : OpD X (rOwnNe (spD X.K m) X.K cs) (oNeO cs m) := fun {G H x y dx dy Q W} s rx ry h => by
  cases rx with
  | obj e1 r1 =>
    cases ry with
    | obj e2 r2 =>
      rename_i a1 x1 c1 v1 f1 a2 x2 c2 v2 f2
      have h2 : Rq X.K (DRep X.K) W G H ((if (cs.contains c1 && cs.contains c2) = true then (match m [.obj c1 f1, .obj c2 f2] with
        | .ok (.bl b) => (.ok (.bl b) : R DV)
        | _ => .bad) else .bad).bind fun r => match r with
          | .bl k => .ok (.bl (!k))
          | _ => .bad) Q := h
      by_cases q : (cs.contains c1 && cs.contains c2) = true
      · rw [if_pos q] at h2
        obtain ⟨q1, q2⟩ := Bool.and_eq_true_iff.mp q
        refine ⟨a1, a2, x1, x2, c1, c2, v1, v2, rfl, rfl, q1, q2, s _ _ e1, s _ _ e2, G, [.obj c1 f1, .obj c2 f2], s, .cons (.obj e1 r1) (.cons (.obj e2 r2) .nil), ?_⟩
        cases em : m [.obj c1 f1, .obj c2 f2] with
        | bad => rw [em] at h2; exact h2.elim
        | exc _ _ => rw [em] at h2; exact h2.elim
        | ok d =>
          rw [em] at h2
          cases d with
          | bl b =>
            intro v H' G' t rv
            cases rv
            have h3 : Rq X.K (DRep X.K) W G H (.ok (.bl (!b))) Q := h2
            exact ⟨b, rfl, h3 (.bl _) H' G' t (.bl _)⟩
          | _ => exact h2.elim
      · rw [if_neg q] at h2; exact h2.elim
    | _ => exact h.elim
  | _ => cases ry <;> exact h.elim
end
def nwB (cs : List Str) (b : Str) : Fk := fun K => neB K cs (He.ma K (He.ga K b) "__eq__") && PySem.W.isFn K (.ref (He.ma K (He.ga K b) "__eq__"))
section
variable {X : Cx} {W : WX} {a b : Expr} {fa fb : Ev → R DV} {pos : Pos} {k j : Nat} {ps : List Str} {m : Mir}
theorem k_neO {cs : List Str} {bn : Str} (hB : nwB cs bn X.K = true) (F : FO X.prog X.w X.K X.mg X.base k (He.ma X.K (He.ga X.K bn) "__eq__") ps (spD X.K m)) (hr : Room j X.A) (hj : k + 1 ≤ j) (A : PD X W a fa) (B : PD X W b fb) (hm : behindInMarks .NotEq b = false := by first | exact nomark _ | rfl) :
    PD X W (.Compare a [.NotEq] [b] pos) (xOp (oNeO cs m) fa fb) := by
  obtain ⟨fd, F, hb⟩ := F
  obtain ⟨h1, h2⟩ := He.ba hB
  exact d_cmp (or_ownNe F (hr.mono hj) hb h1 h2) (od_ownNe (f := 0)) A B hm
theorem kt_neO {cs : List Str} {bn : Str} (hB : nwB cs bn X.K = true) (F : FO X.prog X.w X.K X.mg X.base k (He.ma X.K (He.ga X.K bn) "__eq__") ps (spD X.K m)) (hr : Room j X.A) (hj : k + 1 ≤ j) (A : PD X W a fa) (B : PD X W b fb) (hm : behindInMarks .NotEq b = false := by first | exact nomark _ | rfl) :
    PDT X W (.Compare a [.NotEq] [b] pos) (xTest (xOp (oNeO cs m) fa fb)) := by
  obtain ⟨fd, F, hb⟩ := F
  obtain ⟨h1, h2⟩ := He.ba hB
  exact dt_cmp (or_ownNe F (hr.mono hj) hb h1 h2) (od_ownNe (f := 0)) A B hm
theorem kt_eqO {cs : List Str} {bn : Str} (hB : ewB cs bn X.K = true) (F : FO X.prog X.w X.K X.mg X.base k (He.ma X.K (He.ga X.K bn) "__eq__") ps (spD X.K m)) (hr : Room j X.A) (hj : k ≤ j) (A : PD X W a fa) (B : PD X W b fb) (hm : behindInMarks .Eq b = false := by first | exact nomark _ | rfl) :
    PDT X W (.Compare a [.Eq] [b] pos) (xTest (xOp (oEqO cs m) fa fb)) := by
  obtain ⟨fd, F, hb⟩ := F
  obtain ⟨h1, h2⟩ := He.ba hB
  exact dt_cmp (or_own F (hr.mono hj) hb h1 h2) (od_own (f := 0) (fd := fd) (ps := []) (k := 0)) A B hm
/-! ### dicts with the same flat items -/
def flSame : DV → DV → Bool
  | .non, .non => true
  | .bl x, .bl y => x == y
  | .int x, .int y => decide (x = y)
  | .str x, .str y => decide (x = y)
  | _, _ => false
theorem flSame_fl : ∀ {d e : DV}, flSame d e = true → ∃ w, d.fl = some w ∧ e.fl = some w ∧ flatB w = true
  | .non, .non, _ => ⟨_, rfl, rfl, rfl⟩
  | .bl x, .bl y, h => by
    obtain rfl : x = y := by simpa [flSame] using h
    exact ⟨_, rfl, rfl, rfl⟩
  | .int x, .int y, h => by
    obtain rfl : x = y := by simpa [flSame] using h
    exact ⟨_, rfl, rfl, rfl⟩
  | .str x, .str y, h => by
    obtain rfl : x = y := by simpa [flSame] using h
    exact ⟨_, rfl, rfl, rfl⟩
def dicSame (ks ls : List (Key × DV)) : Bool := decide (ks.length = ls.length) && ks.all fun p => match valD ls p.1 with
  | some d => flSame p.2 d
  | none => false
theorem same_rep {K : PySem.W.Frag} {G : Hp} {ws : List (Key × V)} {es : List (Key × DV)} (r2 : RP K G ws es) : ∀ {vs : List (Key × V)} {ds : List (Key × DV)}, RP K G vs ds → (ds.all fun p => match valD es p.1 with
    | some d => flSame p.2 d
    | none => false) = true → ∀ p ∈ vs, valV ws p.1 = some p.2 ∧ flatB p.2 = true
  | _, _, .nil, _ => fun p hp => by cases hp
  | _, _, .cons (k := k) (v := v) (d := d) rv r, h => fun p hp => by
    rw [List.all_cons] at h
    obtain ⟨h1, h2⟩ := Bool.and_eq_true_iff.mp h
    rcases List.mem_cons.mp hp with e | hp
    · subst e
      rcases r2.val (k := k) with ⟨z1, z2⟩ | ⟨v', d', z1, z2, z3⟩
      · dsimp only at h1; rw [z2] at h1; cases h1
      · dsimp only at h1 ⊢
        rw [z2] at h1
        obtain ⟨w, q1, q2, q3⟩ := flSame_fl h1
        have e1 := fl_eq rv q1
        have e2 := fl_eq z3 q2
        subst e1
        rw [z1, e2]
        exact ⟨rfl, q3⟩
    · exact same_rep r2 r h2 p hp
def rDicS (neg : Bool) : R2 := fun x y H Q => ∃ a b ks ls, x = .ref a ∧ y = .ref b ∧ Rd H a (.dK ks) ∧ Rd H b (.dK ls) ∧ ks.length = ls.length ∧ (∀ p ∈ ks, valV ls p.1 = some p.2 ∧ flatB p.2 = true) ∧ Q (.bl (!neg)) H
theorem or_dicEq (hu : X.A.units < cLine) : OpR X (compareOp .Eq) (rDicS false) := fun pins s σ H x y v u Q I rx ry h => by
  obtain ⟨a, b, ks, ls, rfl, rfl, ea, eb, hlen, hp, q⟩ := h
  obtain rfl : v = Value.ref a := rx
  obtain rfl : u = Value.ref b := ry
  obtain ⟨_, ya, va, ra, da⟩ := dk_rd I.hok ea
  obtain ⟨_, yb, vb, rb, db⟩ := dk_rd I.hok eb
  have hl : va.length = vb.length := ra.length.symm.trans (hlen.trans rb.length)
  exact PySem.W.keq_eq (knd := mixKind X.prog X.w) (r := true) ya yb da db hu (fun _ => hits_all rb ra hp) (fin_bl I q (by rw [hl]; simp))
theorem or_dicNe (hu : X.A.units < cLine) : OpR X (compareOp .NotEq) (rDicS true) := fun pins s σ H x y v u Q I rx ry h => by
  obtain ⟨a, b, ks, ls, rfl, rfl, ea, eb, hlen, hp, q⟩ := h
  obtain rfl : v = Value.ref a := rx
  obtain rfl : u = Value.ref b := ry
  obtain ⟨_, ya, va, ra, da⟩ := dk_rd I.hok ea
  obtain ⟨_, yb, vb, rb, db⟩ := dk_rd I.hok eb
  have hl : va.length = vb.length := ra.length.symm.trans (hlen.trans rb.length)
  exact PySem.W.keq_ne (knd := mixKind X.prog X.w) (r := true) ya yb da db hu (fun _ => hits_all rb ra hp) (fin_bl I q (by rw [hl]; simp))
/-- == or != of two dicts that have the same flat items -/
def oDicS (neg : Bool) : DV → DV → R DV := fun x y => match x, y with
  | .dic ks, .dic ls => if dicSame ks ls = true then .ok (.bl (!neg)) else .bad
  | _, _ => .bad
theorem od_dicS {neg : Bool} : OpD X (rDicS neg) (oDicS neg) := fun {G H x y dx dy Q W} s rx ry h => by
  cases rx with
  | dic e1 r1 =>
    cases ry with
    | dic e2 r2 =>
      rename_i a1 o1 v1 d1 a2 o2 v2 d2
      have h2 : Rq X.K (DRep X.K) W G H (if dicSame d1 d2 = true then .ok (.bl (!neg)) else .bad) Q := h
      by_cases q : dicSame d1 d2 = true
      · rw [if_pos q] at h2
        obtain ⟨q1, q2⟩ := Bool.and_eq_true_iff.mp q
        refine ⟨a1, a2, v1, v2, rfl, rfl, .inr ⟨_, s _ _ e1⟩, .inr ⟨_, s _ _ e2⟩, ?_, same_rep r2.to r1.to q2, Rq.ok_self (rep := DRep X.K) s h2 (.bl _)⟩
        rw [r1.to.length, r2.to.length]
        exact of_decide_eq_true q1
      · rw [if_neg q] at h2; exact h2.elim
    | _ => exact h.elim
  | _ => cases ry <;> exact h.elim
end
end LD

set_option maxHeartbeats 2000000
/-! Layer D, part W: an own list made by an addition. -/
namespace LD
open PySem PySem.Spec PyProof.Rows L2
section
variable {X : Cx} {W : WX} {a b : Expr} {fa fb : Ev → R DV} {pos : Pos}
def sAddO (i : Nat) (fa fb : Ev → R DV) : Ev → SR := fun δ => xS (fa δ) δ fun x => xS (fb δ) δ fun y => match x, y with
  | .lst xs, .lst ys => if small (xs.length + ys.length) = true then .nx (δ.set i (.ol (xs ++ ys))) else .bad
  | _, _ => .bad
theorem ds_addO (i : Nat) {x : Str} {pos' p2 : Pos} (hN : X.N.Nodup) (A : PD X W a fa) (B : PD X W b fb) (hi : X.N[i]? = some x := by rfl) (hx : Loc X.env.scope x := by first | exact Or.inl rfl | exact Or.inr rfl) (hs : swapsWith (.BinOp a .Add b p2) (some (.Name x pos')) pos.line X.env = pure false := by rfl)
    (hf : X.fn x = true ∨ X.env.scope.names.lookup x = some .local := by first | exact .inl rfl | exact .inr rfl) : PSD X W (.Assign [.Name x pos'] (.BinOp a .Add b p2) pos) (sAddO i fa fb) := by
  obtain ⟨ta, pa, ha⟩ := A.ex
  obtain ⟨tb, pb, hb⟩ := B.ex
  refine ⟨_, L2.ps_set hN hi hx (pe_op op_cat pa pb) hs hf, fun {B0 G H δ σ D} S h => ?_⟩
  refine ha S (SRq.of S h fun d e v H1 G1 t1 r1 h1 => ?_)
  refine hb (S.step t1) (SRq.of (S.step t1) h1 fun d' e' v' H2 G2 t2 r2 h2 => ?_)
  have S2 := (S.step t1).step t2
  have r1' := r1.mono t2.gg
  cases r1' with
  | lst e1 q1 =>
    cases r2 with
    | lst e2 q2 =>
      dsimp only at h2
      split at h2
      · rename_i c
        exact ⟨_, _, _, _, rfl, rfl, S2.gh _ _ e1, S2.gh _ _ e2, by rw [q1.length, q2.length]; exact small_le c, fun p hp => h2 _ _ _ (Same.refl _) (own_new S2 i hp rfl (fun _ _ z => nomatch z) ⟨_, upd_same, q1.append q2⟩)⟩
      · exact h2.elim
    | _ => exact h2.elim
  | _ => cases r2 <;> exact h2.elim
end
end LD

set_option maxHeartbeats 2000000
/-! Layer D, part X: generators that sleep stay as they are while other code runs. -/
namespace LG
open PySem
variable {M : Model}

/-- a sleeping generator that must not be woken -/
def kill : GenState → GenState
  | .suspended _ l c p fs cl => .suspended (fun _ => .unsupported "") l c p fs cl
  | x => x
def asleep : GenState → Bool
  | .suspended .. => true
  | _ => false
theorem kill_seen (x : GenState) : (kill x).seen = x.seen := by cases x <;> rfl
theorem kill_bare (x : GenState) : (kill x).bare = x.bare := by cases x <;> rfl

def genOf : Frame → Option Nat
  | .gen g _ _ _ _ => some g
  | .ret .. => none
/-- no frame of these is of a generator that is to sleep on -/
def OkFs (D : Nat → Option GenState) (fs : List Frame) : Prop := ∀ F ∈ fs, ∀ g, genOf F = some g → D g = none
def NoGen (fs : List Frame) : Prop := ∀ F ∈ fs, genOf F = none
theorem NoGen.ok {D : Nat → Option GenState} {fs : List Frame} (h : NoGen fs) : OkFs D fs := fun F hF g e => by rw [h F hF] at e; cases e
theorem noGen_of_split : ∀ {fs : List Frame}, splitAtGen fs = none → NoGen fs
  | [], _ => fun _ h => nomatch h
  | .gen .. :: _, h => by rw [splitAtGen_gen] at h; cases h
  | .ret k hd g l c p kp :: fs, h => by
    have h' : splitAtGen fs = none := by
      have : (splitAtGen fs).map (fun x => (Frame.ret k hd g l c p kp :: x.1, x.2.1, x.2.2)) = none := h
      cases q : splitAtGen fs with
      | none => rfl
      | some y => rw [q] at this; cases this
    intro F hF
    rcases List.mem_cons.mp hF with e | e
    · rw [e]; rfl
    · exact noGen_of_split h' F e
theorem split_mem : ∀ {fs pre : List Frame} {g : Nat} {k : GenResult → Sem PySem.Fin} {c : Code} {p : Pos} {rest : List Frame}, splitAtGen fs = some (pre, (g, k, c, p), rest) →
    NoGen pre ∧ (∃ F ∈ fs, genOf F = some g) ∧ ∀ F ∈ rest, F ∈ fs
  | [], _, _, _, _, _, _, h => nomatch h
  | .gen g' k' l' c' p' :: fs, pre, g, k, c, p, rest, h => by
    rw [splitAtGen_gen] at h
    cases h
    exact ⟨(fun _ h => nomatch h), ⟨_, List.mem_cons_self, rfl⟩, fun F hF => List.mem_cons_of_mem _ hF⟩
  | .ret k' hd g' l c' p' kp :: fs, pre, g, k, c, p, rest, h => by
    have h' : (splitAtGen fs).map (fun x => (Frame.ret k' hd g' l c' p' kp :: x.1, x.2.1, x.2.2)) = some (pre, (g, k, c, p), rest) := h
    cases q : splitAtGen fs with
    | none => rw [q] at h'; cases h'
    | some y =>
      obtain ⟨pre', ⟨g2, k2, c2, p2⟩, rest'⟩ := y
      rw [q] at h'
      cases h'
      obtain ⟨h1, ⟨F, h2, h3⟩, h4⟩ := split_mem q
      refine ⟨fun F' hF' => ?_, ⟨F, List.mem_cons_of_mem _ h2, h3⟩, fun F' hF' => List.mem_cons_of_mem _ (h4 F' hF')⟩
      rcases List.mem_cons.mp hF' with e | e
      · rw [e]; rfl
      · exact h1 F' e

/-- G: the true ones; A: those in which the sleepers of D are dead -/
structure Rl (D : Nat → Option GenState) (G A : Array GenState) : Prop where
  sz : G.size = A.size
  dd : ∀ i x, D i = some x → asleep x = true ∧ G[i]? = some x ∧ A[i]? = some (kill x)
  al : ∀ i, D i = none → G[i]? = A[i]?
  nf : ∀ i k l c p fs cl, D i = none → A[i]? = some (.suspended k l c p fs cl) → NoGen fs
theorem Rl.set {D : Nat → Option GenState} {G A : Array GenState} (h : Rl D G A) {g : Nat} (hg : D g = none) {x : GenState} (hx : ∀ k l c p fs cl, x = .suspended k l c p fs cl → NoGen fs) : Rl D (G.setIfInBounds g x) (A.setIfInBounds g x) where
  sz := by simp [h.sz]
  dd := fun i y e => by
    have ne : g ≠ i := fun q => by rw [q, e] at hg; cases hg
    obtain ⟨a, b, c⟩ := h.dd i y e
    exact ⟨a, by rw [Array.getElem?_setIfInBounds_ne ne]; exact b, by rw [Array.getElem?_setIfInBounds_ne ne]; exact c⟩
  al := fun i e => by
    by_cases q : g = i
    · subst q
      rw [Array.getElem?_setIfInBounds, Array.getElem?_setIfInBounds, h.sz, if_pos rfl, if_pos rfl]
    · rw [Array.getElem?_setIfInBounds_ne q, Array.getElem?_setIfInBounds_ne q]; exact h.al i e
  nf := fun i k l c p fs cl e q => by
    by_cases z : g = i
    · subst z
      rw [Array.getElem?_setIfInBounds] at q
      split at q
      · split at q
        · cases q; exact hx _ _ _ _ _ _ rfl
        · cases q
      · exact absurd rfl ‹_›
    · rw [Array.getElem?_setIfInBounds_ne z] at q; exact h.nf i _ _ _ _ _ _ e q
theorem Rl.push {D : Nat → Option GenState} {G A : Array GenState} (h : Rl D G A) {x : GenState} (hx : ∀ k l c p fs cl, x = .suspended k l c p fs cl → NoGen fs) : Rl D (G.push x) (A.push x) where
  sz := by simp [h.sz]
  dd := fun i y e => by
    obtain ⟨a, b, c⟩ := h.dd i y e
    have l1 : i < G.size := by
      by_cases z : i < G.size
      · exact z
      · rw [Array.getElem?_eq_none (by omega)] at b; cases b
    have l2 : i < A.size := by rw [← h.sz]; exact l1
    exact ⟨a, by rw [Array.getElem?_push_lt l1]; rw [Array.getElem?_eq_getElem l1] at b; exact b, by rw [Array.getElem?_push_lt l2]; rw [Array.getElem?_eq_getElem l2] at c; exact c⟩
  al := fun i e => by
    rw [Array.getElem?_push, Array.getElem?_push, h.sz, h.al i e]
  nf := fun i k l c p fs cl e q => by
    rw [Array.getElem?_push] at q
    split at q
    · cases q; exact hx _ _ _ _ _ _ rfl
    · exact h.nf i _ _ _ _ _ _ e q

theorem Rl.awake {D : Nat → Option GenState} {G A : Array GenState} (r : Rl D G A) {g : Nat} {x : GenState} (hg : A[g]? = some x) (hx : asleep x = false) : D g = none := by
  cases q : D g with
  | none => rfl
  | some y =>
    obtain ⟨a, b, c⟩ := r.dd g y q
    rw [c] at hg
    cases hg
    cases y <;> first | (cases a; done) | cases hx
theorem Rl.same {D : Nat → Option GenState} {G A : Array GenState} (r : Rl D G A) {g : Nat} {x : GenState} (hg : A[g]? = some x) (hx : asleep x = false) : G[g]? = some x := by
  rw [r.al g (r.awake hg hx)]; exact hg
theorem Rl.look {D : Nat → Option GenState} {G A : Array GenState} (r : Rl D G A) {g : Nat} {x : GenState} (hg : A[g]? = some x) : G[g]? = some x ∨ ∃ y, G[g]? = some y ∧ x = kill y := by
  cases q : D g with
  | none => exact .inl (by rw [r.al g q]; exact hg)
  | some y =>
    obtain ⟨_, b, c⟩ := r.dd g y q
    rw [c] at hg
    cases hg
    exact .inr ⟨y, b, rfl⟩

theorem not_dead {Γ : Ctx} {p : Pos} {t : Sem PySem.Fin} {fs : List Frame} {s : Shared} {e : End} {s' : Shared} (h : Runs M Γ p t fs s e s') : ∀ wh, t ≠ .unsupported wh := by
  induction h <;> intro wh q <;> first | (cases q; done) | (rename_i ih _; exact ih wh q) | (rename_i ih; exact ih wh q)

def OkEnd : End → Prop
  | .ret _ => True
  | .susp _ _ _ _ _ _ fs => NoGen fs
theorem okEnd_gen {e : End} (h : OkEnd e) : ∀ k l c p fs cl, e.genState = .suspended k l c p fs cl → NoGen fs := fun k l c p fs cl q => by
  cases e with
  | ret _ => cases q
  | susp v g l k c p fs => cases q; exact h

/-- the same run with the sleepers alive -/
theorem alive {D : Nat → Option GenState} {Γ : Ctx} {p : Pos} {t : Sem PySem.Fin} {fs : List Frame} {s : Shared} {e : End} {s' : Shared} (h : Runs M Γ p t fs s e s') :
    ∀ G, Rl D G s.gens → OkFs D fs → ∃ G', Rl D G' s'.gens ∧ OkEnd e ∧ Runs M Γ p t fs { s with gens := G } e { s' with gens := G' } := by
  induction h with
  | done => intro G r o; exact ⟨G, r, trivial, .done⟩
  | raise => intro G r o; exact ⟨G, r, trivial, .raise⟩
  | again hq _ ih => intro G r o; obtain ⟨G', r', oe, h⟩ := ih G r o; exact ⟨G', r', oe, .again hq h⟩
  | rule _ ih => intro G r o; obtain ⟨G', r', oe, h⟩ := ih G r o; exact ⟨G', r', oe, .rule h⟩
  | «at» _ ih => intro G r o; obtain ⟨G', r', oe, h⟩ := ih G r o; exact ⟨G', r', oe, .at h⟩
  | load ho _ ih => intro G r o; obtain ⟨G', r', oe, h⟩ := ih G r o; exact ⟨G', r', oe, .load ho h⟩
  | update ho _ ih => intro G r o; obtain ⟨G', r', oe, h⟩ := ih G r o; exact ⟨G', r', oe, .update ho h⟩
  | loadIfAlive _ ih => intro G r o; obtain ⟨G', r', oe, h⟩ := ih G r o; exact ⟨G', r', oe, .loadIfAlive h⟩
  | point _ ih => intro G r o; obtain ⟨G', r', oe, h⟩ := ih G r o; exact ⟨G', r', oe, .point h⟩
  | alloc _ ih => intro G r o; obtain ⟨G', r', oe, h⟩ := ih G r o; exact ⟨G', r', oe, .alloc h⟩
  | fresh _ ih => intro G r o; obtain ⟨G', r', oe, h⟩ := ih G r o; exact ⟨G', r', oe, .fresh h⟩
  | ask _ ih => intro G r o; obtain ⟨G', r', oe, h⟩ := ih G r o; exact ⟨G', r', oe, .ask h⟩
  | choose hn _ ih => intro G r o; obtain ⟨G', r', oe, h⟩ := ih G r o; exact ⟨G', r', oe, .choose hn h⟩
  | os _ ih => intro G r o; obtain ⟨G', r', oe, h⟩ := ih G r o; exact ⟨G', r', oe, .os h⟩
  | handled _ ih => intro G r o; obtain ⟨G', r', oe, h⟩ := ih G r o; exact ⟨G', r', oe, .handled h⟩
  | genState hg _ ih =>
    intro G r o
    obtain ⟨G', r', oe, h⟩ := ih G r o
    rcases r.look hg with q | ⟨x, b, e⟩
    · exact ⟨G', r', oe, .genState q h⟩
    · rw [e, kill_seen] at h
      exact ⟨G', r', oe, .genState b h⟩
  | stack _ ih => intro G r o; obtain ⟨G', r', oe, h⟩ := ih G r o; exact ⟨G', r', oe, .stack h⟩
  | thread _ ih => intro G r o; obtain ⟨G', r', oe, h⟩ := ih G r o; exact ⟨G', r', oe, .thread h⟩
  | newGen _ ih =>
    intro G r o
    obtain ⟨G', r', oe, h⟩ := ih _ (r.push (fun _ _ _ _ _ _ q => nomatch q)) o
    rw [← r.sz] at h
    exact ⟨G', r', oe, .newGen h⟩
  | call _ _ ih1 ih2 =>
    intro G r o
    obtain ⟨G1, r1, _, h1⟩ := ih1 G r (fun _ h => nomatch h)
    obtain ⟨G', r', oe, h⟩ := ih2 G1 r1 o
    exact ⟨G', r', oe, .call h1 h⟩
  | callSusp _ ih =>
    intro G r o
    obtain ⟨G1, r1, oe, h1⟩ := ih G r (fun _ h => nomatch h)
    refine ⟨G1, r1, ?_, .callSusp h1⟩
    intro F hF
    rcases List.mem_append.mp hF with q | q
    · exact oe F q
    · rw [List.mem_singleton.mp q]; rfl
  | yield => intro G r o; exact ⟨G, r, (fun _ h => nomatch h), .yield⟩
  | resumeFresh hg _ hq _ ih1 ih2 =>
    intro G r o
    have q := r.awake hg rfl
    obtain ⟨G1, r1, oe1, h1⟩ := ih1 _ (r.set q (x := .running) (fun _ _ _ _ _ _ q => nomatch q)) (fun _ h => nomatch h)
    obtain ⟨G', r', oe, h⟩ := ih2 _ (r1.set q (okEnd_gen oe1)) o
    exact ⟨G', r', oe, .resumeFresh (r.same hg rfl) h1 hq h⟩
  | @resumeSuspended Γ p g rr l k s k₀ l₀ c₀ p₀ fs cl e₁ s₁ e s' hg hr hq _ ih1 ih2 =>
    intro G r o
    have q : D g = none := by
      cases q : D g with
      | none => rfl
      | some x =>
        obtain ⟨a, b, c⟩ := r.dd g x q
        rw [c] at hg
        cases x <;> first | (cases a; done) | skip
        cases hg
        exact absurd rfl (not_dead hr "")
    obtain ⟨G1, r1, oe1, h1⟩ := ih1 _ (r.set q (x := .running) (fun _ _ _ _ _ _ q => nomatch q)) (r.nf _ _ _ _ _ _ _ q hg).ok
    obtain ⟨G', r', oe, h⟩ := ih2 _ (r1.set q (okEnd_gen oe1)) o
    exact ⟨G', r', oe, .resumeSuspended (by rw [← hg]; exact r.al g q) h1 hq h⟩
  | resumeJustStarted hg hv _ ih =>
    intro G r o
    obtain ⟨G', r', oe, h⟩ := ih G r o
    exact ⟨G', r', oe, .resumeJustStarted (r.same hg rfl) hv h⟩
  | resumeThrowFresh hg _ ih =>
    intro G r o
    obtain ⟨G', r', oe, h⟩ := ih _ (r.set (r.awake hg rfl) (x := .finished) (fun _ _ _ _ _ _ q => nomatch q)) o
    exact ⟨G', r', oe, .resumeThrowFresh (r.same hg rfl) h⟩
  | resumeRunning hg _ ih =>
    intro G r o
    obtain ⟨G', r', oe, h⟩ := ih G r o
    exact ⟨G', r', oe, .resumeRunning (r.same hg rfl) h⟩
  | resumeFinished hg _ ih =>
    intro G r o
    obtain ⟨G', r', oe, h⟩ := ih G r o
    exact ⟨G', r', oe, .resumeFinished (r.same hg rfl) h⟩
  | segRet _ _ ih1 ih2 =>
    intro G r o
    obtain ⟨G1, r1, _, h1⟩ := ih1 G r (fun _ h => nomatch h)
    obtain ⟨G', r', oe, h⟩ := ih2 G1 r1 (fun F hF => o F (List.mem_cons_of_mem _ hF))
    exact ⟨G', r', oe, .segRet h1 h⟩
  | segGen _ _ ih1 ih2 =>
    intro G r o
    have q := o _ List.mem_cons_self _ rfl
    obtain ⟨G1, r1, _, h1⟩ := ih1 G r (fun _ h => nomatch h)
    obtain ⟨G', r', oe, h⟩ := ih2 _ (r1.set q (x := .finished) (fun _ _ _ _ _ _ q => nomatch q)) (fun F hF => o F (List.mem_cons_of_mem _ hF))
    exact ⟨G', r', oe, .segGen h1 h⟩
  | segSuspOut hs _ ih =>
    intro G r o
    obtain ⟨G1, r1, oe, h1⟩ := ih G r (fun _ h => nomatch h)
    refine ⟨G1, r1, ?_, .segSuspOut hs h1⟩
    intro F hF
    rcases List.mem_append.mp hF with q | q
    · exact oe F q
    · exact noGen_of_split hs F q
  | @segSuspGen Γ p t F fs pre g k c₁ p₁ rest s v g₀ l₀ k₀ c₀ p₀ fs₀ s₁ e s' hs _ hq _ ih1 ih2 =>
    intro G r o
    obtain ⟨h1, ⟨F1, h2, h3⟩, h4⟩ := split_mem hs
    have q := o F1 h2 g h3
    obtain ⟨G1, r1, oe1, hr1⟩ := ih1 G r (fun _ h => nomatch h)
    have oe2 : OkEnd (.susp v g₀ l₀ k₀ c₀ p₀ (fs₀ ++ pre)) := fun F' hF' => by
      rcases List.mem_append.mp hF' with z | z
      · exact oe1 F' z
      · exact h1 F' z
    obtain ⟨G', r', oe, h⟩ := ih2 _ (r1.set q (okEnd_gen oe2)) (fun F' hF' => o F' (h4 F' hF'))
    exact ⟨G', r', oe, .segSuspGen hs hr1 hq h⟩
end LG

namespace LG
open PySem Sem
variable {M : Model}
theorem wp_alive {D : Nat → Option GenState} {α : Type} {Γ : Ctx} (t : Sem α) : ∀ {Q : α → Pos → Shared → Prop} {E : Value → Pos → Shared → Prop} {p : Pos} {s : Shared} {G : Array GenState}, Sem.wp M Γ t Q E p s → Rl D G s.gens →
    Sem.wp M Γ t (fun a p' s' => ∃ z, Q a p' z ∧ ∃ G', Rl D G' z.gens ∧ s' = { z with gens := G' }) (fun e p' s' => ∃ z, E e p' z ∧ ∃ G', Rl D G' z.gens ∧ s' = { z with gens := G' }) p { s with gens := G } := by
  induction t with
  | pure a => intro Q E p s G h r; exact ⟨s, h, G, r, rfl⟩
  | raise e => intro Q E p s G h r; exact ⟨s, h, G, r, rfl⟩
  | unsupported w => intro Q E p s G h r; exact h.elim
  | finish e => intro Q E p s G h r; exact h.elim
  | rule _ k ih => intro Q E p s G h r; exact ih () (Q := Q) (E := E) (s := s) h r
  | «at» p' k ih => intro Q E p s G h r; exact ih () (Q := Q) (E := E) (s := s) h r
  | load a _ k ih => intro Q E p s G h r; obtain ⟨o, ho, h⟩ := h; exact ⟨o, ho, ih o (Q := Q) (E := E) (s := s) h r⟩
  | update a _ f k ih => intro Q E p s G h r; obtain ⟨ho, h⟩ := h; exact ⟨ho, ih () (Q := Q) (E := E) (s := { s with heap := s.heap.update a f }) h r⟩
  | alloc o k ih => intro Q E p s G h r; exact ih _ (Q := Q) (E := E) (s := { s with heap := s.heap.push o }) h r
  | loadIfAlive a k ih => intro Q E p s G h r; exact ih _ (Q := Q) (E := E) (s := s) h r
  | point _ k ih => intro Q E p s G h r; exact ih () (Q := Q) (E := E) (s := s) h r
  | register _ _ _ => intro Q E p s G h r; exact h.elim
  | fresh k ih => intro Q E p s G h r; exact ih _ (Q := Q) (E := E) (s := { s with toks := s.toks + 1 }) h r
  | ask k ih => intro Q E p s G h r; exact ih _ (Q := Q) (E := E) (s := s) h r
  | choose src n k ih => intro Q E p s G h r; obtain ⟨hn, h⟩ := h; exact ⟨hn, ih _ (Q := Q) (E := E) (s := { s with drawn := s.drawn.bump src }) h r⟩
  | os q _ k ih => intro Q E p s G h r; exact ih _ (Q := Q) (E := E) (s := { s with os := (Os.step s.os q).1 }) h r
  | call c hh g l k ih =>
    intro Q E p s G h r
    obtain ⟨rs, s1, hr, h⟩ := h
    obtain ⟨G1, r1, _, hr1⟩ := alive hr G r (fun _ h => nomatch h)
    exact ⟨rs, _, hr1, ih rs (Q := Q) (E := E) (s := s1) h r1⟩
  | handled own k ih => intro Q E p s G h r; exact ih _ (Q := Q) (E := E) (s := s) h r
  | genState g k ih =>
    intro Q E p s G h r
    obtain ⟨st, hg, h⟩ := h
    rcases r.look hg with q | ⟨x, b, e⟩
    · exact ⟨st, q, ih _ (Q := Q) (E := E) (s := s) h r⟩
    · rw [e, kill_seen] at h
      exact ⟨x, b, ih _ (Q := Q) (E := E) (s := s) h r⟩
  | newGen c k ih =>
    intro Q E p s G h r
    have h' := ih s.gens.size (Q := Q) (E := E) (p := p) (s := { s with gens := s.gens.push (.fresh c) }) h (r.push (fun _ _ _ _ _ _ q => nomatch q))
    show Sem.wp M Γ (k G.size) _ _ p _
    rw [r.sz]
    exact h'
  | resume g rr l k ih =>
    intro Q E p s G h r
    obtain ⟨res, s1, hw, h⟩ := h
    unfold Wakes at hw
    split at hw
    · exact hw.elim
    · rename_i c hg
      split at hw
      · obtain ⟨e1, s2, hr, hq, rfl, rfl⟩ := hw
        have q := r.awake hg rfl
        obtain ⟨G1, r1, oe1, h1⟩ := alive hr _ (r.set q (x := .running) (fun _ _ _ _ _ _ q => nomatch q)) (fun _ h => nomatch h)
        refine ⟨e1.result, _, ?_, ih _ (Q := Q) (E := E) (s := s2.setGen g e1.genState) h (r1.set q (okEnd_gen oe1))⟩
        unfold Wakes
        rw [show ({ s with gens := G } : Shared).gens[g]? = some (.fresh c) from r.same hg rfl]
        exact ⟨e1, _, h1, hq, rfl, rfl⟩
      · obtain ⟨rfl, rfl⟩ := hw
        refine ⟨_, _, ?_, ih _ (Q := Q) (E := E) (s := s1) h r⟩
        unfold Wakes
        rw [show ({ s1 with gens := G } : Shared).gens[g]? = some (.fresh c) from r.same hg rfl]
        rename_i v hv
        cases v <;> first | exact absurd rfl hv | exact ⟨rfl, rfl⟩
      · obtain ⟨rfl, rfl⟩ := hw
        refine ⟨_, _, ?_, ih _ (Q := Q) (E := E) (s := s.setGen g .finished) h (r.set (r.awake hg rfl) (x := .finished) (fun _ _ _ _ _ _ q => nomatch q))⟩
        unfold Wakes
        rw [show ({ s with gens := G } : Shared).gens[g]? = some (.fresh c) from r.same hg rfl]
        exact ⟨rfl, rfl⟩
    · rename_i k0 l0 c0 p0 fs cl hg
      obtain ⟨e1, s2, hr, hq, rfl, rfl⟩ := hw
      have q : D g = none := by
        cases q : D g with
        | none => rfl
        | some x =>
          obtain ⟨a, b, c⟩ := r.dd g x q
          rw [c] at hg
          cases x <;> first | (cases a; done) | skip
          cases hg
          exact absurd rfl (not_dead hr "")
      obtain ⟨G1, r1, oe1, h1⟩ := alive hr _ (r.set q (x := .running) (fun _ _ _ _ _ _ q => nomatch q)) (r.nf _ _ _ _ _ _ _ q hg).ok
      refine ⟨e1.result, _, ?_, ih _ (Q := Q) (E := E) (s := s2.setGen g e1.genState) h (r1.set q (okEnd_gen oe1))⟩
      unfold Wakes
      rw [show ({ s with gens := G } : Shared).gens[g]? = some (.suspended k0 l0 c0 p0 fs cl) from by rw [← hg]; exact r.al g q]
      exact ⟨e1, _, h1, hq, rfl, rfl⟩
    · rename_i hg
      obtain ⟨rfl, rfl⟩ := hw
      refine ⟨_, _, ?_, ih _ (Q := Q) (E := E) (s := s1) h r⟩
      unfold Wakes
      rw [show ({ s1 with gens := G } : Shared).gens[g]? = some .running from r.same hg rfl]
      exact ⟨rfl, rfl⟩
    · rename_i hg
      obtain ⟨rfl, rfl⟩ := hw
      refine ⟨_, _, ?_, ih _ (Q := Q) (E := E) (s := s1) h r⟩
      unfold Wakes
      rw [show ({ s1 with gens := G } : Shared).gens[g]? = some .finished from r.same hg rfl]
      exact ⟨rfl, rfl⟩
  | yield v g l k ih => intro Q E p s G h r; exact h.elim
  | stack k ih => intro Q E p s G h r; exact ih _ (Q := Q) (E := E) (s := s) h r
  | fork c k ih => intro Q E p s G h r; exact h.elim
  | thread k ih => intro Q E p s G h r; exact ih _ (Q := Q) (E := E) (s := s) h r
  | await a t d l k ih => intro Q E p s G h r; exact h.elim
end LG

namespace LG
open PySem PyProof.Rows
variable {M : Model}
/-- the sleepers of an array -/
def slp (G : Array GenState) : Nat → Option GenState := fun i => match G[i]? with
  | some x => if asleep x then some x else none
  | none => none
theorem slp_some {G : Array GenState} {i : Nat} {x : GenState} (h : slp G i = some x) : G[i]? = some x ∧ asleep x = true := by
  unfold slp at h
  split at h
  · rename_i y e
    split at h
    · rename_i ha; cases h; exact ⟨e, ha⟩
    · cases h
  · cases h
theorem slp_of {G : Array GenState} {i : Nat} {x : GenState} (h : G[i]? = some x) (ha : asleep x = true) : slp G i = some x := by
  unfold slp
  rw [h]
  exact if_pos ha
theorem rl_kill (G : Array GenState) : Rl (slp G) G (G.map kill) where
  sz := by simp
  dd := fun i x e => by
    obtain ⟨h1, h2⟩ := slp_some e
    exact ⟨h2, h1, by rw [Array.getElem?_map, h1]; rfl⟩
  al := fun i e => by
    rw [Array.getElem?_map]
    cases q : G[i]? with
    | none => rfl
    | some y =>
      cases ha : asleep y with
      | true => rw [slp_of q ha] at e; cases e
      | false => cases y <;> first | (cases ha; done) | rfl
  nf := fun i k l c p fs cl e q => by
    rw [Array.getElem?_map] at q
    cases z : G[i]? with
    | none => rw [z] at q; cases q
    | some y =>
      rw [z] at q
      cases ha : asleep y with
      | true => rw [slp_of z ha] at e; cases e
      | false => cases y <;> first | (cases ha; done) | cases q
theorem bare_kill {G : Array GenState} (h : AllBare G) : AllBare (G.map kill) := fun y hy => by
  obtain ⟨x, hx, rfl⟩ := Array.mem_map.mp hy
  rw [kill_bare]; exact h x hx
theorem Rl.bare {D : Nat → Option GenState} {G A : Array GenState} (r : Rl D G A) (h : AllBare A) : AllBare G := fun y hy => by
  obtain ⟨i, hi⟩ := Array.getElem?_of_mem hy
  cases q : D i with
  | none => rw [r.al i q] at hi; exact h y (Array.mem_of_getElem? hi)
  | some x =>
    obtain ⟨_, b, c⟩ := r.dd i x q
    rw [b] at hi; cases hi
    have := h _ (Array.mem_of_getElem? c)
    rwa [kill_bare] at this
/-- s' is z but for sleepers that z has dead; all that slept in G sleeps in s' as it was -/
structure Twin (G : Array GenState) (z s' : Shared) : Prop where
  ex : ∃ G' : Array GenState, s' = { z with gens := G' } ∧ (∃ D, Rl D G' z.gens) ∧ ∀ (i : Nat) (x : GenState), G[i]? = some x → asleep x = true → G'[i]? = some x
/-- what sleeps is not touched by code that is right for dead sleepers, too -/
theorem wpAny_asleep {α : Type} {A : Around} {t : Sem α} {Q : α → Shared → Prop} {E : Value → Shared → Prop} {s : Shared} (h : wpAny M A t Q E { s with gens := s.gens.map kill }) :
    wpAny M A t (fun a s' => ∃ z, Q a z ∧ Twin s.gens z s') (fun e s' => ∃ z, E e z ∧ Twin s.gens z s') s := fun Γ p hΓ => by
  have h1 := wp_alive t (h Γ p hΓ) (rl_kill s.gens)
  refine Sem.wp_mono M Γ t (fun a p' s' hq => ?_) (fun e p' s' hq => ?_) p s h1
  · obtain ⟨z, hz, G', r, rfl⟩ := hq
    exact ⟨z, hz, G', rfl, ⟨_, r⟩, fun i x e ha => (r.dd i x (slp_of e ha)).2.1⟩
  · obtain ⟨z, hz, G', r, rfl⟩ := hq
    exact ⟨z, hz, G', rfl, ⟨_, r⟩, fun i x e ha => (r.dd i x (slp_of e ha)).2.1⟩
end LG

set_option maxHeartbeats 2000000
/-! Layer D, part Y1: one run of a generator, from its waking to its next yield. -/
namespace LG
open PySem PySem.Spec PyProof.Rows
open Sem (wp)
variable {M : Model}

def SegQ (M : Model) (A : Around) (Φ : End → Shared → Prop) (c : Code) (t : Sem PySem.Fin) (fs : List Frame) (s : Shared) : Prop :=
  ∀ Γ p, Γ.code = c → Γ.Woken A → ∃ e s', Runs M Γ p t fs s e s' ∧ Φ e s'
section
variable {A : Around} {Φ : End → Shared → Prop} {c : Code} {fs : List Frame} {s : Shared}
theorem sq_wrap {α : Type} {m : Sem α} {K : α → Sem PySem.Fin} {H : Value → Sem PySem.Fin} {gd lv}
    (h : wpAny M (A.over c fs) m (fun a s' => SegQ M A Φ c (K a) fs s') (fun x s' => SegQ M A Φ c (H x) fs s') s) : SegQ M A Φ c (m.wrap K H gd lv) fs s := fun Γ p hc hΓ => by
  subst hc
  exact runs_wrap_of_wp K H gd lv m (h (Γ.over fs) p (hΓ.over fs)) (fun a p' s' h' => h' Γ p' rfl hΓ) fun x p' s' h' => h' Γ p' rfl hΓ
/-- nothing is raised -/
theorem sq_run {α : Type} {m : Sem α} {K : α → Sem PySem.Fin} {H : Value → Sem PySem.Fin} {gd lv}
    (h : wpAny M (A.over c fs) m (fun a s' => SegQ M A Φ c (K a) fs s') (fun _ _ => False) s) : SegQ M A Φ c (m.wrap K H gd lv) fs s := sq_wrap (wpAny_mono h (fun _ _ x => x) fun _ _ x => x.elim)
theorem sq_at {p' : Pos} {k : Unit → Sem PySem.Fin} (h : SegQ M A Φ c (k ()) fs s) : SegQ M A Φ c (.at p' k) fs s :=
  sq_wrap (m := standAt p') (K := k) (H := .raise) (gd := id) (lv := id) (wpAny_standAt h)
theorem sq_point {l : List Value} {k : Unit → Sem PySem.Fin} (h : SegQ M A Φ c (k ()) fs s) : SegQ M A Φ c (.point l k) fs s :=
  sq_wrap (m := point) (K := k) (H := .raise) (gd := id) (lv := fun _ => l) (wpAny_point h)
theorem sq_call {c' : Code} {h g l} {k : Result → Sem PySem.Fin} (hc : ∀ p, SegQ M A Φ c' (M.den c') (.ret k h g l c p [] :: fs) s) : SegQ M A Φ c (.call c' h g l k) fs s := fun Γ p hc' hΓ => by
  subst hc'
  obtain ⟨e, s', hr, he⟩ := hc p (Γ.goto c') p rfl (hΓ.goto c')
  exact ⟨e, s', runs_call_seg hr, he⟩
theorem sq_leaf {k h g l c₁ p₁ kp} (r : Result) (hk : SegQ M A Φ c₁ (k r) fs s) : SegQ M A Φ c (leafOf r) (.ret k h g l c₁ p₁ kp :: fs) s := fun Γ p hc hΓ => by
  obtain ⟨e, s', hr, he⟩ := hk (Γ.goto c₁) p₁ rfl (hΓ.goto c₁)
  exact ⟨e, s', Runs.pop r hr, he⟩
theorem sq_again {c' : Code} (hq : c'.quiet = true) (hc : SegQ M A Φ c' (M.den c') fs s) : SegQ M A Φ c (.pure (.again c')) fs s := fun Γ p hc' hΓ => by
  obtain ⟨e, s', hr, he⟩ := hc (Γ.goto c') p rfl (hΓ.goto c')
  exact ⟨e, s', Runs.head (c₁ := c') (fun _ _ x => .again hq x) hr, he⟩
theorem sq_end (r : Result) (h : Φ (.ret r) s) : SegQ M A Φ c (leafOf r) [] s := fun Γ p _ _ => ⟨.ret r, s, Runs.leaf r, h⟩
theorem sq_yield {v g l} {k : Resume → Sem PySem.Fin} (hfs : splitAtGen fs = none) (h : ∀ p, Φ (.susp v g l k c p fs) s) : SegQ M A Φ c (.yield v g l k) fs s := fun Γ p hc _ => by
  subst hc
  exact ⟨_, s, Runs.yield' fs hfs, h p⟩
theorem SegQ.imp {Φ' : End → Shared → Prop} {t : Sem PySem.Fin} (h : SegQ M A Φ c t fs s) (i : ∀ e s', Φ e s' → Φ' e s') : SegQ M A Φ' c t fs s := fun Γ p hc hΓ => by
  obtain ⟨e, s', hr, he⟩ := h Γ p hc hΓ
  exact ⟨e, s', hr, i _ _ he⟩
end

section
variable {A : Around} {Φ : End → Shared → Prop} {c : Code} {fs : List Frame} {s : Shared} {env : Env} {K : Flow → Sem PySem.Fin} {H : Value → Sem PySem.Fin} {gd : Bool → Bool} {lv : List Value → List Value}
theorem sq_nil (h : SegQ M A Φ c (K .next) fs s) : SegQ M A Φ c ((execs [] env).wrap K H gd lv) fs s := h
theorem sq_cons {st : Stmt} {rest : List Stmt} (h : SegQ M A Φ c ((exec st env).wrap (fun f => match f with | .next => (execs rest env).wrap K H gd lv | f => K f) H gd lv) fs s) : SegQ M A Φ c ((execs (st :: rest) env).wrap K H gd lv) fs s := by
  rw [execs_cons_wrap]; exact h
/-- yield e as a statement: what the sleeper is woken with is None -/
theorem sq_Yield {e : Expr} {ypos pos : Pos} (hfs : splitAtGen fs = none) (hgd : gd false = false)
    (h : wpAny M (A.over c fs) (eval e env) (fun v s' => ∀ (k : Resume → Sem PySem.Fin) (l : List Value) (p : Pos), (∀ (A' : Around) (Φ' : End → Shared → Prop) (s'' : Shared), SegQ M A' Φ' c (K .next) fs s'' → SegQ M A' Φ' c (k (.send .none)) fs s'') → Φ (.susp v false l k c p fs) s')
      (fun _ _ => False) s) (hco : env.scope.isCoroutine = false := by rfl) (hi : interactive env = false := by rfl) :
    SegQ M A Φ c ((exec (.Expr (.Yield (some e) ypos) pos) env).wrap K H gd lv) fs s := by
  rw [exec_Expr env _ pos hi rfl]
  show SegQ M A Φ c (.at pos fun _ => ((eval e env >>= fun v => (standAt ypos >>= fun _ => yieldOut env v)) >>= fun x => dropValue (.Yield (some e) ypos) pos x).wrap K H gd lv) fs s
  have hy : ∀ v, yieldOut env v = yieldValue v := fun v => by simp only [yieldOut, hco, Bool.false_eq_true, if_false]
  simp only [hy]
  refine sq_at ?_
  rw [Sem.bind_eq_wrap', Sem.bind_eq_wrap', Sem.wrap_wrap, Sem.wrap_wrap]
  refine sq_run (wpAny_mono h (fun v s' h' => ?_) fun _ _ x => x)
  refine sq_at (sq_yield hfs fun p => ?_)
  show Φ (.susp v (gd false) _ _ c p fs) s'
  rw [hgd]
  exact h' _ _ p fun A' Φ' s'' hx => hx
end
end LG

namespace LG
open PySem PySem.Spec PyProof.Rows
section
variable {prog : Program} {w : World} {A : Around} {Φ : End → Shared → Prop} {c : Code} {fs : List Frame} {s : Shared} {env : Env} {K : Flow → Sem PySem.Fin} {H : Value → Sem PySem.Fin} {gd : Bool → Bool} {lv : List Value → List Value}
/-- what a loop's own code does with an exception -/
def noted (env : Env) (e : Value) : Sem PySem.Fin := (do noteFrame e env; theTreesLotGoes e : Sem Unit).wrap (fun _ => .raise e) .raise id id
/-- what a loop's statement does when its code comes back -/
def backK (env : Env) (K : Flow → Sem PySem.Fin) (H : Value → Sem PySem.Fin) (gd : Bool → Bool) (lv : List Value → List Value) (r : Result) : Sem PySem.Fin :=
  ((match r with | .ok f => (.pure f : Sem Flow) | .error e => .raise e).onRaise fun (x : Value) => do
    if (← field x 1) == Value.none then unsupported "frame.own-activation:exception-without-traceback"
    setFlight x env.frame).wrap K H gd lv
theorem backK_ok {f : Flow} : backK env K H gd lv (.ok f) = K f := rfl
theorem sq_While {M : Model} {test : Expr} {body orelse : List Stmt} {pos : Pos} (h : ∀ p, SegQ M A Φ (.whileLoop test body orelse env) (M.den (.whileLoop test body orelse env)) (.ret (backK env K H gd lv) none (gd false) (lv []) c p [] :: fs) s) :
    SegQ M A Φ c ((exec (.While test body orelse pos) env).wrap K H gd lv) fs s := sq_at (sq_call h)
theorem sq_For {M : Model} {target iter : Expr} {body orelse : List Stmt} {pos : Pos} (hs : ∀ x, foldedSetIterable iter env x = pure x)
    (h : wpAny M (A.over c fs) (eval iter env) (fun x s1 => wpAny M (A.over c fs) (pyIter x) (fun it s2 => ∀ (l : List Value) p, SegQ M A Φ (.forLoop target it body orelse env) (M.den (.forLoop target it body orelse env)) (.ret (backK env K H gd lv) none (gd false) l c p [] :: fs) s2) (fun _ _ => False) s1) (fun _ _ => False) s) :
    SegQ M A Φ c ((exec (.For target iter body orelse pos) env).wrap K H gd lv) fs s := by
  rw [exec_For]
  simp only [hs]
  show SegQ M A Φ c (.at pos fun _ => ((eval iter env >>= fun x => (pure x : Sem Value) >>= fun x => standAt iter.pos >>= fun _ => holding [x] (pyIter x) >>= fun it => runOwn (.forLoop target it body orelse env) env)).wrap K H gd lv) fs s
  refine sq_at ?_
  rw [Sem.bind_eq_wrap', Sem.wrap_wrap]
  refine sq_run (wpAny_mono h (fun x s1 h1 => ?_) fun _ _ x => x)
  refine sq_at ?_
  show SegQ M A Φ c ((holding [x] (pyIter x) >>= fun it => runOwn (.forLoop target it body orelse env) env).wrap K H gd lv) fs s1
  rw [Sem.bind_eq_wrap', Sem.wrap_wrap]
  refine sq_run (wpAny_holding (wpAny_mono h1 (fun it s2 h2 => ?_) fun _ _ x => x))
  exact sq_call fun p => h2 _ p
/-- what a loop does behind its body -/
def loopK (c : Code) (f : Flow) : Sem PySem.Fin := match f with
  | .next | .cont => .pure (.again c)
  | .brk => .pure (.done .next)
  | .ret v => .pure (.done (.ret v))
theorem sq_forLoop {target : Expr} {it : Value} {body : List Stmt}
    (h : wpAny (model prog w) (A.over (.forLoop target it body [] env) fs) (pyNext it) (fun r s1 => match r with
      | none => SegQ (model prog w) A Φ (.block [] env) (leafOf (.ok .next)) fs s1
      | some v => wpAny (model prog w) (A.over (.forLoop target it body [] env) fs) (letOwnedTupleGo target it v) (fun _ s2 => wpAny (model prog w) (A.over (.forLoop target it body [] env) fs) (assign target env v) (fun _ s3 =>
          SegQ (model prog w) A Φ (.forLoop target it body [] env) ((execs body env).wrap (loopK (.forLoop target it body [] env)) (noted env) id id) fs s3) (fun _ _ => False) s2) (fun _ _ => False) s1) (fun _ _ => False) s) :
    SegQ (model prog w) A Φ (.forLoop target it body [] env) ((model prog w).den (.forLoop target it body [] env)) fs s := by
  show SegQ _ A Φ _ ((forTurn target it body [] env).onRaise (fun x => do noteFrame x env; theTreesLotGoes x)) fs s
  unfold forTurn
  rw [Sem.onRaise_eq_wrap, Sem.bind_eq_wrap', Sem.wrap_wrap]
  refine sq_run (wpAny_standAt ?_)
  rw [Sem.bind_eq_wrap', Sem.wrap_wrap]
  refine sq_run (wpAny_onRaise (wpAny_mono h (fun r s1 h1 => ?_) fun _ _ x => x.elim))
  cases r with
  | none =>
    show SegQ _ A Φ _ (.pure (.again (.block [] env))) fs s1
    exact sq_again rfl h1
  | some v =>
    dsimp only at h1 ⊢
    rw [Sem.bind_eq_wrap', Sem.wrap_wrap]
    refine sq_run (wpAny_mono h1 (fun _ s2 h2 => ?_) fun _ _ x => x)
    rw [Sem.bind_eq_wrap', Sem.wrap_wrap]
    refine sq_run (wpAny_mono h2 (fun _ s3 h3 => ?_) fun _ _ x => x)
    rw [Sem.bind_eq_wrap', Sem.wrap_wrap]
    rw [Sem.wrap_congr (execs body env) _ _ (K' := loopK (.forLoop target it body [] env)) (H' := noted env) (fun f => by cases f <;> rfl) (fun e => by show Sem.bind _ _ = _; rw [Sem.bind_eq_wrap]; rfl)]
    exact h3
theorem sq_whileLoop {test : Expr} {body : List Stmt}
    (h : wpAny (model prog w) (A.over (.whileLoop test body [] env) fs) (isTrue test env (eval test env)) (fun b s' =>
        if b = true then SegQ (model prog w) A Φ (.whileLoop test body [] env) ((execs body env).wrap (loopK (.whileLoop test body [] env)) (noted env) id id) fs s'
        else SegQ (model prog w) A Φ (.whileLoop test body [] env) (leafOf (.ok .next)) fs s') (fun _ _ => False) s) :
    SegQ (model prog w) A Φ (.whileLoop test body [] env) ((model prog w).den (.whileLoop test body [] env)) fs s := by
  show SegQ _ A Φ _ ((whileTurn test body [] env).onRaise (fun x => do noteFrame x env; theTreesLotGoes x)) fs s
  unfold whileTurn
  rw [Sem.onRaise_eq_wrap, Sem.bind_eq_wrap', Sem.wrap_wrap]
  refine sq_run (wpAny_mono h (fun b s' hb => ?_) fun _ _ x => x)
  cases b with
  | true =>
    rw [if_pos rfl] at hb
    show SegQ _ A Φ _ (Sem.wrap _ _ _ _ (if true = true then _ else _)) fs s'
    rw [if_pos rfl, Sem.bind_eq_wrap', Sem.wrap_wrap]
    rw [Sem.wrap_congr (execs body env) _ _ (K' := loopK (.whileLoop test body [] env)) (H' := noted env) (fun f => by cases f <;> rfl) (fun e => by show Sem.bind _ _ = _; rw [Sem.bind_eq_wrap]; rfl)]
    exact hb
  | false =>
    rw [if_neg Bool.false_ne_true] at hb
    show SegQ _ A Φ _ (Sem.wrap _ _ _ _ (if false = true then _ else _)) fs s'
    rw [if_neg Bool.false_ne_true]
    exact hb
theorem sq_func {body : List Stmt} (h : SegQ (model prog w) A Φ (.func body env) ((execs body env).wrap (fun f => leafOf (.ok (.ret (match f with | .ret v => v | _ => .none)))) (fun e => (leaving env e).wrap (fun _ => .raise e) .raise id id) id id) fs s) :
    SegQ (model prog w) A Φ (.func body env) ((model prog w).den (.func body env)) fs s := by
  show SegQ _ A Φ _ (.point [] fun _ => ((execs body env).onRaise (leaving env)) >>= _) fs s
  refine sq_point ?_
  rw [Sem.onRaise_eq_wrap, Sem.bind_eq_wrap', Sem.wrap_wrap]
  rw [Sem.wrap_congr (execs body env) _ _ (K' := fun f => leafOf (.ok (.ret (match f with | .ret v => v | _ => .none)))) (H' := fun e => (leaving env e).wrap (fun _ => .raise e) .raise id id) (fun f => by cases f <;> rfl)
    (fun e => by rw [Sem.bind_eq_wrap, Sem.wrap_wrap]; rfl)]
  exact h
end
end LG

set_option maxHeartbeats 2000000
/-! Layer D, part Y2: a generator's frame runs again. -/
namespace LG
open PySem PySem.Spec PyProof.Rows L2

/-- the heap below L -/
def cut (s : Shared) (L : Addr) : Shared := { s with heap := { s.heap with objs := s.heap.objs.extract 0 L } }
section
variable {s : Shared} {L b : Nat} {o : Obj}
theorem cut_get (h : b < L) : (cut s L).heap.get? b = s.heap.get? b := by
  unfold Heap.get?
  have e : (cut s L).heap.objs[b]? = s.heap.objs[b]? := by
    show (s.heap.objs.extract 0 L)[b]? = _
    rw [Array.getElem?_extract]
    by_cases hb : b < s.heap.objs.size
    · rw [if_pos (by omega), Nat.zero_add]
    · rw [if_neg (by omega), Array.getElem?_eq_none (by omega)]
  rw [e]
theorem cut_size (h : L ≤ s.heap.objs.size) : (cut s L).heap.objs.size = L := by
  show (s.heap.objs.extract 0 L).size = L
  rw [Array.size_extract]; omega
theorem cut_lt (h : L ≤ s.heap.objs.size) (e : (cut s L).heap.get? b = some o) : b < L := by
  have := Heap.lt_size e
  rwa [cut_size h] at this
theorem cut_some (h : L ≤ s.heap.objs.size) (e : (cut s L).heap.get? b = some o) : b < L ∧ s.heap.get? b = some o := by
  have hl := cut_lt h e
  exact ⟨hl, by rw [← cut_get hl]; exact e⟩
end

/-- all that is no one's: pinned, but for the frame L and what stands in no -/
def pinH (H : Hp) (h : Heap) (L : Addr) (no : List Addr) : Hp := fun b => match H b with
  | some o => some o
  | none => if L < b ∧ b ∉ no then (match h.get? b with
    | some o => some (.ext fun h' => h'.get? b = some o)
    | none => none) else none
section
variable {P : Program} {w : World} {H : Hp} {h : Heap} {L b : Nat} {no : List Addr}
theorem pinH_sub : Same H (pinH H h L no) := fun b o e => by unfold pinH; rw [e]
theorem pinH_low (hb : b ≤ L) : pinH H h L no b = H b := by
  unfold pinH
  cases q : H b with
  | some o => rfl
  | none => dsimp only; rw [if_neg (fun z => absurd (Nat.lt_of_lt_of_le z.1 hb) (Nat.lt_irrefl _))]
theorem pinH_no (hb : b ∈ no) : pinH H h L no b = H b := by
  unfold pinH
  cases q : H b with
  | some o => rfl
  | none => dsimp only; rw [if_neg (fun z => z.2 hb)]
theorem pinH_pin {o : Obj} (hn : H b = none) (hb : L < b) (hb2 : b ∉ no) (e : h.get? b = some o) : pinH H h L no b = some (.ext fun h' => h'.get? b = some o) := by
  unfold pinH
  rw [hn]
  dsimp only
  rw [if_pos ⟨hb, hb2⟩, e]
theorem pinH_inv {o : HO} (e : pinH H h L no b = some o) : H b = some o ∨ (H b = none ∧ L < b ∧ b ∉ no ∧ ∃ ob, h.get? b = some ob ∧ o = .ext fun h' => h'.get? b = some ob) := by
  unfold pinH at e
  cases q : H b with
  | some u => rw [q] at e; exact .inl e
  | none =>
    rw [q] at e
    dsimp only at e
    split at e
    · rename_i hh
      cases z : h.get? b with
      | none => rw [z] at e; cases e
      | some ob => rw [z] at e; cases e; exact .inr ⟨rfl, hh.1, hh.2, ob, rfl, rfl⟩
    · cases e
theorem pinH_ok (hok : HOk P w H h) : HOk P w (pinH H h L no) h := fun b o e => by
  rcases pinH_inv e with q | ⟨_, _, _, ob, q, rfl⟩
  · exact (hok b o q).stay (fun _ _ _ z => z) (fun c z => pinH_sub c _ z) fun c xs z => pinH_sub c _ z
  · exact ⟨q, ⟨ob, q⟩, fun h1 h2 e1 k => k _ e1⟩
end

/-- the context of a frame that was made before and runs again from s on; H: what it knows -/
def gX (P : Program) (w : World) (K : PySem.W.Frag) (mg : Str → Option Value) (base : Heap) (N : List Str) (ge : Env) (A : Around) (outer : List Env) (s : Shared) (H : Hp) : Cx where
  prog := P
  w := w
  K := K
  mg := mg
  base := base
  A := A
  N := N
  s_0 := cut s ge.locals
  H_0 := fun b => if b < ge.locals then H b else none
  env := ge
  outer := outer
  stack := ge :: outer
  ex := []
  fn := fun _ => true
  calm := true
  pn := []
  xe := fun _ _ => False

/-- a generator's frame: a def's, without cells -/
structure GEnv (N : List Str) (ge : Env) : Prop where
  kind : ge.scope.kind = .function
  glob : ge.globals = mainGlobals
  blt : ge.builtins = builtinsNs
  frame : ge.frame = some ge.locals
  cells : ge.cells = []
  nocell : ∀ x, ge.scope.names.lookup x ≠ some .cell ∧ ge.scope.names.lookup x ≠ some .free
  nd : N.Nodup
/-- where a generator may be woken: H is what it knows, pl the objects that are its own -/
structure Wake (P : Program) (w : World) (K : PySem.W.Frag) (mg : Str → Option Value) (base : Heap) (L : Addr) (outer : List Env) (H : Hp) (pl : List (Addr × Obj)) (s : Shared) : Prop where
  mod : Mod K mg base
  bs : ∀ b o, base.get? b = some o → s.heap.get? b = some o ∧ H b = none
  funs : s.heap.FunFrames base outer
  frf : ∀ b ∈ frs outer, H b = none ∧ b < L
  hok : HOk P w H s.heap
  bare : AllBare s.gens
  bl : base.objs.size ≤ L
  lt : L < s.heap.objs.size
  hL : H L = none
  pl : ∀ p ∈ pl, s.heap.get? p.1 = some p.2
theorem funFrames_at {base h h' : Heap} : ∀ {l : List Env}, (∀ b ∈ frs l, ∀ o, h.get? b = some o → h'.get? b = some o) → h.FunFrames base l → h'.FunFrames base l
  | [], _, _ => trivial
  | env :: r, k, ⟨hk, ⟨L, o, hf, hn, ho, hd⟩, hr⟩ => by
    have hm : L ∈ frs (env :: r) := by unfold frs; rw [List.filterMap_cons, hf]; exact List.mem_cons_self
    refine ⟨hk, ⟨L, o, hf, hn, k L hm o ho, hd⟩, funFrames_at (fun b hb => k b ?_) hr⟩
    unfold frs at hb ⊢
    rw [List.filterMap_cons, hf]
    exact List.mem_cons_of_mem _ hb
section
variable {P : Program} {w : World} {K : PySem.W.Frag} {mg : Str → Option Value} {base : Heap} {N : List Str} {ge : Env} {A : Around} {outer : List Env} {s : Shared} {H : Hp} {pl : List (Addr × Obj)} {σ : L2.St} {no : List Addr} {m : Str → Option Value}
/-- THE WAKING: the frame's invariant, from now on -/
theorem inv_wake (E : GEnv N ge) (W : Wake P w K mg base ge.locals outer H pl s) (hfr : A.frames = some (ge :: outer)) (hh : A.handled = none) (hm : s.heap.Ns ge.locals m) (hl : σ.length = N.length)
    (hv : ∀ (i : Nat) (x : Str) (v : V), N[i]? = some x → σ[i]? = some (some v) → Vis ge.scope x → ∃ u, RelV v u ∧ ge.kindOf x = some .local ∧ m x = some u) :
    Inv (gX P w K mg base N ge A outer s H) [] σ (pinH H s.heap ge.locals no) s := by
  have hle : ge.locals ≤ s.heap.objs.size := Nat.le_of_lt W.lt
  have low : ∀ {b o}, base.get? b = some o → b < ge.locals := fun {b o} e => Nat.lt_of_lt_of_le (Heap.lt_size e) W.bl
  have hcl : ∀ x c, ge.cells.lookup x = some c → False := fun x c e => by rw [E.cells] at e; cases e
  refine ⟨⟨W.mod, E.kind, E.glob, E.blt, ?_, fun x y c e _ => (hcl x c e).elim, fun x hx => ?_, fun x c _ e => (hcl x c e).elim, fun _ => hh, hfr, .inr ⟨rfl, E.frame⟩, fun b z => absurd (show b ∈ ([] : List Addr) from z) (by simp), fun b o e => ⟨?_, ?_⟩, ?_,
    fun b o e z => absurd (show b ∈ ([] : List Addr) from z) (by simp), fun b z => absurd (show b ∈ ([] : List Addr) from z) (by simp), ?_, fun b hb => ?_⟩, rfl, W.bare, ⟨fun b o e n hb hx => ?_, fun b o e n hb hx => ?_, fun b o e n hx => ?_, fun b o e hx => ?_, fun b xs e => ?_, fun b o u e => ?_, fun b ps e => ?_⟩,
    ⟨m, hm, fun i x v e1 e2 e3 => ?_⟩, fun x c e => (hcl x c e).elim, ?_, fun x c e => (hcl x c e).elim, fun p hp => absurd (show p ∈ ([] : List (Addr × Obj)) ++ [] from hp) (by simp), pinH_ok W.hok, hl⟩
  · show (cut s ge.locals).heap.objs.size ≤ ge.locals
    rw [cut_size hle]; exact Nat.le_refl _
  · rcases hx with hx | hx
    · exact absurd hx (E.nocell x).1
    · exact absurd hx (E.nocell x).2
  · show (cut s ge.locals).heap.get? b = some o
    rw [cut_get (low e)]; exact (W.bs b o e).1
  · show (if b < ge.locals then H b else none) = none
    rw [if_pos (low e)]; exact (W.bs b o e).2
  · show base.objs.size ≤ (cut s ge.locals).heap.objs.size
    rw [cut_size hle]; exact W.bl
  · exact funFrames_at (fun b hb o e => by show (cut s ge.locals).heap.get? b = some o; rw [cut_get (W.frf b hb).2]; exact e) W.funs
  · show (if b < ge.locals then H b else none) = none
    rw [if_pos (W.frf b hb).2]; exact (W.frf b hb).1
  · exact (cut_some hle e).2
  · exact ⟨o.slots, (cut_some hle e).2⟩
  · have hb := (cut_some hle e).1
    have n' : (if b < ge.locals then H b else none) = none := n
    rw [if_pos hb] at n'
    rw [pinH_low (Nat.le_of_lt hb)]; exact n'
  · exact ⟨o, (cut_some hle e).2⟩
  · have e' : (if b < ge.locals then H b else none) = some (.tup xs) := e
    split at e'
    · exact pinH_sub b _ e'
    · cases e'
  · have e' : (if b < ge.locals then H b else none) = some (.frz o u) := e
    split at e'
    · exact pinH_sub b _ e'
    · cases e'
  · have e' : (if b < ge.locals then H b else none) = some (.tbl ps) := e
    split at e'
    · exact ⟨#[], by rw [pinH_sub b _ e']; simp⟩
    · cases e'
  · obtain ⟨u, r, k1, k2⟩ := hv i x v e1 e2 e3
    exact ⟨u, r, .inl ⟨k1, k2⟩⟩
  · show pinH H s.heap ge.locals no ge.locals = none
    rw [pinH_low (Nat.le_refl _)]; exact W.hL

/-- what stays while a generator runs: H: what it knew, pv: its own objects -/
def Kept (outer : List Env) (H : Hp) (pv : List Addr) (h h' : Heap) : Prop := ∀ b o, h.get? b = some o → H b = none → b ∉ pv → (b ∉ frs outer → h'.get? b = some o) ∧ ∃ sl, h'.get? b = some { o with slots := sl }
theorem kept_of {σ' : L2.St} {H' : Hp} {pins : List (Addr × Obj)} {s' : Shared} (W : Wake P w K mg base ge.locals outer H pl s) (I : Inv (gX P w K mg base N ge A outer s H) pins σ' H' s') (sm : Same (pinH H s.heap ge.locals no) H') : Kept outer H (ge.locals :: no) s.heap s'.heap := fun b o e hn hp => by
  have hne : b ≠ ge.locals := fun z => hp (by rw [z]; exact List.mem_cons_self)
  have hno : b ∉ no := fun z => hp (List.mem_cons_of_mem _ z)
  by_cases hb : b < ge.locals
  · have e1 : (cut s ge.locals).heap.get? b = some o := by rw [cut_get hb]; exact e
    have n1 : (if b < ge.locals then H b else none) = none := by rw [if_pos hb]; exact hn
    by_cases hf : b ∈ frs outer
    · exact ⟨fun z => absurd hf z, I.base.slot b o e1 n1 hf (fun z => nomatch z)⟩
    · have k := I.base.keep b o e1 n1 hf (fun z => nomatch z)
      exact ⟨fun _ => k, o.slots, k⟩
  · have hb' : ge.locals < b := Nat.lt_of_le_of_ne (Nat.le_of_not_lt hb) (Ne.symm hne)
    have q := sm b _ (pinH_pin hn hb' hno e)
    have k : s'.heap.get? b = some o := (I.hok b _ q).1
    exact ⟨fun _ => k, o.slots, k⟩
end
end LG

set_option maxHeartbeats 2000000
/-! Layer D, part Y3: what a sleeping generator will hand out. -/
namespace LG
open PySem PySem.Spec PyProof.Rows L2 LD

/-- what is known so stands by itself -/
def Clo (P : Program) (w : World) (H : Hp) : Prop := ∀ (Hc : Hp) (h : Heap), Same H Hc → HOk P w Hc h → HOk P w H h
/-- one waking's end -/
structure Gone (P : Program) (w : World) (outer : List Env) (H : Hp) (pl : List (Addr × Obj)) (s s1 : Shared) : Prop where
  os : s1.os = s.os
  bare : AllBare s1.gens
  kept : Kept outer H (pl.map (·.1)) s.heap s1.heap
  sz : s.heap.objs.size ≤ s1.heap.objs.size
  there : ∀ b o, s.heap.get? b = some o → ∃ o', s1.heap.get? b = some o'
/-- it has handed out d and sleeps -/
structure Item (P : Program) (w : World) (K : PySem.W.Frag) (L : Addr) (outer : List Env) (H : Hp) (pl : List (Addr × Obj)) (s s1 : Shared) (d : DV) (v : Value) (vv : V) (H' : Hp) (pl' : List (Addr × Obj)) : Prop where
  gone : Gone P w outer H pl s s1
  rel : RelV vv v
  rep : DRep K H' vv d
  new : ∀ b o, H' b = some o → H b = some o ∨ (H b = none ∧ s.heap.get? b = none)
  hok : HOk P w H' s1.heap
  hok0 : HOk P w H s1.heap
  clo : Clo P w H'
  flat : ∀ b o, H' b = some o → (∃ xs, o = .lst xs) ∨ ∃ xs, o = .tup xs
  here : ∃ oL, (L, oL) ∈ pl'
  own : ∀ p ∈ pl', s1.heap.get? p.1 = some p.2 ∧ H' p.1 = none ∧ (p.1 ∈ pl.map (·.1) ∨ s.heap.objs.size ≤ p.1) ∧ ∀ v, p.2.data ≠ .cell v
/-- it may be woken, and then does so -/
def Goes1 (M : Model) (A : Around) (Φ : End → Shared → Prop) (s : Shared) : GenState → Prop
  | .fresh c => SegQ M A Φ c (M.den c) [] s
  | .suspended k _ c _ fs _ => SegQ M A Φ c (k (.send .none)) fs s
  | _ => False
/-- what a generator in this state will hand out; H: what it knows, pl: its own objects -/
def Sleeps (P : Program) (w : World) (K : PySem.W.Frag) (mg : Str → Option Value) (base : Heap) (kk : Nat) (L : Addr) (outer : List Env) : List DV → GenState → Hp → List (Addr × Obj) → Prop
  | [], gs, H, pl => ∀ (A : Around) (s : Shared), Room kk A → A.frames = some outer → Wake P w K mg base L outer H pl s → Clo P w H →
      Goes1 (model P w) A (fun e s1 => (e = .ret (.ok (.ret .none)) ∨ e = .ret (.ok .next)) ∧ Gone P w outer H pl s s1 ∧ HOk P w H s1.heap) s gs
  | d :: rest, gs, H, pl => ∀ (A : Around) (s : Shared), Room kk A → A.frames = some outer → Wake P w K mg base L outer H pl s → Clo P w H →
      Goes1 (model P w) A (fun e s1 => ∃ v l k c p fs vv H' pl', e = .susp v false l k c p fs ∧ fs.any Frame.guarded = false ∧ Item P w K L outer H pl s s1 d v vv H' pl' ∧ Sleeps P w K mg base kk L outer rest (.suspended k l c p fs false) H' pl') s gs

section
variable {M : Model} {A : Around} {Φ : End → Shared → Prop} {E : Value → Shared → Prop} {s : Shared} {g : Nat} {gs : GenState} {α : Type} {k : GenResult → Sem α} {l : List Value} {Q : α → Shared → Prop}
theorem wpAny_resume1 (hg : s.gens[g]? = some gs) (h : Goes1 M A Φ (s.setGen g .running) gs) (hq : ∀ e s1, Φ e s1 → e.quiet = true) (hQ : ∀ e s1, s.gens.size ≤ s1.gens.size → Φ e s1 → wpAny M A (k e.result) Q E (s1.setGen g e.genState)) :
    wpAny M A (.resume g (.send .none) l k) Q E s := fun Γ p hΓ => by
  rw [Sem.wp_resume]
  have sz : (s.setGen g .running).gens.size = s.gens.size := GenW.setGen_size _ _ _
  cases gs with
  | fresh c =>
    obtain ⟨e, s1, hr, he⟩ := h (Γ.wake c p) p rfl (hΓ.wake c p)
    have hz := GenW.runs_gsz hr
    rw [sz] at hz
    exact ⟨_, _, by unfold Wakes; rw [hg]; exact ⟨e, s1, hr, hq e s1 he, rfl, rfl⟩, hQ e s1 hz he Γ p hΓ⟩
  | suspended k0 l0 c0 p0 fs0 cl =>
    obtain ⟨e, s1, hr, he⟩ := h (Γ.wake c0 p) p0 rfl (hΓ.wake c0 p)
    have hz := GenW.runs_gsz hr
    rw [sz] at hz
    exact ⟨_, _, by unfold Wakes; rw [hg]; exact ⟨e, s1, hr, hq e s1 he, rfl, rfl⟩, hQ e s1 hz he Γ p hΓ⟩
  | running => exact h.elim
  | finished => exact h.elim
end

section
variable {P : Program} {w : World} {A : Around} {E : Value → Shared → Prop} {s : Shared} {ga g : Nat} {gs : GenState} {Φ : End → Shared → Prop} {Q : Option Value → Shared → Prop}
/-- next(g), g a generator -/
theorem next_S (hh : A.handled = none) (hl : s.heap.NoLimit) (hroom : A.depth < recursionLimit) (hg : s.heap.IsGen ga g) (hgs : s.gens[g]? = some gs) (h : Goes1 (model P w) A.in1 Φ (s.setGen g .running) gs)
    (hΦ : ∀ e s1, Φ e s1 → e = .ret (.ok (.ret .none)) ∨ e = .ret (.ok .next) ∨ ∃ v l k c p fs, e = .susp v false l k c p fs ∧ fs.any Frame.guarded = false)
    (hend : ∀ e s1, s.gens.size ≤ s1.gens.size → Φ e s1 → e = .ret (.ok (.ret .none)) ∨ e = .ret (.ok .next) → ∀ h', (∀ b o, s1.heap.get? b = some o → h'.get? b = some o) → Q none { s1.setGen g .finished with heap := h' })
    (hitem : ∀ v l k c p fs s1, s.gens.size ≤ s1.gens.size → Φ (.susp v false l k c p fs) s1 → fs.any Frame.guarded = false → Q (some v) (s1.setGen g (.suspended k l c p fs false))) : wpAny (model P w) A (pyNext (.ref ga)) Q E s := by
  unfold pyNext
  refine wpAny_bind (wpAny_attempt (wpAny_callSpecial?_slot (name := Str.ofString "__next__") hg.typeIs slot_gen_next (wpAny_call_entry slot_gen_next hg.typeIs entry_gen_next ?_ (args_gen_next _))))
  show wpAny (model P w) A.in1 (Builtin.Generator.genWake (.ref ga) (.send .none)) _ _ s
  unfold Builtin.Generator.genWake
  refine wpAny_bind (wpAny_holding (wpAny_genNumber hg (wpAny_bind (wpAny_genState hgs ?_))))
  have main : ∀ e s1, s.gens.size ≤ s1.gens.size → Φ e s1 → e.quiet = true := fun e s1 hz he => by
    rcases hΦ e s1 he with rfl | rfl | ⟨v, l, k, c, p, fs, rfl, hf⟩
    · rfl
    · rfl
    · show (!(false || fs.any Frame.guarded)) = true
      rw [hf]; rfl
  cases gs with
  | running => exact h.elim
  | finished => exact h.elim
  | _ =>
    refine wpAny_bind (wpAny_roomToWake hl hroom ?_)
    show wpAny (model P w) A.in1 (.resume g (.send .none) [] _) _ _ s
    refine wpAny_resume1 (Φ := fun e s1 => Φ e s1) hgs h (fun e s1 he => by
      rcases hΦ e s1 he with rfl | rfl | ⟨v, l, k, c, p, fs, rfl, hf⟩
      · rfl
      · rfl
      · show (!(false || fs.any Frame.guarded)) = true
        rw [hf]; rfl) fun e s1 hz he => ?_
    have stop : (e = .ret (.ok (.ret .none)) ∨ e = .ret (.ok .next)) → e.result = .returned .none ∧ e.genState = .finished := fun z => by rcases z with rfl | rfl <;> exact ⟨rfl, rfl⟩
    rcases (show (e = .ret (.ok (.ret .none)) ∨ e = .ret (.ok .next)) ∨ _ from or_assoc.mpr (hΦ e s1 he)) with z | ⟨v, l, k, c, p, fs, rfl, hf⟩
    · obtain ⟨e1, e2⟩ := stop z
      simp only [e1, e2]
      show wpAny (model P w) A.in1 (newExc (.type "StopIteration") [] >>= _) _ _ _
      refine wpAny_bind ?_
      simp only [newExc, newTuple]
      refine wpAny_bind (wpAny_newObj_type (wpAny_bind (m := firstArgMember _ _) (wpAny_of_eq (a := Value.none) (by first | rfl | (simp only [firstArgMember]; rfl)) (wpAny_newObj_type ?_ (by size_fits)))) (by size_fits))
      simp only [raiseNew]
      refine wpAny_bind (wpAny_bind (wpAny_handled ?_)); rw [show A.in1.handled = none from hh]
      refine wpAny_throw (wpAny_bind (wpAny_isInstance (T := "StopIteration") (b := true) ⟨_, Heap.get?_push_size _ rfl, rfl⟩ isSubtype_stop (wpAny_pure ?_)))
      exact hend e s1 hz he z _ fun b o hb => Heap.get?_push_of_some _ (Heap.get?_push_of_some _ hb)
    · have eg : (End.susp v false l k c p fs).genState = .suspended k l c p fs false := by show GenState.suspended k l c p fs (false || fs.any Frame.guarded) = _; rw [hf]; rfl
      rw [eg]
      exact wpAny_pure ⟨v, rfl, wpAny_pure (hitem v l k c p fs s1 hz he hf)⟩
end
end LG

set_option maxHeartbeats 2000000
/-! Layer D, part Y4: a generator's body. -/
namespace LG
open PySem PySem.Spec PyProof.Rows L2 LD

/-! ### the heap only grows -/
theorem upd_sz (h : Heap) (a : Addr) (f : Obj → Obj) : (h.update a f).objs.size = h.objs.size := by
  obtain ⟨o, l⟩ := h
  show (o.modify a f).size = o.size
  simp
theorem runs_hsz {M : Model} {Γ : PySem.Ctx} {p : Pos} {t : Sem PySem.Fin} {fs : List Frame} {s s' : Shared} {e : End} (h : Runs M Γ p t fs s e s') : s.heap.objs.size ≤ s'.heap.objs.size := by
  induction h <;> (try simp only [Shared.setGen, upd_sz, Heap.size_push] at *) <;> omega
theorem wakes_hsz {M : Model} {Γ : PySem.Ctx} {p : Pos} {g : Nat} {r : Resume} {s s' : Shared} {res : GenResult} (h : Wakes M Γ p g r s res s') : s.heap.objs.size ≤ s'.heap.objs.size := by
  unfold Wakes at h
  split at h
  · exact h.elim
  · split at h
    · obtain ⟨e1, s1, hr, _, _, rfl⟩ := h; have hz := runs_hsz hr; exact hz
    · rw [h.2]; exact Nat.le_refl _
    · rw [h.2]; exact Nat.le_refl _
  · obtain ⟨e1, s1, hr, _, _, rfl⟩ := h; have hz := runs_hsz hr; exact hz
  · rw [h.2]; exact Nat.le_refl _
  · rw [h.2]; exact Nat.le_refl _
theorem wp_hsz {α : Type} {M : Model} {Γ : PySem.Ctx} {n : Nat} (t : Sem α) : ∀ {Q : α → Pos → Shared → Prop} {E : Value → Pos → Shared → Prop} {p : Pos} {s : Shared}, n ≤ s.heap.objs.size → Sem.wp M Γ t Q E p s →
    Sem.wp M Γ t (fun a p' s' => n ≤ s'.heap.objs.size ∧ Q a p' s') (fun e p' s' => n ≤ s'.heap.objs.size ∧ E e p' s') p s := by
  induction t with
  | pure a => intro Q E p s hn h; exact ⟨hn, h⟩
  | raise e => intro Q E p s hn h; exact ⟨hn, h⟩
  | unsupported _ => intro Q E p s _ h; exact h
  | finish _ => intro Q E p s _ h; exact h
  | rule _ k ih => intro Q E p s hn h; exact ih () (s := s) hn h
  | «at» p' k ih => intro Q E p s hn h; exact ih () (s := s) hn h
  | load a _ k ih => intro Q E p s hn h; obtain ⟨o, ho, h⟩ := h; exact ⟨o, ho, ih o (s := s) hn h⟩
  | update a _ f k ih => intro Q E p s hn h; exact ⟨h.1, ih () (s := { s with heap := s.heap.update a f }) (by show n ≤ (s.heap.update a f).objs.size; rw [upd_sz]; exact hn) h.2⟩
  | loadIfAlive a k ih => intro Q E p s hn h; exact ih _ (s := s) hn h
  | point _ k ih => intro Q E p s hn h; exact ih () (s := s) hn h
  | register _ _ => intro Q E p s _ h; exact h
  | alloc o k ih => intro Q E p s hn h; exact ih _ (s := { s with heap := s.heap.push o }) (by show n ≤ (s.heap.push o).objs.size; rw [Heap.size_push]; omega) h
  | fresh k ih => intro Q E p s hn h; exact ih _ (s := { s with toks := s.toks + 1 }) hn h
  | ask k ih => intro Q E p s hn h; exact ih _ (s := s) hn h
  | choose src m k ih => intro Q E p s hn h; exact ⟨h.1, ih _ (s := { s with drawn := s.drawn.bump src }) hn h.2⟩
  | os q _ k ih => intro Q E p s hn h; exact ih _ (s := { s with os := (Os.step s.os q).1 }) hn h
  | call c hd _ _ k ih => intro Q E p s hn h; obtain ⟨r, s', hr, h⟩ := h; exact ⟨r, s', hr, ih r (s := s') (Nat.le_trans hn (runs_hsz hr)) h⟩
  | handled own k ih => intro Q E p s hn h; exact ih _ (s := s) hn h
  | newGen c k ih => intro Q E p s hn h; exact ih _ (s := { s with gens := s.gens.push (.fresh c) }) hn h
  | genState g k ih => intro Q E p s hn h; obtain ⟨st, hs, h⟩ := h; exact ⟨st, hs, ih _ (s := s) hn h⟩
  | resume g r _ k ih => intro Q E p s hn h; obtain ⟨res, s', hw, h⟩ := h; exact ⟨res, s', hw, ih res (s := s') (Nat.le_trans hn (wakes_hsz hw)) h⟩
  | yield _ _ _ _ => intro Q E p s _ h; exact h
  | stack k ih => intro Q E p s hn h; exact ih _ (s := s) hn h
  | fork _ _ => intro Q E p s _ h; exact h
  | thread k ih => intro Q E p s hn h; exact ih _ (s := s) hn h
  | await _ _ _ _ _ => intro Q E p s _ h; exact h
theorem wpAny_hsz {α : Type} {M : Model} {A : Around} {s : Shared} {t : Sem α} {Q : α → Shared → Prop} {E : Value → Shared → Prop} (h : wpAny M A t Q E s) : wpAny M A t (fun a s' => s.heap.objs.size ≤ s'.heap.objs.size ∧ Q a s') (fun e s' => s.heap.objs.size ≤ s'.heap.objs.size ∧ E e s') s :=
  fun Γ p hΓ => wp_hsz t (Nat.le_refl _) (h Γ p hΓ)

/-! ### flat data -/
mutual
def flatD : DV → Bool
  | .non => true
  | .bl _ => true
  | .int _ => true
  | .str _ => true
  | .tup xs => flatDs xs
  | .lst xs => flatDs xs
  | .ro _ => false
  | .dic _ => false
  | .dit _ => false
  | .obj _ _ => false
def flatDs : List DV → Bool
  | [] => true
  | x :: xs => flatD x && flatDs xs
end
theorem flatDs_get : ∀ {ds : List DV} {i : Nat} {d : DV}, flatDs ds = true → ds[i]? = some d → flatD d = true
  | [], _, _, _, e => by simp at e
  | x :: xs, 0, d, h, e => by simp at e; subst e; exact (Bool.and_eq_true_iff.mp h).1
  | x :: xs, i + 1, d, h, e => flatDs_get (Bool.and_eq_true_iff.mp h).2 (by simpa using e)
def flH (G : Hp) : Hp := fun b => match G b with
  | some (.lst xs) => some (.lst xs)
  | some (.tup xs) => some (.tup xs)
  | _ => none
theorem flH_inv {G : Hp} {b : Addr} {o : HO} (h : flH G b = some o) : G b = some o ∧ ((∃ xs, o = .lst xs) ∨ ∃ xs, o = .tup xs) := by
  unfold flH at h
  split at h
  · rename_i xs e; cases h; exact ⟨e, .inl ⟨xs, rfl⟩⟩
  · rename_i xs e; cases h; exact ⟨e, .inr ⟨xs, rfl⟩⟩
  · cases h
theorem flH_sub {G : Hp} : Same (flH G) G := fun b o e => (flH_inv e).1
theorem flH_lst {G : Hp} {b : Addr} {xs : List V} (h : G b = some (.lst xs)) : flH G b = some (.lst xs) := by unfold flH; rw [h]
theorem flH_tup {G : Hp} {b : Addr} {xs : List V} (h : G b = some (.tup xs)) : flH G b = some (.tup xs) := by unfold flH; rw [h]
theorem flH_none {G : Hp} {b : Addr} (h : G b = none) : flH G b = none := by unfold flH; rw [h]
theorem clo_fl {P : Program} {w : World} {G : Hp} : Clo P w (flH G) := fun Hc h sm hok b o e => by
  have q := hok b o (sm b o e)
  rcases (flH_inv e).2 with ⟨xs, rfl⟩ | ⟨xs, rfl⟩ <;> exact q
section
variable {K : PySem.W.Frag} {G : Hp}
mutual
theorem rep_fl : ∀ {v : V} {d : DV}, flatD d = true → DRep K G v d → DRep K (flH G) v d
  | _, _, _, .non => .non
  | _, _, _, .bl b => .bl b
  | _, _, _, .int i => .int i
  | _, _, _, .str x => .str x
  | _, _, h, .tup e r => .tup (flH_tup e) (reps_fl h r)
  | _, _, h, .lst e r => .lst (flH_lst e) (reps_fl h r)
  | _, _, h, .ro _ _ => by cases h
  | _, _, h, .dic _ _ => by cases h
  | _, _, h, .dit _ _ => by cases h
  | _, _, h, .obj _ _ => by cases h
theorem reps_fl : ∀ {vs : List V} {ds : List DV}, flatDs ds = true → DReps K G vs ds → DReps K (flH G) vs ds
  | _, _, _, .nil => .nil
  | _, _, h, .cons a b => .cons (rep_fl (Bool.and_eq_true_iff.mp h).1 a) (reps_fl (Bool.and_eq_true_iff.mp h).2 b)
end
end
/-- what flat data a frame's names have -/
def flS : Sl → Sl
  | .pu d => if flatD d then .pu d else .un
  | _ => .un
theorem flS_yes {d : DV} (h : flatD d = true) : flS (.pu d) = .pu d := if_pos h
theorem flS_no {d : DV} (h : flatD d = false) : flS (.pu d) = .un := if_neg (by rw [h]; decide)
def flE (δ : Ev) : Ev := δ.map flS
theorem flE_set {δ : Ev} {i : Nat} {d : DV} (h : flatD d = true) : flE (δ.set i (.pu d)) = (flE δ).set i (.pu d) := by
  unfold flE
  rw [List.map_set]
  rw [flS_yes h]
theorem flS_idem (s : Sl) : flS (flS s) = flS s := by
  cases s with
  | pu d =>
    cases h : flatD d with
    | true => rw [flS_yes h, flS_yes h]
    | false => rw [flS_no h]; rfl
  | _ => rfl
theorem flE_idem (δ : Ev) : flE (flE δ) = flE δ := by
  unfold flE
  rw [List.map_map]
  exact List.map_congr_left fun s _ => flS_idem s
theorem flE_get {δ : Ev} {i : Nat} {s : Sl} (h : (flE δ)[i]? = some s) : s = .un ∨ ∃ d, s = .pu d ∧ flatD d = true ∧ δ[i]? = some (.pu d) := by
  unfold flE at h
  rw [List.getElem?_map] at h
  cases q : δ[i]? with
  | none => rw [q] at h; cases h
  | some t =>
    rw [q] at h
    cases h
    cases t with
    | pu d =>
      cases hd : flatD d with
      | true => exact .inr ⟨d, flS_yes hd, hd, rfl⟩
      | false => exact .inl (flS_no hd)
    | _ => exact .inl rfl
theorem flE_pu {δ : Ev} {i : Nat} {d : DV} (h : δ[i]? = some (.pu d)) (hf : flatD d = true) : (flE δ)[i]? = some (.pu d) := by
  unfold flE
  rw [List.getElem?_map, h]
  exact congrArg some (flS_yes hf)
/-- names known with flat data, over what is known flat -/
theorem sok_fl {K : PySem.W.Frag} {B : Bas} {G H H2 : Hp} {δ : Ev} {σ : L2.St} (S : SOk K B G H δ σ) (sm : Same (flH G) H2) : SOk K ⟨H2, flH G, none⟩ (flH G) H2 (flE δ) σ := by
  have no : ∀ {i : Nat} {s : Sl}, (flE δ)[i]? = some s → isOwn s = false := fun {i s} e => by
    rcases flE_get e with rfl | ⟨d, rfl, _⟩ <;> rfl
  refine ⟨Tr.refl sm, by unfold flE; rw [List.length_map]; exact S.len, fun i s e => ?_, fun i j a b c e1 _ o1 => ?_, fun i c fs e => ?_⟩
  · rcases flE_get e with rfl | ⟨d, rfl, hf, hd⟩
    · trivial
    · obtain ⟨v, hv, r⟩ := S.pu hd
      rw [hv]
      exact ⟨v, rfl, rep_fl hf r⟩
  · rw [no e1] at o1; cases o1
  · have := no e; cases this
theorem sok_fl' {K : PySem.W.Frag} {B : Bas} {G H : Hp} {δ : Ev} {σ : L2.St} (S : SOk K B G H δ σ) : SOk K B G H (flE δ) σ := by
  have no : ∀ {i : Nat} {s : Sl}, (flE δ)[i]? = some s → isOwn s = false := fun {i s} e => by
    rcases flE_get e with rfl | ⟨d, rfl, _⟩ <;> rfl
  refine ⟨S.tr, by unfold flE; rw [List.length_map]; exact S.len, fun i s e => ?_, fun i j a b c e1 _ o1 => ?_, fun i c fs e => ?_⟩
  · rcases flE_get e with rfl | ⟨d, rfl, hf, hd⟩
    · trivial
    · exact S.sl i _ hd
  · rw [no e1] at o1; cases o1
  · have := no e; cases this
end LG

namespace LG
open PySem PySem.Spec PyProof.Rows L2 LD
/-! ### the frame running -/
structure Lie (ge : Env) (c : Code) (fs : List Frame) : Prop where
  over : ∀ A : Around, A.over c fs = A.deeper ge
  split : splitAtGen fs = none
  guard : fs.any Frame.guarded = false
theorem lie_func {ge : Env} {body : List Stmt} : Lie ge (.func body ge) [] := ⟨fun _ => GenW.over_func, rfl, rfl⟩
theorem Lie.loop {ge : Env} {c c' : Code} {fs : List Frame} {k : Result → Sem PySem.Fin} {l kp : List Value} {p : Pos} (h : Lie ge c fs) (hw : c'.weight = 0) (hu : c'.cUnits = 0) : Lie ge c' (.ret k none false l c p kp :: fs) where
  over := fun A => (GenW.over_loop hw hu).trans (h.over A)
  split := by
    show (splitAtGen fs).map _ = none
    rw [h.split]; rfl
  guard := by
    show (false || fs.any Frame.guarded) = false
    rw [h.guard]; rfl

structure On (P : Program) (w : World) (K : PySem.W.Frag) (mg : Str → Option Value) (base : Heap) (N : List Str) (ge : Env) (A : Around) (outer : List Env) (s0 : Shared) (Hk : Hp) (no pr : List Addr) (δ : Ev) (σ : L2.St) (G H : Hp) (s : Shared) : Prop where
  I : Inv (gX P w K mg base N ge (A.deeper ge) outer s0 Hk) [] σ H s
  S : SOk K ⟨pinH Hk s0.heap ge.locals no, Hk, none⟩ G H δ σ
  pro : ∀ b ∈ pr, H b = none ∧ ge.locals < b ∧ b ∉ frs outer ∧ ∃ o, s.heap.get? b = some o ∧ ∀ v, o.data ≠ .cell v
  sub : ∀ b ∈ no, b ∈ pr
  sz : s0.heap.objs.size ≤ s.heap.objs.size
section
variable {P : Program} {w : World} {K : PySem.W.Frag} {mg : Str → Option Value} {base : Heap} {N : List Str} {ge : Env} {A : Around} {outer : List Env} {s0 s : Shared} {Hk G H : Hp} {no pr : List Addr} {δ δ' : Ev} {σ : L2.St}
theorem On.fp (E : GEnv N ge) (O : On P w K mg base N ge A outer s0 Hk no pr δ σ G H s) : ∀ b ∈ pr, FpOk (gX P w K mg base N ge (A.deeper ge) outer s0 Hk) [] H b := fun b hb => by
  obtain ⟨h1, h2, h3, h4⟩ := O.pro b hb
  refine ⟨h1, Nat.ne_of_gt h2, h3, .inr ?_, fun x c e => ?_, fun p hp => absurd (show p ∈ ([] : List (Addr × Obj)) ++ [] from hp) (by simp)⟩
  · have := O.I.ok.above
    exact Nat.le_trans this (Nat.le_of_lt h2)
  · have e' : ge.cells.lookup x = some c := e
    rw [E.cells] at e'; cases e'
theorem On.pinned (E : GEnv N ge) (O : On P w K mg base N ge A outer s0 Hk no pr δ σ G H s) : Inv (gX P w K mg base N ge (A.deeper ge) outer s0 Hk) (pinsAt pr s.heap) σ H s := by
  have := Inv.pinned O.I (O.fp E) fun b hb => (O.pro b hb).2.2.2
  rwa [List.nil_append] at this
theorem On.back {s' : Shared} {G' H' : Hp} {σ' : L2.St} (O : On P w K mg base N ge A outer s0 Hk no pr δ σ G H s) (I : Inv (gX P w K mg base N ge (A.deeper ge) outer s0 Hk) (pinsAt pr s.heap) σ' H' s') (S : SOk K ⟨pinH Hk s0.heap ge.locals no, Hk, none⟩ G' H' δ' σ') (hz : s.heap.objs.size ≤ s'.heap.objs.size) :
    On P w K mg base N ge A outer s0 Hk no pr δ' σ' G' H' s' where
  I := I.pins_of fun p hp => nomatch hp
  S := S
  pro := fun b hb => by
    obtain ⟨h1, h2, h3, o, h4, h5⟩ := O.pro b hb
    obtain ⟨e, n, _⟩ := I.pin (b, o) (List.mem_append_right _ (mem_pinsAt hb h4))
    exact ⟨n, h2, h3, o, e, h5⟩
  sub := O.sub
  sz := Nat.le_trans O.sz hz
/-- a statement of the generator runs -/
theorem on_stmt {st : Stmt} {F : Ev → SR} (E : GEnv N ge) (O : On P w K mg base N ge A outer s0 Hk no pr δ σ G H s) (hF : PSD (gX P w K mg base N ge (A.deeper ge) outer s0 Hk) W0 st F) (e : F δ = .nx δ') :
    wpAny (model P w) (A.deeper ge) (exec st ge) (fun f s' => f = .next ∧ ∃ σ' G' H', Same G G' ∧ On P w K mg base N ge A outer s0 Hk no pr δ' σ' G' H' s') (fun _ _ => False) s := by
  obtain ⟨t, pt, ht⟩ := hF.ex
  have h := wpAny_hsz (pt.run _ s σ H ⟨fun σ' H' => ∃ G', Same G G' ∧ SOk K ⟨pinH Hk s0.heap ge.locals no, Hk, none⟩ G' H' δ' σ', fun _ _ => False, fun _ _ => False, fun _ _ => False⟩ (O.pinned E) (ht O.S (by
    rw [e]
    exact fun σ' H' G' g S' => ⟨G', g, S'⟩)))
  refine wpAny_mono h (fun f s' hq => ?_) fun _ _ x => x.2
  obtain ⟨hz, hq⟩ := hq
  cases f with
  | next => obtain ⟨σ', H', I', G', g, S'⟩ := hq; exact ⟨rfl, σ', G', H', g, O.back I' S' hz⟩
  | brk => obtain ⟨_, _, _, q⟩ := hq; exact q.elim
  | cont => obtain ⟨_, _, _, q⟩ := hq; exact q.elim
  | ret v => obtain ⟨_, _, _, _, _, q⟩ := hq; exact q.elim
/-- a test -/
theorem on_test {e : Expr} {ft : Ev → R Bool} {b : Bool} (E : GEnv N ge) (O : On P w K mg base N ge A outer s0 Hk no pr δ σ G H s) (hF : PDT (gX P w K mg base N ge (A.deeper ge) outer s0 Hk) W0 e ft) (eb : ft δ = .ok b) :
    wpAny (model P w) (A.deeper ge) (isTrue e ge (eval e ge)) (fun b' s' => b' = b ∧ ∃ G' H', Same G G' ∧ On P w K mg base N ge A outer s0 Hk no pr δ σ G' H' s') (fun _ _ => False) s := by
  obtain ⟨t, pt, ht⟩ := hF.ex
  have h := wpAny_hsz (pt.run _ s σ H (fun b' H' => b' = b ∧ ∃ G', Same G G' ∧ SOk K ⟨pinH Hk s0.heap ge.locals no, Hk, none⟩ G' H' δ σ) (O.pinned E) (ht O.S (by
    rw [eb]
    exact fun b' H' G' t r => ⟨r, G', t.gg, O.S.step t⟩)))
  refine wpAny_mono h (fun f s' hq => ?_) fun _ _ x => x.2
  obtain ⟨hz, H', I', eb, G', g, S'⟩ := hq
  exact ⟨eb, G', H', g, O.back I' S' hz⟩
/-- an expression -/
theorem on_expr {e : Expr} {fe : Ev → R DV} {d : DV} (E : GEnv N ge) (O : On P w K mg base N ge A outer s0 Hk no pr δ σ G H s) (hF : PD (gX P w K mg base N ge (A.deeper ge) outer s0 Hk) W0 e fe) (ed : fe δ = .ok d) :
    wpAny (model P w) (A.deeper ge) (eval e ge) (fun u s' => ∃ v G' H', RelV v u ∧ DRep K G' v d ∧ Same G G' ∧ On P w K mg base N ge A outer s0 Hk no pr δ σ G' H' s') (fun _ _ => False) s := by
  obtain ⟨t, pt, ht⟩ := hF.ex
  have h := wpAny_hsz (pt.run _ s σ H (fun v H' => ∃ G', DRep K G' v d ∧ Same G G' ∧ SOk K ⟨pinH Hk s0.heap ge.locals no, Hk, none⟩ G' H' δ σ) (O.pinned E) (ht O.S (by
    rw [ed]
    exact fun v H' G' t r => ⟨G', r, t.gg, O.S.step t⟩)))
  refine wpAny_mono h (fun f s' hq => ?_) fun _ _ x => x.2
  obtain ⟨hz, v, H', I', r, G', rd, g, S'⟩ := hq
  exact ⟨v, G', H', r, rd, g, O.back I' S' hz⟩
end
end LG

set_option maxHeartbeats 2000000
/-! Layer D, part Y5: for x in xs: yield x. -/
namespace LG
open PySem PySem.Spec PyProof.Rows L2 LD

theorem alive_of {P : Program} {w : World} {H : Hp} {h : Heap} {a : Addr} : ∀ {o : HO}, ObjOk P w H h a o → ∃ ob, h.get? a = some ob
  | .lst _, ⟨_, _, _, _, e⟩ => ⟨_, e⟩
  | .tup _, ⟨_, _, _, ob, e, _⟩ => ⟨ob, e⟩
  | .dK _, ⟨_, _, _, _, ob, _, _, e, _⟩ => ⟨ob, e⟩
  | .dT _, ⟨_, _, _, _, ob, _, _, e, _⟩ => ⟨ob, e⟩
  | .set _ _, ⟨ob, _, _, _, e, _⟩ => ⟨ob, e⟩
  | .ins _ _ _, ⟨_, _, _, e, _⟩ => ⟨_, e⟩
  | .own _, e => e
  | .xd _, ⟨_, ⟨ob, _, _, e, _⟩, _⟩ => ⟨ob, e⟩
  | .rng _ _, ⟨_, _, _, e⟩ => ⟨_, e⟩
  | .frz ob _, ⟨e, _⟩ => ⟨ob, e⟩
  | .tbl _, e => ⟨_, (show h.get? a = some _ from e)⟩
  | .met _ _, e => ⟨_, (show h.get? a = some _ from e)⟩
  | .ext _, ⟨_, e, _⟩ => e

section
variable {P : Program} {w : World} {K : PySem.W.Frag} {mg : Str → Option Value} {base : Heap} {N : List Str} {ge : Env} {A : Around} {outer : List Env} {s0 s : Shared} {Hk G H : Hp} {no pr : List Addr} {δ δ' : Ev} {σ : L2.St} {pl : List (Addr × Obj)} {kk : Nat}
theorem on_gone (W : Wake P w K mg base ge.locals outer Hk pl s0) (hpl : pl.map (·.1) = ge.locals :: no) (O : On P w K mg base N ge A outer s0 Hk no pr δ σ G H s) : Gone P w outer Hk pl s0 s where
  os := O.I.os
  bare := O.I.bare
  kept := by rw [hpl]; exact kept_of W O.I O.S.tr.sm
  sz := O.sz
  there := fun b o e => by
    by_cases hb : b < ge.locals
    · exact O.I.base.there b o (by show (cut s0 ge.locals).heap.get? b = some o; rw [cut_get hb]; exact e) (fun z => nomatch z)
    · by_cases he : b = ge.locals
      · obtain ⟨m, ⟨ob, _, _, eo, _⟩, _⟩ := O.I.loc
        exact ⟨ob, by rw [he]; exact eo⟩
      · have hb' : ge.locals < b := Nat.lt_of_le_of_ne (Nat.le_of_not_lt hb) (Ne.symm he)
        by_cases hn : b ∈ no
        · obtain ⟨_, _, _, ob, eo, _⟩ := O.pro b (O.sub b hn)
          exact ⟨ob, eo⟩
        · cases q : Hk b with
          | some u => exact alive_of (O.I.hok b u (O.S.tr.sm b u (pinH_sub b u q)))
          | none => exact alive_of (O.I.hok b _ (O.S.tr.sm b _ (pinH_pin q hb' hn e)))
/-- what the generator has made is new -/
theorem on_new (W : Wake P w K mg base ge.locals outer Hk pl s0) (O : On P w K mg base N ge A outer s0 Hk no pr δ σ G H s) {b : Addr} {o : HO} (e : flH G b = some o) : Hk b = some o ∨ (Hk b = none ∧ s0.heap.get? b = none) := by
  obtain ⟨eg, fl⟩ := flH_inv e
  have eh := O.S.gh b o eg
  cases q : Hk b with
  | some u =>
    have := O.S.tr.gg b u q
    rw [eg] at this; cases this
    exact .inl rfl
  | none =>
    refine .inr ⟨rfl, ?_⟩
    cases z : s0.heap.get? b with
    | none => rfl
    | some ob =>
      exfalso
      by_cases hb : b < ge.locals
      · have n := O.I.base.free b ob (by show (cut s0 ge.locals).heap.get? b = some ob; rw [cut_get hb]; exact z) (by show (if b < ge.locals then Hk b else none) = none; rw [if_pos hb]; exact q) (fun z => nomatch z)
        rw [n] at eh; cases eh
      · by_cases he : b = ge.locals
        · have n : H ge.locals = none := O.I.free
          rw [he, n] at eh; cases eh
        · have hb' : ge.locals < b := Nat.lt_of_le_of_ne (Nat.le_of_not_lt hb) (Ne.symm he)
          by_cases hn : b ∈ no
          · have n := (O.pro b (O.sub b hn)).1
            rw [n] at eh; cases eh
          · have x := O.S.tr.sm b _ (pinH_pin q hb' hn z)
            rw [eh] at x
            rcases fl with ⟨xs, rfl⟩ | ⟨xs, rfl⟩ <;> cases x
/-- the names' values, to be kept through the sleep -/
theorem on_names (E : GEnv N ge) (O : On P w K mg base N ge A outer s0 Hk no pr δ σ G H s) : ∃ (m : Str → Option Value) (oL : Obj), s.heap.get? ge.locals = some oL ∧ (∀ v, oL.data ≠ .cell v) ∧ (∀ h : Heap, h.get? ge.locals = some oL → h.Ns ge.locals m) ∧
    ∀ (i : Nat) (x : Str) (v : V), N[i]? = some x → σ[i]? = some (some v) → Vis ge.scope x → ∃ u, RelV v u ∧ ge.kindOf x = some .local ∧ m x = some u := by
  obtain ⟨m, ⟨ob, es, ep, eo, ed, r⟩, hv⟩ := O.I.loc
  refine ⟨m, ob, eo, (fun v z => by rw [ed] at z; cases z), (fun h e => ⟨ob, es, ep, e, ed, r⟩), fun i x v e1 e2 e3 => ?_⟩
  obtain ⟨u, ru, l⟩ := hv i x v e1 e2 e3
  refine ⟨u, ru, ?_⟩
  rcases l with l | ⟨k, _⟩
  · exact l
  · rcases k with k | k
    · exact absurd k (E.nocell x).1
    · exact absurd k (E.nocell x).2

def Phi (P : Program) (w : World) (K : PySem.W.Frag) (mg : Str → Option Value) (base : Heap) (kk : Nat) (L : Addr) (outer : List Env) : List DV → Hp → List (Addr × Obj) → Shared → End → Shared → Prop
  | [], H, pl, s, e, s1 => (e = .ret (.ok (.ret .none)) ∨ e = .ret (.ok .next)) ∧ Gone P w outer H pl s s1 ∧ HOk P w H s1.heap
  | d :: rest, H, pl, s, e, s1 => ∃ v l k c p fs vv H' pl', e = .susp v false l k c p fs ∧ fs.any Frame.guarded = false ∧ Item P w K L outer H pl s s1 d v vv H' pl' ∧ Sleeps P w K mg base kk L outer rest (.suspended k l c p fs false) H' pl'
theorem sleeps_of {rem : List DV} {gs : GenState} {L : Addr} (h : ∀ (A : Around) (s : Shared), Room kk A → A.frames = some outer → Wake P w K mg base L outer H pl s → Clo P w H → Goes1 (model P w) A (Phi P w K mg base kk L outer rem H pl s) s gs) : Sleeps P w K mg base kk L outer rem gs H pl := by
  cases rem <;> exact h
theorem of_sleeps {rem : List DV} {gs : GenState} {L : Addr} (h : Sleeps P w K mg base kk L outer rem gs H pl) : ∀ (A : Around) (s : Shared), Room kk A → A.frames = some outer → Wake P w K mg base L outer H pl s → Clo P w H → Goes1 (model P w) A (Phi P w K mg base kk L outer rem H pl s) s gs := by
  cases rem <;> exact h

/-- the frame is woken: its names are known -/
theorem wake_on {s1 : Shared} {A1 : Around} {it : Addr} {oL oit : Obj} {m : Str → Option Value} (E : GEnv N ge) (O : On P w K mg base N ge A outer s0 Hk no pr δ σ G H s) (hit : H it = none) (hlt : ge.locals < it) (hnf : it ∉ frs outer) (hd : ∀ v, oit.data ≠ .cell v)
    (hm : ∀ h : Heap, h.get? ge.locals = some oL → h.Ns ge.locals m) (hv : ∀ (i : Nat) (x : Str) (v : V), N[i]? = some x → σ[i]? = some (some v) → Vis ge.scope x → ∃ u, RelV v u ∧ ge.kindOf x = some .local ∧ m x = some u)
    (hr : Room kk A1) (hf : A1.frames = some outer) (W : Wake P w K mg base ge.locals outer (flH G) [(ge.locals, oL), (it, oit)] s1) :
    On P w K mg base N ge A1 outer s1 (flH G) [it] [it] (flE δ) σ (flH G) (pinH (flH G) s1.heap ge.locals [it]) s1 where
  I := inv_wake E W (Around.frames_deeper hf) hr.hd (hm _ (W.pl _ List.mem_cons_self)) O.I.len hv
  S := sok_fl O.S pinH_sub
  pro := fun b hb => by
    rw [List.mem_singleton.mp hb]
    refine ⟨?_, hlt, hnf, oit, W.pl (it, oit) (List.mem_cons_of_mem _ List.mem_cons_self), hd⟩
    rw [pinH_no List.mem_cons_self]
    exact flH_none (O.S.gh.none hit)
  sub := fun b hb => hb
  sz := Nat.le_refl _
/-- it hands out d -/
theorem on_item {it : Addr} {oL oit : Obj} {d : DV} {v : Value} {vv : V} (W : Wake P w K mg base ge.locals outer Hk pl s0) (hpl : pl.map (·.1) = ge.locals :: no) (O : On P w K mg base N ge A outer s0 Hk no pr δ σ G H s) (hfl : flatD d = true) (rv : RelV vv v) (rd : DRep K G vv d)
    (eL : s.heap.get? ge.locals = some oL) (dL : ∀ v, oL.data ≠ .cell v) (eit : s.heap.get? it = some oit) (dit : ∀ v, oit.data ≠ .cell v) (hit : H it = none) (hold : it ∈ no ∨ s0.heap.objs.size ≤ it) (C : Clo P w Hk) :
    Item P w K ge.locals outer Hk pl s0 s d v vv (flH G) [(ge.locals, oL), (it, oit)] where
  gone := on_gone W hpl O
  rel := rv
  rep := rep_fl hfl rd
  new := fun b o e => on_new W O e
  hok := clo_fl H s.heap (flH_sub.trans O.S.gh) O.I.hok
  hok0 := C H s.heap (pinH_sub.trans O.S.tr.sm) O.I.hok
  clo := clo_fl
  flat := fun b o e => (flH_inv e).2
  here := ⟨oL, List.mem_cons_self⟩
  own := fun p hp => by
    rcases List.mem_cons.mp hp with e | hp
    · subst e
      exact ⟨eL, flH_none (O.S.gh.none O.I.free), .inl (by rw [hpl]; exact List.mem_cons_self), dL⟩
    · rw [List.mem_singleton.mp hp]
      refine ⟨eit, flH_none (O.S.gh.none hit), ?_, dit⟩
      rcases hold with h | h
      · exact .inl (by rw [hpl]; exact List.mem_cons_of_mem _ h)
      · exact .inr h
end
end LG

namespace LG
open PySem PySem.Spec PyProof.Rows L2 LD
/-- a list's iterator at its end: what becomes of it -/
theorem next_list_end {P : Program} {w : World} {A : Around} {E : Value → Shared → Prop} {s : Shared} {it l : Addr} {i : Nat} {items : Array Value} {Q : Option Value → Shared → Prop} (hh : A.handled = none) (hit : s.heap.IsListIter it l i) (hl : s.heap.IsList l items) (hx : items[i]? = none)
    (hQ : ∀ h', Heap.ExtBut it s.heap h' → (∃ o vs, h'.get? it = some o ∧ o.data = .fields vs) → Q none { s with heap := h' }) : wpAny (model P w) A (pyNext (.ref it)) Q E s := by
  obtain ⟨o, ho, hc, hd⟩ := id hit
  obtain ⟨ol, hol, _, nl, hdl⟩ := hl
  unfold pyNext
  refine wpAny_bind (wpAny_attempt (wpAny_callSpecial?_slot (name := Str.ofString "__next__") hit.typeIs slot_listiter_next (wpAny_call_entry slot_listiter_next hit.typeIs entry_listiter_next ?_ (args_listiter_next _))))
  show wpAny (model P w) _ (field (.ref it) 0 >>= _) _ _ s
  refine wpAny_bind (wpAny_field ho hd (x := .ref l) rfl ?_)
  show wpAny (model P w) _ (if (Value.ref l == Value.none) = true then _ else _) _ _ s
  rw [if_neg (show ¬ ((Value.ref l == Value.none) = true) by exact Bool.false_ne_true)]
  show wpAny (model P w) _ (field (.ref it) 1 >>= _) _ _ s
  refine wpAny_bind (wpAny_field ho hd (x := .int i 0) rfl ?_)
  show wpAny (model P w) _ (seqItems? (.ref l) >>= _) _ _ s
  refine wpAny_bind (wpAny_seqItems hol hdl ?_); simp only [Int.toNat_natCast, hx]
  refine wpAny_bind (wpAny_rule (wpAny_bind (wpAny_setField ho hd (by simp) ?_)))
  have hself : (s.heap.update it (Obj.mapFields fun vs => vs.setIfInBounds 0 Value.none)).get? it = some (Obj.mapFields (fun vs => vs.setIfInBounds 0 Value.none) o) := Heap.get?_update_self _ ho (by obtain ⟨oc, od, dt, sl⟩ := o; have hd' : dt = _ := hd; subst hd'; rfl)
  show wpAny (model P w) _ (newExc (.type "StopIteration") [] >>= _) _ _ _
  refine wpAny_bind ?_
  simp only [newExc, newTuple]
  refine wpAny_bind (wpAny_newObj_type (wpAny_bind (m := firstArgMember _ _) (wpAny_of_eq (a := Value.none) (by first | rfl | (simp only [firstArgMember]; rfl)) (wpAny_newObj_type ?_ (by size_fits)))) (by size_fits))
  simp only [raiseNew]
  refine wpAny_bind (wpAny_handled ?_); rw [show A.in1.handled = none from hh]
  refine wpAny_bind (wpAny_pure ?_); refine wpAny_throw ?_; refine wpAny_bind (wpAny_isInstance (T := "StopIteration") (b := true) ⟨_, Heap.get?_push_size _ rfl, rfl⟩ isSubtype_stop ?_); refine wpAny_pure ?_
  refine hQ _ (((Heap.SameBut.update ..).extBut.push _).push _) ⟨_, (#[.ref l, .int i 0] : Array Value).setIfInBounds 0 .none, Heap.get?_push_of_some _ (Heap.get?_push_of_some _ hself), ?_⟩
  obtain ⟨oc, od, dt, sl⟩ := o; have hd' : dt = _ := hd; subst hd'; rfl
section
variable {P : Program} {w : World} {K : PySem.W.Frag} {mg : Str → Option Value} {base : Heap} {N : List Str} {ge : Env} {outer : List Env} {kk : Nat}
/-- the target gets a value -/
theorem on_assign {A : Around} {s0 s : Shared} {Hk G H : Hp} {no pr : List Addr} {δ δ' : Ev} {σ : L2.St} {tg : Expr} {ix : List Nat} {g : DV → Ev → R Ev} {d : DV} {v : V} {u : Value} (E : GEnv N ge) (O : On P w K mg base N ge A outer s0 Hk no pr δ σ G H s)
    (hT : PGD (gX P w K mg base N ge (A.deeper ge) outer s0 Hk) tg ix g) (rv : RelV v u) (rd : DRep K G v d) (e : g d δ = .ok δ') :
    wpAny (model P w) (A.deeper ge) (assign tg ge u) (fun _ s' => ∃ σ', On P w K mg base N ge A outer s0 Hk no pr δ' σ' G H s') (fun _ _ => False) s := by
  obtain ⟨t, pt, ht⟩ := hT.ex
  have h := wpAny_hsz (pt.run _ s σ H v u (fun σ' H' => H' = H ∧ SOk K ⟨pinH Hk s0.heap ge.locals no, Hk, none⟩ G H δ' σ') (O.pinned E) rv (ht O.S rd e fun σ' S' _ => ⟨rfl, S'⟩))
  refine wpAny_mono h (fun _ s' hq => ?_) fun _ _ x => x.2
  obtain ⟨hz, σ', H', I', rfl, S'⟩ := hq
  exact ⟨σ', O.back I' S' hz⟩
/-- the iterator of a list turns -/
theorem on_next {A : Around} {s0 s : Shared} {Hk G H : Hp} {no pr : List Addr} {δ : Ev} {σ : L2.St} {tg : Expr} {it ly : Addr} {vs : List V} {ds : List DV} {i : Nat} (E : GEnv N ge) (O : On P w K mg base N ge A outer s0 Hk no pr δ σ G H s) (hh : A.handled = none)
    (hit : it ∈ pr) (st : s.heap.IsListIter it ly i) (hly : G ly = some (.lst vs)) (rp : DReps K G vs ds) :
    wpAny (model P w) (A.deeper ge) (pyNext (.ref it)) (fun r s1 => match ds[i]? with
      | some d => ∃ u, r = some u ∧ wpAny (model P w) (A.deeper ge) (letOwnedTupleGo tg (.ref it) u) (fun _ s2 => ∃ x, RelV x u ∧ DRep K G x d ∧ s2.heap.IsListIter it ly (i + 1) ∧ On P w K mg base N ge A outer s0 Hk no pr δ σ G H s2) (fun _ _ => False) s1
      | none => r = none ∧ ∃ o, (∀ v, o.data ≠ .cell v) ∧ s1.heap.get? it = some o ∧ On P w K mg base N ge A outer s0 Hk no pr δ σ G H s1) (fun _ _ => False) s := by
  have T := turn_list (P := P) (w := w) (K := K) (tg := tg) ly it
  have Iv : Inv (gX P w K mg base N ge (A.deeper ge) outer s0 Hk) (pinsAt (pr.filter (· ≠ it)) s.heap) σ H s := by
    have := Inv.pinned (fp := pr.filter (· ≠ it)) O.I (fun b hb => O.fp E b (List.mem_filter.mp hb).1) fun b hb => (O.pro b (List.mem_filter.mp hb).1).2.2.2
    rwa [List.nil_append] at this
  have hfp : ∀ b ∈ [it], FpOk (gX P w K mg base N ge (A.deeper ge) outer s0 Hk) (pinsAt (pr.filter (· ≠ it)) s.heap) H b := fun b hb => by
    rw [List.mem_singleton.mp hb]
    obtain ⟨f0, f1, f2, f3, f4, _⟩ := O.fp E it hit
    refine ⟨f0, f1, f2, f3, f4, fun p hp z => ?_⟩
    rcases List.mem_append.mp hp with h | h
    · cases h
    · have := (of_pinsAt h).1
      rw [z] at this
      have := (List.mem_filter.mp this).2
      simp at this
  have hq : SqL K H ly vs := SqL.of (O.S.gh _ _ hly)
  have back : ∀ {s2 : Shared} {H2 : Hp}, Inv (gX P w K mg base N ge (A.deeper ge) outer s0 Hk) (pinsAt (pr.filter (· ≠ it)) s.heap) σ H2 s2 → H = H2 → (∃ o, s2.heap.get? it = some o ∧ ∀ v, o.data ≠ .cell v) → s.heap.objs.size ≤ s2.heap.objs.size →
      On P w K mg base N ge A outer s0 Hk no pr δ σ G H s2 := fun {s2 H2} I2 e2 hi hz => by
    subst e2
    refine ⟨I2.pins_of (fun p hp => nomatch hp), O.S, fun b hb => ?_, O.sub, Nat.le_trans O.sz hz⟩
    obtain ⟨h1, h2, h3, o, h4, h5⟩ := O.pro b hb
    refine ⟨h1, h2, h3, ?_⟩
    by_cases z : b = it
    · rw [z]; exact hi
    · exact ⟨o, (I2.pin (b, o) (List.mem_append_right _ (mem_pinsAt (List.mem_filter.mpr ⟨hb, by simpa using z⟩) h4))).1, h5⟩
  have hcell : ∀ {h : Heap} {j : Nat}, h.IsListIter it ly j → ∃ o, h.get? it = some o ∧ ∀ v, o.data ≠ .cell v := fun {h j} ⟨o, e, c, d⟩ => ⟨o, e, fun v z => by rw [d] at z; cases z⟩
  have hhd : (A.deeper ge).handled = none := hh
  cases e : ds[i]? with
  | some d =>
    obtain ⟨x, hx, rx⟩ := rp.get e
    have h := wpAny_hsz (T.item _ rfl rfl rfl rfl i _ s σ H (fun _ _ => False) Iv hfp st ⟨vs, x, hq, hx⟩)
    refine wpAny_mono h (fun r s1 hr => ?_) fun _ _ z => z.2
    obtain ⟨hz1, u, rfl, h2⟩ := hr
    refine ⟨u, rfl, wpAny_mono (wpAny_hsz h2) (fun _ s2 hr2 => ?_) fun _ _ z => z.2⟩
    obtain ⟨hz2, x', H', I2, rx', ⟨eH, y2⟩, st2, fr2⟩ := hr2
    have := y2 vs hq
    rw [hx] at this
    cases this
    exact ⟨x, rx', rx, st2, back I2 eH.symm (hcell st2) (Nat.le_trans hz1 hz2)⟩
  | none =>
    have hl : vs.length ≤ i := by
      rw [rp.length]
      exact List.getElem?_eq_none_iff.mp e
    obtain ⟨its, rvl, p, hzz⟩ := Iv.list hq
    obtain ⟨f0, f1, f2, f3, f4, f5⟩ := hfp it List.mem_cons_self
    have hll := rvl.length
    refine wpAny_mono (wpAny_hsz (next_list_end (Q := fun r s1 => r = none ∧ (∃ o, s1.heap.get? it = some o ∧ ∀ v, o.data ≠ .cell v) ∧ Inv (gX P w K mg base N ge (A.deeper ge) outer s0 Hk) (pinsAt (pr.filter (· ≠ it)) s.heap) σ H s1) (E := fun _ _ => False) hhd st p.isList (by simp; omega) fun h' eb ⟨oe, vse, e1, e2⟩ => ?_)) (fun r s1 hr => ?_) fun _ _ z => z.2
    · exact ⟨rfl, ⟨oe, e1, fun v z => by rw [e2] at z; cases z⟩, Iv.turned (t' := s.toks) (fun b o hb e => eb b o hb e) f0 f1 f3 f4 f5⟩
    · obtain ⟨hz1, rfl, ⟨o, eo, ho⟩, I1⟩ := hr
      exact ⟨rfl, o, ho, eo, back I1 rfl ⟨o, eo, ho⟩ hz1⟩
end
end LG

namespace LG
open PySem PySem.Spec PyProof.Rows L2 LD
section
variable {P : Program} {w : World} {K : PySem.W.Frag} {mg : Str → Option Value} {base : Heap} {N : List Str} {ge : Env} {outer : List Env} {kk : Nat}
/-- what the names know at turn i of a loop -/
def dAt (δ0 : Ev) (ix : Nat) (ds : List DV) : Nat → Ev
  | 0 => δ0
  | i + 1 => δ0.set ix (.pu (ds.getD i .non))
theorem dAt_fl {δ0 : Ev} {ix : Nat} {ds : List DV} (h0 : flE δ0 = δ0) (hf : flatDs ds = true) : ∀ i, i ≤ ds.length → flE (dAt δ0 ix ds i) = dAt δ0 ix ds i
  | 0, _ => h0
  | i + 1, hi => by
    have e : ds[i]? = some (ds.getD i .non) := by rw [List.getD_eq_getElem?_getD, List.getElem?_eq_getElem (by omega)]; rfl
    show flE (δ0.set ix (.pu (ds.getD i .non))) = δ0.set ix (.pu (ds.getD i .non))
    rw [flE_set (flatDs_get hf e), h0]
theorem dAt_set {δ0 : Ev} {ix : Nat} {ds : List DV} {i : Nat} {d : DV} (e : ds[i]? = some d) : (dAt δ0 ix ds i).set ix (.pu d) = dAt δ0 ix ds (i + 1) := by
  have : ds.getD i .non = d := by rw [List.getD_eq_getElem?_getD, e]; rfl
  cases i with
  | zero => show δ0.set ix (.pu d) = δ0.set ix (.pu (ds.getD 0 .non)); rw [this]
  | succ i => show (δ0.set ix (.pu (ds.getD i .non))).set ix (.pu d) = δ0.set ix (.pu (ds.getD (i + 1) .non)); rw [List.set_set, this]
theorem dAt_len {δ0 : Ev} {ix : Nat} {ds : List DV} : ∀ i, (dAt δ0 ix ds i).length = δ0.length
  | 0 => rfl
  | i + 1 => List.length_set

/-- THE LOOP: for x in xs: yield x, from turn i on -/
theorem floop {x : Str} {px p1 p2 p3 : Pos} {ix : Nat} {ds rest : List DV} {δ0 : Ev} {c0 : Code} {fs : List Frame} {F : Result → Sem PySem.Fin} (E : GEnv N ge) (hfl : flatDs ds = true) (h0 : flE δ0 = δ0) (hix : ix < δ0.length) (hl : Lie ge c0 fs)
    (hT : ∀ A s0 Hk, PGD (gX P w K mg base N ge (Around.deeper A ge) outer s0 Hk) (.Name x px) [ix] (gN ix)) (hX : ∀ A s0 Hk, PD (gX P w K mg base N ge (Around.deeper A ge) outer s0 Hk) W0 (.Name x p1) (xVar ix))
    (hend : ∀ A s0 Hk pl no pr σ G H s, Room kk A → A.frames = some outer → Wake P w K mg base ge.locals outer Hk pl s0 → Clo P w Hk → pl.map (·.1) = ge.locals :: no → On P w K mg base N ge A outer s0 Hk no pr (dAt δ0 ix ds ds.length) σ G H s →
      SegQ (model P w) A (Phi P w K mg base kk ge.locals outer rest Hk pl s0) c0 (F (.ok .next)) fs s)
    (hco : ge.scope.isCoroutine = false) (hi : interactive ge = false) : ∀ (n i : Nat), ds.length - i = n → i ≤ ds.length → ∀ A s0 Hk pl no pr σ G H s it ly vs l p, Room kk A → A.frames = some outer → Wake P w K mg base ge.locals outer Hk pl s0 → Clo P w Hk → pl.map (·.1) = ge.locals :: no →
      On P w K mg base N ge A outer s0 Hk no pr (dAt δ0 ix ds i) σ G H s → it ∈ pr → (it ∈ no ∨ s0.heap.objs.size ≤ it) → s.heap.IsListIter it ly i → G ly = some (.lst vs) → DReps K G vs ds →
      SegQ (model P w) A (Phi P w K mg base kk ge.locals outer (ds.drop i ++ rest) Hk pl s0) (.forLoop (.Name x px) (.ref it) [.Expr (.Yield (some (.Name x p1)) p2) p3] [] ge) ((model P w).den (.forLoop (.Name x px) (.ref it) [.Expr (.Yield (some (.Name x p1)) p2) p3] [] ge)) (.ret F none false l c0 p [] :: fs) s := by
  intro n
  induction n with
  | zero =>
    intro i hn hi' A s0 Hk pl no pr σ G H s it ly vs l p hr hf W C hpl O hit hold st hly rp
    have hie : i = ds.length := by omega
    subst hie
    rw [List.drop_length, List.nil_append]
    have L1 : Lie ge (.forLoop (.Name x px) (.ref it) [.Expr (.Yield (some (.Name x p1)) p2) p3] [] ge) (.ret F none false l c0 p [] :: fs) := hl.loop rfl rfl
    refine sq_forLoop ?_
    rw [L1.over]
    refine wpAny_mono (on_next (tg := .Name x px) E O hr.hd hit st hly rp) (fun r s1 h1 => ?_) fun _ _ z => z
    rw [List.getElem?_eq_none (Nat.le_refl _)] at h1
    obtain ⟨rfl, o, _, _, O1⟩ := h1
    exact sq_leaf (.ok .next) (hend A s0 Hk pl no pr σ G H s1 hr hf W C hpl O1)
  | succ n ih =>
    intro i hn hi' A s0 Hk pl no pr σ G H s it ly vs l p hr hf W C hpl O hit hold st hly rp
    have hlt : i < ds.length := by omega
    have L1 : Lie ge (.forLoop (.Name x px) (.ref it) [.Expr (.Yield (some (.Name x p1)) p2) p3] [] ge) (.ret F none false l c0 p [] :: fs) := hl.loop rfl rfl
    have ed : ds[i]? = some ds[i] := List.getElem?_eq_getElem hlt
    refine sq_forLoop ?_
    rw [L1.over]
    refine wpAny_mono (on_next (tg := .Name x px) E O hr.hd hit st hly rp) (fun r s1 h1 => ?_) fun _ _ z => z
    rw [ed] at h1
    obtain ⟨u, rfl, h2⟩ := h1
    refine wpAny_mono h2 (fun _ s2 h3 => ?_) fun _ _ z => z
    obtain ⟨xv, rx, dx, st2, O2⟩ := h3
    -- the iterator as it stands now is kept by what follows
    obtain ⟨oit, eit, cit, dit⟩ := id st2
    have O2p : Inv (gX P w K mg base N ge (A.deeper ge) outer s0 Hk) (pinsAt pr s2.heap) σ H s2 := O2.pinned E
    have keepIt : ∀ {s3 : Shared} {σ3 : L2.St} {H3 : Hp}, Inv (gX P w K mg base N ge (A.deeper ge) outer s0 Hk) (pinsAt pr s2.heap) σ3 H3 s3 → s3.heap.get? it = some oit := fun {s3 σ3 H3} I3 => (I3.pin (it, oit) (List.mem_append_right _ (mem_pinsAt hit eit))).1
    -- the target
    obtain ⟨tT, pT, hTT⟩ := (hT A s0 Hk).ex
    have hasg := wpAny_hsz (pT.run _ s2 σ H xv u (fun σ' H' => H' = H ∧ SOk K ⟨pinH Hk s0.heap ge.locals no, Hk, none⟩ G H (dAt δ0 ix ds (i + 1)) σ') O2p rx (hTT O2.S dx (by rw [show gN ix ds[i] (dAt δ0 ix ds i) = .ok ((dAt δ0 ix ds i).set ix (.pu ds[i])) from rfl, dAt_set ed]) fun σ' S' _ => ⟨rfl, S'⟩))
    refine wpAny_mono hasg (fun _ s3 h4 => ?_) fun _ _ z => z.2
    obtain ⟨hz3, σ3, H3, I3, rfl, S3⟩ := h4
    have eit3 := keepIt I3
    have O3 := O2.back I3 S3 hz3
    refine sq_cons (sq_Yield (gd := id) L1.split rfl ?_ hco hi)
    rw [L1.over]
    -- what is yielded
    obtain ⟨tX, pX, hXX⟩ := (hX A s0 Hk).ex
    have exv : xVar ix (dAt δ0 ix ds (i + 1)) = .ok ds[i] := by
      have e2 : (dAt δ0 ix ds (i + 1))[ix]? = some (.pu ds[i]) := by
        rw [← dAt_set ed, List.getElem?_set_self (by rw [dAt_len]; exact hix)]
      unfold xVar
      rw [e2]
    have hev := wpAny_hsz (pX.run _ s3 σ3 H3 (fun v H' => ∃ G', DRep K G' v ds[i] ∧ Same G G' ∧ SOk K ⟨pinH Hk s0.heap ge.locals no, Hk, none⟩ G' H' (dAt δ0 ix ds (i + 1)) σ3) (O3.pinned E) (hXX O3.S (by
      rw [exv]
      exact fun v H' G' t r => ⟨G', r, t.gg, O3.S.step t⟩)))
    refine wpAny_mono hev (fun v s4 h5 => ?_) fun _ _ z => z.2
    obtain ⟨hz4, vv, H4, I4, rv, G4, dv, g4, S4⟩ := h5
    intro k l' p' hk
    have eit4 : s4.heap.get? it = some oit := (I4.pin (it, oit) (List.mem_append_right _ (mem_pinsAt hit eit3))).1
    have O4 := O3.back I4 S4 hz4
    obtain ⟨m, oL, eL, dL, hm, hv⟩ := on_names E O4
    obtain ⟨hit4, hlt4, hnf4, _⟩ := O4.pro it hit
    have dcell : ∀ v, oit.data ≠ .cell v := fun v z => by rw [dit] at z; cases z
    rw [List.drop_eq_getElem_cons hlt]
    refine ⟨v, l', k, _, p', _, vv, flH G4, [(ge.locals, oL), (it, oit)], rfl, L1.guard, on_item W hpl O4 (flatDs_get hfl ed) rv dv eL dL eit4 dcell hit4 hold C, sleeps_of fun A1 s5 hr1 hf1 W1 C1 => hk A1 _ s5 ?_⟩
    -- woken again
    have O5 := wake_on E O4 hit4 hlt4 hnf4 dcell hm hv hr1 hf1 W1
    rw [dAt_fl h0 hfl (i + 1) hlt] at O5
    show SegQ (model P w) A1 _ _ (.pure (.again _)) _ s5
    refine sq_again rfl ?_
    refine ih (i + 1) (by omega) hlt A1 s5 (flH G4) _ [it] [it] σ3 (flH G4) _ s5 it ly vs l p hr1 hf1 W1 C1 rfl O5 List.mem_cons_self (.inl List.mem_cons_self) ⟨oit, W1.pl (it, oit) (List.mem_cons_of_mem _ List.mem_cons_self), cit, dit⟩ (flH_lst (g4 _ _ hly)) (reps_fl hfl (rp.mono g4))
end
end LG

set_option maxHeartbeats 2000000
/-! Layer D, part Y6: generator defs. -/
namespace LG
open PySem PySem.Spec PyProof.Rows L2 LD
section
variable {P : Program} {w : World} {K : PySem.W.Frag} {mg : Str → Option Value} {base : Heap} {N : List Str} {ge : Env} {outer : List Env} {kk : Nat}
theorem on_fl {A : Around} {s0 s : Shared} {Hk G H : Hp} {no pr : List Addr} {δ : Ev} {σ : L2.St} (O : On P w K mg base N ge A outer s0 Hk no pr δ σ G H s) : On P w K mg base N ge A outer s0 Hk no pr (flE δ) σ G H s := ⟨O.I, sok_fl' O.S, O.pro, O.sub, O.sz⟩
/-- the statement for x in y: yield x -/
theorem sq_yfor {x y : Str} {px py p1 p2 p3 pos : Pos} {ix iy : Nat} {ds rest : List DV} {δ : Ev} {c0 : Code} {fs : List Frame} {K0 : Flow → Sem PySem.Fin} {H0 : Value → Sem PySem.Fin} {gd : Bool → Bool} {lv : List Value → List Value} {A : Around} {s0 s : Shared} {Hk G H : Hp} {pl : List (Addr × Obj)} {no pr : List Addr} {σ : L2.St}
    (E : GEnv N ge) (hl : Lie ge c0 fs) (hgd : gd false = false) (hT : ∀ A s0 Hk, PGD (gX P w K mg base N ge (Around.deeper A ge) outer s0 Hk) (.Name x px) [ix] (gN ix)) (hX : ∀ A s0 Hk, PD (gX P w K mg base N ge (Around.deeper A ge) outer s0 Hk) W0 (.Name x p1) (xVar ix))
    (hY : ∀ A s0 Hk, PD (gX P w K mg base N ge (Around.deeper A ge) outer s0 Hk) W0 (.Name y py) (xVar iy))
    (hend : ∀ A s0 Hk pl no pr σ G H s, Room kk A → A.frames = some outer → Wake P w K mg base ge.locals outer Hk pl s0 → Clo P w Hk → pl.map (·.1) = ge.locals :: no → On P w K mg base N ge A outer s0 Hk no pr (dAt (flE δ) ix ds ds.length) σ G H s →
      SegQ (model P w) A (Phi P w K mg base kk ge.locals outer rest Hk pl s0) c0 (K0 .next) fs s)
    (hix : ix < δ.length) (hiy : δ[iy]? = some (.pu (.lst ds))) (hfl : flatDs ds = true) (hco : ge.scope.isCoroutine = false) (hi : interactive ge = false) (hs : ∀ z, foldedSetIterable (.Name y py) ge z = pure z)
    (hr : Room kk A) (hf : A.frames = some outer) (W : Wake P w K mg base ge.locals outer Hk pl s0) (C : Clo P w Hk) (hpl : pl.map (·.1) = ge.locals :: no) (O : On P w K mg base N ge A outer s0 Hk no pr δ σ G H s) :
    SegQ (model P w) A (Phi P w K mg base kk ge.locals outer (ds ++ rest) Hk pl s0) c0 ((exec (.For (.Name x px) (.Name y py) [.Expr (.Yield (some (.Name x p1)) p2) p3] [] pos) ge).wrap K0 H0 gd lv) fs s := by
  refine sq_For hs ?_
  rw [hl.over]
  have exv : xVar iy δ = .ok (.lst ds) := by unfold xVar; rw [hiy]
  refine wpAny_mono (on_expr E O (hY A s0 Hk) exv) (fun u s1 h1 => ?_) fun _ _ z => z
  obtain ⟨v, G1, H1, rv, rd, g1, O1⟩ := h1
  cases rd with
  | lst e1 rp =>
    rename_i ly vs
    obtain rfl : u = Value.ref ly := rv
    obtain ⟨its, rvl, pL, hz⟩ := O1.I.list (SqL.of (O1.S.gh _ _ e1))
    refine wpAny_pyIter_list pL.isList ?_
    intro l p
    have O2 : On P w K mg base N ge A outer s0 Hk no (s1.heap.objs.size :: pr) (flE δ) σ G1 H1 { s1 with heap := s1.heap.push { cls := .type "list_iterator", data := .fields #[.ref ly, .int 0 0] } } := by
      have O1' := on_fl O1
      refine ⟨O1'.I.kept (t' := s1.toks) fun b o e => Heap.get?_push_of_some _ e, O1'.S, fun b hb => ?_, fun b hb => List.mem_cons_of_mem _ (O1'.sub b hb), ?_⟩
      · rcases List.mem_cons.mp hb with e | hb
        · subst e
          have hlt : ge.locals < s1.heap.objs.size := O1.I.lt
          refine ⟨O1.I.hok.fresh (Nat.le_refl _), hlt, fun z => ?_, _, Heap.get?_push_size _ rfl, fun v z => ?_⟩
          · exact absurd (Nat.lt_trans (W.frf _ z).2 hlt) (Nat.lt_irrefl _)
          · have z' : Data.fields _ = Data.cell v := z
            cases z'
        · obtain ⟨h1, h2, h3, o, h4, h5⟩ := O1'.pro b hb
          exact ⟨h1, h2, h3, o, Heap.get?_push_of_some _ h4, h5⟩
      · show s0.heap.objs.size ≤ (s1.heap.push _).objs.size
        rw [Heap.size_push]
        exact Nat.le_succ_of_le O1.sz
    have hl' : ∀ {f : Flow}, backK ge K0 H0 gd lv (.ok f) = K0 f := fun {f} => rfl
    rw [hgd]
    exact floop (rest := rest) (F := backK ge K0 H0 gd lv) (ds := ds) (δ0 := flE δ) E hfl (flE_idem δ) (by unfold flE; rw [List.length_map]; exact hix) hl hT hX hend hco hi ds.length 0 rfl (Nat.zero_le _) A s0 Hk pl no _ σ G1 H1 _ s1.heap.objs.size ly vs l p hr hf W C hpl O2 List.mem_cons_self (.inr O1.sz) ⟨_, Heap.get?_push_size _ rfl, rfl, rfl⟩ e1 rp

/-- the rounds of while test: (for x in y: yield x; y = ..) -/
inductive Lay (ft : Ev → R Bool) (F3 : Ev → SR) (ix iy : Nat) : Ev → List DV → Prop
  | stop {δ : Ev} : ft δ = .ok false → Lay ft F3 ix iy δ []
  | more {δ δ' : Ev} {ds rest : List DV} : ft δ = .ok true → ix < δ.length → δ[iy]? = some (.pu (.lst ds)) → flatDs ds = true → F3 (dAt (flE δ) ix ds ds.length) = .nx δ' → Lay ft F3 ix iy δ' rest → Lay ft F3 ix iy δ (ds ++ rest)
theorem sq_layers {x y : Str} {px py p1 p2 p3 pos : Pos} {ix iy : Nat} {test : Expr} {st3 : Stmt} {ft : Ev → R Bool} {F3 : Ev → SR} {c0 : Code} {fs : List Frame} {F : Result → Sem PySem.Fin}
    (E : GEnv N ge) (hl : Lie ge c0 fs) (hT : ∀ A s0 Hk, PGD (gX P w K mg base N ge (Around.deeper A ge) outer s0 Hk) (.Name x px) [ix] (gN ix)) (hX : ∀ A s0 Hk, PD (gX P w K mg base N ge (Around.deeper A ge) outer s0 Hk) W0 (.Name x p1) (xVar ix))
    (hY : ∀ A s0 Hk, PD (gX P w K mg base N ge (Around.deeper A ge) outer s0 Hk) W0 (.Name y py) (xVar iy)) (ht : ∀ A s0 Hk, Room kk A → PDT (gX P w K mg base N ge (Around.deeper A ge) outer s0 Hk) W0 test ft) (h3 : ∀ A s0 Hk, Room kk A → PSD (gX P w K mg base N ge (Around.deeper A ge) outer s0 Hk) W0 st3 F3)
    (hend : ∀ A s0 Hk pl no pr δ σ G H s, Room kk A → A.frames = some outer → Wake P w K mg base ge.locals outer Hk pl s0 → Clo P w Hk → pl.map (·.1) = ge.locals :: no → On P w K mg base N ge A outer s0 Hk no pr δ σ G H s →
      SegQ (model P w) A (Phi P w K mg base kk ge.locals outer [] Hk pl s0) c0 (F (.ok .next)) fs s)
    (hco : ge.scope.isCoroutine = false) (hi : interactive ge = false) (hs : ∀ z, foldedSetIterable (.Name y py) ge z = pure z) : ∀ {δ : Ev} {rem : List DV}, Lay ft F3 ix iy δ rem → ∀ A s0 Hk pl no pr σ G H s l p, Room kk A → A.frames = some outer → Wake P w K mg base ge.locals outer Hk pl s0 → Clo P w Hk → pl.map (·.1) = ge.locals :: no →
      On P w K mg base N ge A outer s0 Hk no pr δ σ G H s →
      SegQ (model P w) A (Phi P w K mg base kk ge.locals outer rem Hk pl s0) (.whileLoop test [.For (.Name x px) (.Name y py) [.Expr (.Yield (some (.Name x p1)) p2) p3] [] pos, st3] [] ge) ((model P w).den (.whileLoop test [.For (.Name x px) (.Name y py) [.Expr (.Yield (some (.Name x p1)) p2) p3] [] pos, st3] [] ge)) (.ret F none false l c0 p [] :: fs) s := by
  intro δ rem L
  induction L with
  | stop e =>
    intro A s0 Hk pl no pr σ G H s l p hr hf W C hpl O
    have L1 : Lie ge (.whileLoop test [.For (.Name x px) (.Name y py) [.Expr (.Yield (some (.Name x p1)) p2) p3] [] pos, st3] [] ge) (.ret F none false l c0 p [] :: fs) := hl.loop rfl rfl
    refine sq_whileLoop ?_
    rw [L1.over]
    refine wpAny_mono (on_test E O (ht A s0 Hk hr) e) (fun b s1 h1 => ?_) fun _ _ z => z
    obtain ⟨rfl, G1, H1, _, O1⟩ := h1
    rw [if_neg (by decide)]
    exact sq_leaf (.ok .next) (hend A s0 Hk pl no pr _ σ G1 H1 s1 hr hf W C hpl O1)
  | more e hix hiy hfl e3 L ih =>
    rename_i δ δ' ds rest
    intro A s0 Hk pl no pr σ G H s l p hr hf W C hpl O
    have L1 : Lie ge (.whileLoop test [.For (.Name x px) (.Name y py) [.Expr (.Yield (some (.Name x p1)) p2) p3] [] pos, st3] [] ge) (.ret F none false l c0 p [] :: fs) := hl.loop rfl rfl
    refine sq_whileLoop ?_
    rw [L1.over]
    refine wpAny_mono (on_test E O (ht A s0 Hk hr) e) (fun b s1 h1 => ?_) fun _ _ z => z
    obtain ⟨rfl, G1, H1, _, O1⟩ := h1
    rw [if_pos rfl]
    refine sq_cons (sq_yfor (gd := id) E L1 rfl hT hX hY (fun A2 s2 Hk2 pl2 no2 pr2 σ2 G2 H2 s3 hr2 hf2 W2 C2 hpl2 O2 => ?_) hix hiy hfl hco hi hs hr hf W C hpl O1)
    refine sq_cons (sq_run ?_)
    rw [L1.over]
    refine wpAny_mono (on_stmt E O2 (h3 A2 s2 Hk2 hr2) e3) (fun f s4 h4 => ?_) fun _ _ z => z
    obtain ⟨rfl, σ4, G4, H4, _, O4⟩ := h4
    show SegQ (model P w) A2 _ _ (.pure (.again _)) _ s4
    exact sq_again rfl (ih A2 s2 Hk2 pl2 no2 pr2 σ4 G4 H4 s4 l p hr2 hf2 W2 C2 hpl2 O4)

/-- a generator def with such a body, not yet begun -/
theorem sleeps_layers {x y : Str} {px py p1 p2 p3 pos wpos : Pos} {ix iy : Nat} {test : Expr} {st1 st3 : Stmt} {ft : Ev → R Bool} {F1 F3 : Ev → SR} {Hk : Hp} {oL : Obj} {m : Str → Option Value} {vs : List V} {ds rem : List DV} {δ1 : Ev}
    (E : GEnv N ge) (h1 : ∀ A s0 Hk, Room kk A → PSD (gX P w K mg base N ge (Around.deeper A ge) outer s0 Hk) W0 st1 F1) (hT : ∀ A s0 Hk, PGD (gX P w K mg base N ge (Around.deeper A ge) outer s0 Hk) (.Name x px) [ix] (gN ix)) (hX : ∀ A s0 Hk, PD (gX P w K mg base N ge (Around.deeper A ge) outer s0 Hk) W0 (.Name x p1) (xVar ix))
    (hY : ∀ A s0 Hk, PD (gX P w K mg base N ge (Around.deeper A ge) outer s0 Hk) W0 (.Name y py) (xVar iy)) (ht : ∀ A s0 Hk, Room kk A → PDT (gX P w K mg base N ge (Around.deeper A ge) outer s0 Hk) W0 test ft) (h3 : ∀ A s0 Hk, Room kk A → PSD (gX P w K mg base N ge (Around.deeper A ge) outer s0 Hk) W0 st3 F3)
    (hco : ge.scope.isCoroutine = false) (hi : interactive ge = false) (hs : ∀ z, foldedSetIterable (.Name y py) ge z = pure z)
    (hm : ∀ h : Heap, h.get? ge.locals = some oL → h.Ns ge.locals m) (hle : vs.length ≤ N.length) (hv : ∀ (i : Nat) (x : Str) (v : V), N[i]? = some x → (L2.start N vs)[i]? = some (some v) → Vis ge.scope x → ∃ u, RelV v u ∧ ge.kindOf x = some .local ∧ m x = some u)
    (rp : DReps K Hk vs ds) (e1 : F1 (ds.map Sl.pu ++ List.replicate (N.length - vs.length) Sl.un) = .nx δ1) (L : Lay ft F3 ix iy δ1 rem) :
    Sleeps P w K mg base kk ge.locals outer rem (.fresh (.func [st1, .While test [.For (.Name x px) (.Name y py) [.Expr (.Yield (some (.Name x p1)) p2) p3] [] pos, st3] [] wpos] ge)) Hk [(ge.locals, oL)] := sleeps_of fun A s hr hf W C => by
  have hN : (L2.start N vs).length = N.length := by
    unfold L2.start
    rw [List.length_append, List.length_map, List.length_replicate]; omega
  have O : On P w K mg base N ge A outer s Hk [] [] (ds.map Sl.pu ++ List.replicate (N.length - vs.length) Sl.un) (L2.start N vs) Hk (pinH Hk s.heap ge.locals []) s :=
    ⟨inv_wake E W (Around.frames_deeper hf) hr.hd (hm _ (W.pl _ List.mem_cons_self)) hN hv, sok_args pinH_sub rp rfl, fun b hb => (nomatch hb), fun b hb => (nomatch hb), Nat.le_refl _⟩
  have L1 : Lie ge (.func [st1, .While test [.For (.Name x px) (.Name y py) [.Expr (.Yield (some (.Name x p1)) p2) p3] [] pos, st3] [] wpos] ge) [] := lie_func
  show SegQ (model P w) A _ _ _ [] s
  refine sq_func (sq_cons (sq_run ?_))
  rw [L1.over]
  refine wpAny_mono (on_stmt E O (h1 A s Hk hr) e1) (fun f s1 q1 => ?_) fun _ _ z => z
  obtain ⟨rfl, σ1, G1, H1, _, O1⟩ := q1
  refine sq_cons (sq_While fun p => ?_)
  refine sq_layers (c0 := .func [st1, .While test [.For (.Name x px) (.Name y py) [.Expr (.Yield (some (.Name x p1)) p2) p3] [] pos, st3] [] wpos] ge) (fs := []) E L1 hT hX hY ht h3 (fun A2 s2 Hk2 pl2 no2 pr2 δ2 σ2 G2 H2 s3 hr2 hf2 W2 C2 hpl2 O2 => ?_) hco hi hs L A s Hk [(ge.locals, oL)] [] [] σ1 G1 H1 s1 _ p hr hf W C rfl O1
  show SegQ (model P w) A2 _ _ (leafOf (.ok (.ret .none))) [] s3
  exact sq_end _ ⟨.inl rfl, on_gone W2 hpl2 O2, C2 H2 s3.heap (pinH_sub.trans O2.S.tr.sm) O2.I.hok⟩
end
end LG

set_option maxHeartbeats 2000000
/-! Layer D, part Y7: who walks a generator. -/
namespace LG
open PySem PySem.Spec PyProof.Rows L2 LD

def join (H Hn : Hp) : Hp := fun b => match H b with
  | some o => some o
  | none => Hn b
theorem join_l {H Hn : Hp} {b : Addr} {o : HO} (e : H b = some o) : join H Hn b = some o := by unfold join; rw [e]
theorem join_r {H Hn : Hp} {b : Addr} (e : H b = none) : join H Hn b = Hn b := by unfold join; rw [e]
theorem join_sub {H Hn : Hp} : Same H (join H Hn) := fun b o e => join_l e
theorem join_inv {H Hn : Hp} {b : Addr} {o : HO} (e : join H Hn b = some o) : H b = some o ∨ (H b = none ∧ Hn b = some o) := by
  cases q : H b with
  | some u => rw [join_l q] at e; exact .inl e
  | none => rw [join_r q] at e; exact .inr ⟨rfl, e⟩

/-- a generator as its walker has it -/
structure GenAt (X : Cx) (kk : Nat) (pins : List (Addr × Obj)) (ga g : Nat) (rem : List DV) (gs : GenState) (Hk : Hp) (pl : List (Addr × Obj)) (G H : Hp) (s : Shared) : Prop where
  ex : ∃ L oL, (L, oL) ∈ pl ∧ Sleeps X.prog X.w X.K X.mg X.base kk L X.stack rem gs Hk pl ∧ X.base.objs.size ≤ L ∧ ∀ b ∈ frs X.stack, b < L
  obj : s.heap.IsGen ga g
  gens : s.gens[g]? = some gs
  clo : Clo X.prog X.w Hk
  sub : Same Hk H
  fl : ∀ b o, flH Hk b = some o → G b = some o
  ow : ∀ c b, Hk c = some (.own b) → Hk b ≠ none
  own : ∀ p ∈ pl, s.heap.get? p.1 = some p.2 ∧ ∀ v, p.2.data ≠ .cell v
  fp : ∀ b ∈ ga :: pl.map (·.1), FpOk X pins H b
  gne : ga ∉ pl.map (·.1)

section
variable {X : Cx} {kk : Nat} {pins : List (Addr × Obj)} {ga g : Nat} {rem : List DV} {gs : GenState} {Hk : Hp} {pl : List (Addr × Obj)} {G H : Hp} {s s1 : Shared} {σ : L2.St}
theorem nst_of (I : Inv X pins σ H s) {b : Addr} (f : FpOk X pins H b) : b ∉ frs X.stack := fun z => by
  rcases List.mem_cons.mp (I.stkSub b z) with e | e
  · exact f.2.1 e
  · exact f.2.2.1 e
theorem GenAt.wake (I : Inv X pins σ H s) (A : GenAt X kk pins ga g rem gs Hk pl G H s) {L : Addr} {oL : Obj} (hL : (L, oL) ∈ pl) (hb : X.base.objs.size ≤ L) (hf : ∀ b ∈ frs X.stack, b < L) (hg : AllBare s1.gens) (hh : s1.heap = s.heap) :
    Wake X.prog X.w X.K X.mg X.base L X.stack Hk pl s1 where
  mod := I.mod
  bs := fun b o e => by
    obtain ⟨h1, h2⟩ := I.bs b o e
    exact ⟨by rw [hh]; exact h1, A.sub.none h2⟩
  funs := by rw [hh]; exact I.stack
  frf := fun b z => ⟨A.sub.none (I.stkFree b z), hf b z⟩
  hok := by rw [hh]; exact A.clo H s.heap A.sub I.hok
  bare := hg
  bl := hb
  lt := by rw [hh]; exact Heap.lt_size (A.own _ hL).1
  hL := A.sub.none (A.fp L (List.mem_cons_of_mem _ (List.mem_map.mpr ⟨_, hL, rfl⟩))).1
  pl := fun p hp => by rw [hh]; exact (A.own p hp).1
/-- behind a waking: the walker's invariant, the new objects known -/
theorem after_wake {Hn : Hp} (I : Inv X pins σ H s) (A : GenAt X kk pins ga g rem gs Hk pl G H s) (gone : Gone X.prog X.w X.stack Hk pl s s1) (ok0 : HOk X.prog X.w Hk s1.heap) (okn : HOk X.prog X.w Hn s1.heap) (new : ∀ b o, Hn b = some o → Hk b = some o ∨ (Hk b = none ∧ s.heap.get? b = none)) :
    Inv X pins σ (join H Hn) s1 := by
  have kn : ∀ {b}, H b = none → Hk b = none := fun {b} e => A.sub.none e
  have newH : ∀ {b o ob}, s.heap.get? b = some ob → H b = none → Hn b = some o → False := fun {b o ob} e n q => by
    rcases new b o q with z | ⟨_, z⟩
    · rw [kn n] at z; cases z
    · rw [e] at z; cases z
  have trk : ∀ {b o}, H b = some o → b ∉ pl.map (·.1) ∧ b ∉ frs X.stack := fun {b o} e => by
    refine ⟨fun z => ?_, fun z => ?_⟩
    · have := (A.fp b (List.mem_cons_of_mem _ z)).1
      rw [e] at this; cases this
    · have := I.stkFree b z
      rw [e] at this; cases this
  have hok : HOk X.prog X.w (join H Hn) s1.heap := fun b o e => by
    rcases join_inv e with q | ⟨_, q⟩
    · cases z : Hk b with
      | some u =>
        have e2 := A.sub b u z
        rw [q] at e2; cases e2
        exact (ok0 b o z).stay (fun _ _ _ x => x) (fun c x => join_l (A.sub c _ x)) fun c xs x => join_l (A.sub c _ x)
      | none =>
        refine (I.hok b o q).stay (fun c ob hc x => ?_) (fun c x => join_l x) fun c xs x => join_l x
        have hcn : Hk c = none := by
          rcases hc with rfl | hc
          · exact z
          · cases zc : Hk c with
            | none => rfl
            | some u =>
              have e2 := A.sub c u zc
              rw [hc] at e2; cases e2
              exact absurd z (A.ow c b zc)
        have htr : ∃ oc, H c = some oc := by
          rcases hc with rfl | hc
          · exact ⟨o, q⟩
          · exact ⟨_, hc⟩
        obtain ⟨oc, hoc⟩ := htr
        obtain ⟨t1, t2⟩ := trk hoc
        exact (gone.kept c ob x hcn t1).1 t2
    · refine (okn b o q).stay (fun _ _ _ x => x) (fun c x => ?_) fun c xs x => ?_
      · cases zc : H c with
        | none => rw [join_r zc]; exact x
        | some u =>
          rcases new c _ x with y | ⟨_, y⟩
          · have e2 := A.sub c _ y
            rw [zc] at e2; cases e2
            exact join_l zc
          · obtain ⟨ob, hob⟩ := alive_of (I.hok c u zc)
            rw [hob] at y; cases y
      · cases zc : H c with
        | none => rw [join_r zc]; exact x
        | some u =>
          rcases new c _ x with y | ⟨_, y⟩
          · have e2 := A.sub c _ y
            rw [zc] at e2; cases e2
            exact join_l zc
          · obtain ⟨ob, hob⟩ := alive_of (I.hok c u zc)
            rw [hob] at y; cases y
  refine I.call' (ch := pl.map (·.1)) gone.os ⟨fun b o e n hb hx => ?_, fun b o e n hb hx => ?_, fun b o e n hx => ?_, fun b o e hx => gone.there b o e, fun b xs e => join_l e, fun b o u e => join_l e, fun b ps e => ⟨#[], by rw [join_l e]; simp⟩⟩ hok gone.bare fun b hb => ?_
  · exact (gone.kept b o e (kn n) hx).1 hb
  · exact (gone.kept b o e (kn n) hx).2
  · rw [join_r n]
    cases q : Hn b with
    | none => rfl
    | some u => exact (newH e n q).elim
  · obtain ⟨_, f1, _, f3, f4, f5⟩ := A.fp b (List.mem_cons_of_mem _ hb)
    exact ⟨f3, f1, f4, f5⟩
theorem tr_join {Hn : Hp} (gh : Same G H) (I : Inv X pins σ H s) (A : GenAt X kk pins ga g rem gs Hk pl G H s) (new : ∀ b o, Hn b = some o → Hk b = some o ∨ (Hk b = none ∧ s.heap.get? b = none)) (flat : ∀ b o, Hn b = some o → (∃ xs, o = .lst xs) ∨ ∃ xs, o = .tup xs) :
    Tr G H (join G Hn) (join H Hn) ∧ Same Hn (join G Hn) := by
  have old : ∀ {b o}, Hn b = some o → G b = some o ∨ (H b = none ∧ G b = none) := fun {b o} e => by
    rcases new b o e with y | ⟨_, y⟩
    · left
      refine A.fl b o ?_
      rcases flat b o e with ⟨xs, rfl⟩ | ⟨xs, rfl⟩
      · exact flH_lst y
      · exact flH_tup y
    · right
      have hn : H b = none := by
        cases q : H b with
        | none => rfl
        | some u => obtain ⟨ob, hob⟩ := alive_of (I.hok b u q); rw [hob] at y; cases y
      exact ⟨hn, gh.none hn⟩
  refine ⟨⟨join_sub, join_sub, fun b o e => ?_, fun b hb => ?_⟩, fun b o e => ?_⟩
  · rcases join_inv e with q | ⟨q1, q2⟩
    · exact join_l (gh b o q)
    · rcases old q2 with z | ⟨z, _⟩
      · rw [q1] at z; cases z
      · rw [join_r z]; exact q2
  · cases q : G b with
    | some u => exact join_l q
    | none =>
      rw [join_r q]
      cases z : Hn b with
      | none => rfl
      | some u =>
        rcases old z with y | ⟨y, _⟩
        · rw [q] at y; cases y
        · exact absurd y hb
  · rcases old e with z | ⟨_, z⟩
    · exact join_l z
    · rw [join_r z]; exact e

/-- THE RULE: the next of a generator -/
theorem gen_next {E : Value → Shared → Prop} (hc : X.calm = true) (hr : Room (kk + 1) X.A) (gh : Same G H) (I : Inv X pins σ H s) (A : GenAt X kk pins ga g rem gs Hk pl G H s) :
    wpAny (model X.prog X.w) X.A (pyNext (.ref ga)) (fun r s1 => match rem with
      | [] => r = none ∧ Inv X pins σ H s1
      | d :: rest => ∃ v x G1 H1 gs' Hk' pl', r = some v ∧ RelV x v ∧ DRep X.K G1 x d ∧ Tr G H G1 H1 ∧ Inv X pins σ H1 s1 ∧ GenAt X kk pins ga g rest gs' Hk' pl' G1 H1 s1 ∧ (∀ b o, Hk' b = some o → flH Hk' b = some o) ∧ asleep gs' = true) E s := by
  obtain ⟨L, oL, hL, S, hb, hf⟩ := A.ex
  have bare1 : AllBare (s.setGen g .running).gens := allBare_setGen I.bare rfl
  have W := A.wake I hL hb hf (s1 := s.setGen g .running) bare1 rfl
  have go := of_sleeps S X.A.in1 (s.setGen g .running) hr.in1 I.ok.frames W A.clo
  have hga := A.fp ga List.mem_cons_self
  have nga := nst_of I hga
  have gsz : g < s.gens.size := (Array.getElem?_eq_some_iff.mp A.gens).1
  have objK : ∀ {s1 : Shared}, Gone X.prog X.w X.stack Hk pl (s.setGen g .running) s1 → s1.heap.IsGen ga g := fun {s1} gone => by
    obtain ⟨o, nm, qn, ho, r⟩ := A.obj
    exact ⟨o, nm, qn, (gone.kept ga o ho (A.sub.none hga.1) A.gne).1 nga, r⟩
  have back : ∀ {s1 : Shared} {x : GenState}, Gone X.prog X.w X.stack Hk pl (s.setGen g .running) s1 → x.bare = true → Gone X.prog X.w X.stack Hk pl s (s1.setGen g x) := fun {s1 x} gone hx => ⟨gone.os, allBare_setGen gone.bare hx, gone.kept, gone.sz, gone.there⟩
  cases rem with
  | nil =>
    refine next_S (Φ := Phi X.prog X.w X.K X.mg X.base kk L X.stack [] Hk pl (s.setGen g .running)) (I.ok.hd hc) I.nolimit hr.depth A.obj A.gens go (fun e s1 he => ?_) (fun e s1 hz he _ h' hk => ?_) fun v l k c p fs s1 hz he hq => ?_
    · rcases he.1 with z | z
      · exact .inl z
      · exact .inr (.inl z)
    · obtain ⟨_, gone, ok⟩ := he
      have I1 := after_wake (Hn := fun _ => none) I A (back gone (x := .finished) rfl) ok (fun b o e => by cases e) (fun b o e => by cases e)
      have ej : join H (fun _ => none) = H := by
        funext b
        cases q : H b with
        | none => rw [join_r q]
        | some o => rw [join_l q]
      rw [ej] at I1
      exact ⟨rfl, I1.kept (t' := s1.toks) hk⟩
    · rcases he.1 with z | z <;> cases z
  | cons d rest =>
    refine next_S (Φ := Phi X.prog X.w X.K X.mg X.base kk L X.stack (d :: rest) Hk pl (s.setGen g .running)) (I.ok.hd hc) I.nolimit hr.depth A.obj A.gens go (fun e s1 he => ?_) (fun e s1 hz he hq h' hk => ?_) fun v l k c p fs s1 hz he hq => ?_
    · obtain ⟨v, l, k, c, p, fs, vv, H', pl', e1, e2, _⟩ := he
      exact .inr (.inr ⟨v, l, k, c, p, fs, e1, e2⟩)
    · obtain ⟨v, l, k, c, p, fs, vv, H', pl', e1, e2, _⟩ := he
      rcases hq with z | z <;> rw [z] at e1 <;> cases e1
    · obtain ⟨v', l', k', c', p', fs', vv, H', pl', e1, e2, it, S'⟩ := he
      cases e1
      have new' : ∀ b o, H' b = some o → Hk b = some o ∨ (Hk b = none ∧ s.heap.get? b = none) := it.new
      have I1 := after_wake (Hn := H') (s1 := s1.setGen g (.suspended k l c p fs false)) I A (back it.gone rfl) it.hok0 it.hok new'
      obtain ⟨tr, sn⟩ := tr_join gh I A new' it.flat
      have fl' : ∀ b o, H' b = some o → flH H' b = some o := fun b o e => by
        rcases it.flat b o e with ⟨xs, rfl⟩ | ⟨xs, rfl⟩
        · exact flH_lst e
        · exact flH_tup e
      obtain ⟨oL', hL'⟩ := it.here
      have ownN : ∀ p ∈ pl', join H H' p.1 = none ∧ FpOk X pins (join H H') p.1 := fun p hp => by
        obtain ⟨o1, o2, o3, o4⟩ := it.own p hp
        rcases o3 with o3 | o3
        · obtain ⟨f0, f⟩ := A.fp p.1 (List.mem_cons_of_mem _ o3)
          have n : join H H' p.1 = none := by rw [join_r f0]; exact o2
          exact ⟨n, n, f⟩
        · have o3' : s.heap.objs.size ≤ p.1 := o3
          have f0 := I.hok.fresh o3'
          have n : join H H' p.1 = none := by rw [join_r f0]; exact o2
          exact ⟨n, I.fpOk o3' n⟩
      have gaN : join H H' ga = none := by
        rw [join_r hga.1]
        cases q : H' ga with
        | none => rfl
        | some u =>
          obtain ⟨o, nm, qn, ho, _⟩ := A.obj
          rcases it.new ga u q with z | ⟨_, z⟩
          · rw [A.sub.none hga.1] at z; cases z
          · have z' : s.heap.get? ga = none := z
            rw [ho] at z'; cases z'
      refine ⟨v, vv, join G H', join H H', .suspended k l c p fs false, H', pl', rfl, it.rel, it.rep.mono sn, tr, I1, ⟨⟨L, oL', hL', S', hb, hf⟩, (objK (s1 := s1) it.gone : s1.heap.IsGen ga g), setGen_at (by have hz' : s.gens.size ≤ s1.gens.size := hz; omega), it.clo, sn.trans tr.gh, fun b o e => sn b o (flH_sub b o e), fun c' b e => ?_,
        fun p hp => ⟨(it.own p hp).1, (it.own p hp).2.2.2⟩, fun b hb' => ?_, fun z => ?_⟩, fl', rfl⟩
      · rcases it.flat c' _ e with ⟨xs, z⟩ | ⟨xs, z⟩ <;> cases z
      · rcases List.mem_cons.mp hb' with e | hb'
        · rw [e]; exact ⟨gaN, hga.2⟩
        · obtain ⟨p, hp, rfl⟩ := List.mem_map.mp hb'
          exact (ownN p hp).2
      · obtain ⟨p, hp, e⟩ := List.mem_map.mp z
        obtain ⟨o1, o2, o3, o4⟩ := it.own p hp
        have e' : p.1 = ga := e
        rw [e'] at o3
        rcases o3 with o3 | o3
        · exact A.gne o3
        · obtain ⟨o, nm, qn, ho, _⟩ := A.obj
          have h1 : ga < s.heap.objs.size := Heap.lt_size ho
          have h2 : s.heap.objs.size ≤ ga := o3
          omega
end
end LG

set_option maxHeartbeats 2000000
/-! Layer D, part Y8: for and comprehensions over a generator. -/
namespace LG
open PySem PySem.Spec PyProof.Rows L2 LD

/-- what is wanted of an exception does not hang on sleepers -/
def XeT (X : Cx) : Prop := ∀ (e : Value) (z : Shared) (G : Array GenState) (D : Nat → Option GenState), X.xe e z → Rl D G z.gens → X.xe e { z with gens := G }
theorem cx_gens {P : Program} {w : World} {outer : List Env} {H : Hp} {s z : Shared} {E : XK} {u : Value} {G : Array GenState} (h : L2.CX P w outer H s E u z) (hb : AllBare z.gens → AllBare G) : L2.CX P w outer H s E u { z with gens := G } := by
  obtain ⟨a, B, H', cls, d, h1, h2, h3, h4, h5, h6, h7, h8⟩ := h
  exact ⟨a, B, H', cls, d, h1, h2, h3, h4, h5, h6, hb h7, h8⟩
/-- in a def -/
theorem xeT_def {P : Program} {w : World} {K : PySem.W.Frag} {mg : Str → Option Value} {base : Heap} {N : List Str} {qual : Str} {scope : Scope} {f : Addr} {cd : Value} {A : Around} {outer : List Env} {s : Shared} {H : Hp} {E : XK} : XeT (cxOf (L2.CX P w) P w K mg base N qual scope f cd A outer s H E) := fun e z G D h r => by
  have h' : wpAny (model P w) (A.deeper (envOfC qual scope s.heap.objs.size f cd)) (leaving (envOfC qual scope s.heap.objs.size f cd) e) (fun _ s'' => L2.CX P w outer H s E e s'') (fun e' s'' => L2.CX P w outer H s E e' s'') z := h
  show wpAny (model P w) (A.deeper (envOfC qual scope s.heap.objs.size f cd)) (leaving (envOfC qual scope s.heap.objs.size f cd) e) (fun _ s'' => L2.CX P w outer H s E e s'') (fun e' s'' => L2.CX P w outer H s E e' s'') { z with gens := G }
  intro Γ p hΓ
  refine Sem.wp_mono _ Γ _ (fun a p' s' q => ?_) (fun x p' s' q => ?_) p _ (wp_alive _ (h' Γ p hΓ) r)
  · obtain ⟨z', hz, G', r', rfl⟩ := q
    exact cx_gens hz r'.bare
  · obtain ⟨z', hz, G', r', rfl⟩ := q
    exact cx_gens hz r'.bare
section
variable {X : Cx} {pins : List (Addr × Obj)} {H : Hp} {s : Shared} {σ : L2.St}
theorem inv_gens {G : Array GenState} (I : Inv X pins σ H s) (hb : AllBare G) : Inv X pins σ H { s with gens := G } := ⟨I.ok, I.os, hb, I.base, I.loc, I.cell, I.free, I.freeC, I.pin, I.hok, I.len⟩
/-- code that is right whatever sleeps, run while g sleeps -/
theorem run_asleep {α : Type} {A : Around} {M : Model} {t : Sem α} {Q : α → Shared → Prop} {E : Value → Shared → Prop} {g : Nat} {gs : GenState} (hg : s.gens[g]? = some gs) (ha : asleep gs = true) (h : wpAny M A t Q E { s with gens := s.gens.map kill }) :
    wpAny M A t (fun a s' => ∃ z G D, Q a z ∧ Rl D G z.gens ∧ s' = { z with gens := G } ∧ s'.gens[g]? = some gs) (fun e s' => ∃ z G D, E e z ∧ Rl D G z.gens ∧ s' = { z with gens := G }) s :=
  wpAny_mono (wpAny_asleep h) (fun a s' ⟨z, hz, ⟨G', e, ⟨D, r⟩, k⟩⟩ => ⟨z, G', D, hz, r, e, by rw [e]; exact k g gs hg ha⟩) fun e s' ⟨z, hz, ⟨G', e', ⟨D, r⟩, _⟩⟩ => ⟨z, G', D, hz, r, e'⟩
end
section
variable {X : Cx} {kk : Nat} {pins : List (Addr × Obj)} {ga g : Nat} {rem : List DV} {gs : GenState} {Hk : Hp} {pl : List (Addr × Obj)} {G H G' H' : Hp} {s s1 : Shared} {σ : L2.St}
theorem GenAt.there (A : GenAt X kk pins ga g rem gs Hk pl G H s) : ∀ b ∈ ga :: pl.map (·.1), ∃ o, s.heap.get? b = some o ∧ ∀ v, o.data ≠ .cell v := fun b hb => by
  rcases List.mem_cons.mp hb with e | hb
  · obtain ⟨o, nm, qn, ho, _, hd, _⟩ := A.obj
    exact ⟨o, by rw [e]; exact ho, fun v z => by rw [hd] at z; cases z⟩
  · obtain ⟨p, hp, rfl⟩ := List.mem_map.mp hb
    exact ⟨p.2, (A.own p hp).1, (A.own p hp).2⟩
theorem GenAt.restore (A : GenAt X kk pins ga g rem gs Hk pl G H s) (flat : ∀ b o, Hk b = some o → flH Hk b = some o) (gG : Same G G') (gh : Same G' H') (obj : ∀ b ∈ ga :: pl.map (·.1), ∀ o, s.heap.get? b = some o → s1.heap.get? b = some o ∧ H' b = none) (hg : s1.gens[g]? = some gs) :
    GenAt X kk pins ga g rem gs Hk pl G' H' s1 where
  ex := A.ex
  obj := by
    obtain ⟨o, nm, qn, ho, r⟩ := A.obj
    exact ⟨o, nm, qn, (obj ga List.mem_cons_self o ho).1, r⟩
  gens := hg
  clo := A.clo
  sub := fun b o e => gh b o (gG b o (A.fl b o (flat b o e)))
  fl := fun b o e => gG b o (A.fl b o e)
  ow := A.ow
  own := fun p hp => ⟨(obj p.1 (List.mem_cons_of_mem _ (List.mem_map.mpr ⟨p, hp, rfl⟩)) p.2 (A.own p hp).1).1, (A.own p hp).2⟩
  fp := fun b hb => by
    obtain ⟨_, f⟩ := A.fp b hb
    obtain ⟨o, ho, _⟩ := A.there b hb
    exact ⟨(obj b hb o ho).2, f⟩
  gne := A.gne
theorem GenAt.pinned (I : Inv X pins σ H s) (A : GenAt X kk pins ga g rem gs Hk pl G H s) : Inv X (pins ++ pinsAt (ga :: pl.map (·.1)) s.heap) σ H s := Inv.pinned I A.fp A.there
theorem GenAt.go_of {E : Value → Shared → Prop} {M : Model} {Ar : Around} {tg : Expr} {u : Value} {Q : Unit → Shared → Prop} (A : GenAt X kk pins ga g rem gs Hk pl G H s) (hQ : Q () s) : wpAny M Ar (letOwnedTupleGo tg (.ref ga) u) Q E s := by
  obtain ⟨o, nm, qn, ho, hc, hd, _⟩ := A.obj
  exact L2.go_of ho hc hd (by decide) hQ
end

/-- what gives a generator -/
structure SrcG (kk : Nat) (X : Cx) (e : Expr) (f : Ev → R (List DV)) : Prop where
  run : ∀ (pins : List (Addr × Obj)) (s : Shared) (σ : L2.St) (B : Bas) (G H : Hp) (δ : Ev) (rem : List DV), Inv X pins σ H s → SOk X.K B G H δ σ → f δ = .ok rem →
    wpAny (model X.prog X.w) X.A (eval e X.env) (fun u s1 => ∃ ga g gs Hk pl G1 H1, u = .ref ga ∧ Inv X pins σ H1 s1 ∧ Tr G H G1 H1 ∧ GenAt X kk pins ga g rem gs Hk pl G1 H1 s1) X.xe s

section
variable {X : Cx} {W : WX} {kk : Nat} {tg iter elt : Expr} {ix : List Nat} {fi : Ev → R (List DV)} {g : DV → Ev → R Ev} {sts ifs : List Stmt} {F : Ev → SR} {pos : Pos}
/-- for .. in a generator -/
theorem ds_forG (hp : PassesOwn (model X.prog X.w) X.A X.env X.xe) (hxe : XeT X) (hc : X.calm = true) (hr : Room (kk + 1) X.A) (I : SrcG kk X iter fi) (T : PGD X tg ix g) (B : PSSD X W sts F) (hs : ∀ x, foldedSetIterable iter X.env x = pure x := by intro _; rfl) :
    PSD X W (.For tg iter sts [] pos) (sFor (fun δ => noX (fi δ)) g F) := by
  obtain ⟨tg', pg, hg⟩ := T.ex
  obtain ⟨tb, pb, hb⟩ := B.ex
  refine ⟨cS X.K W (sFor (fun δ => noX (fi δ)) g F), ⟨fun pins s σ H D Iv ⟨B0, G, δ, S, h⟩ => ?_⟩, fun {B G H δ σ D} S h => ⟨B, G, δ, S, h⟩⟩
  have h : SRq X.K W D B0 G (xS (noX (fi δ)) δ fun ds => forD g F ds δ) := h
  cases e : fi δ with
  | exc _ _ => rw [e] at h; exact h.elim
  | bad => rw [e] at h; exact h.elim
  | ok ds =>
    rw [e] at h
    have h : SRq X.K W D B0 G (forD g F ds δ) := h
    refine wpAny_For (thn (I.run pins s σ B0 G H δ ds Iv S e) fun v s1 h1 => ?_) hs
    obtain ⟨ga, gn, gs, Hk, pl, G1, H1, rfl, I1, t1, A1⟩ := h1
    refine wpAny_pyIter_gen A1.obj ?_
    have S1 := S.step t1
    refine codeAny_forLoop_any (fun n s' => ∃ rem gs Hk pl σ' δ' G' H', n = rem.length ∧ Inv X pins σ' H' s' ∧ SOk X.K B0 G' H' δ' σ' ∧ GenAt X kk pins ga gn rem gs Hk pl G' H' s' ∧ SRq X.K W D B0 G' (forD g F rem δ')) ?_ ds.length ⟨ds, gs, Hk, pl, σ, δ, G1, H1, rfl, I1, S1, A1, h.gg t1.gg⟩
    rintro n s3 ⟨rem, gs, Hk, pl, σ3, δ3, G3, H3, rfl, I3, S3, A3, q3⟩
    refine wpAny_passesOwn hp (thn (gen_next hc hr S3.gh I3 A3) fun r s4 h4 => ?_)
    cases rem with
    | nil =>
      obtain ⟨rfl, I4⟩ := h4
      exact wpAny_execs_nil ⟨σ3, H3, I4, q3 σ3 H3 G3 (Same.refl _) S3⟩
    | cons d rest =>
      obtain ⟨v, x, G4, H4, gs4, Hk4, pl4, rfl, rx, dx, t4, I4, A4, fl4, as4⟩ := h4
      refine A4.go_of ?_
      have S4 := S3.step t4
      have q4 := q3.gg t4.gg
      unfold forD at q4
      cases eg : g d δ3 with
      | exc _ _ => rw [eg] at q4; exact q4.elim
      | bad => rw [eg] at q4; exact q4.elim
      | ok δ4 =>
        rw [eg] at q4
        dsimp only at q4
        have I4k := inv_gens (A4.pinned I4) (bare_kill I4.bare)
        have ra := run_asleep A4.gens as4 (pg.run _ _ σ3 H4 x v (fun σ' H' => H' = H4 ∧ SOk X.K B0 G4 H4 δ4 σ') I4k rx (hg S4 dx eg fun σ' S' _ => ⟨rfl, S'⟩))
        refine wpAny_passesOwn hp (wpAny_mono ra (fun _ s5 h5 => ?_) fun ex s5 ⟨z, Gz, D', hz, r, es⟩ => by rw [es]; exact hxe ex z Gz D' hz r)
        obtain ⟨z5, Gz5, D5, ⟨σ5, H5, I5z, rfl, S5⟩, r5, rfl, gk5⟩ := h5
        have I5 : Inv X (pins ++ pinsAt (ga :: pl4.map (·.1)) s4.heap) σ5 H5 { z5 with gens := Gz5 } := inv_gens I5z (r5.bare I5z.bare)
        have I5k := inv_gens I5 (bare_kill I5.bare)
        have rb := run_asleep (s := { z5 with gens := Gz5 }) gk5 as4 (pb.run _ _ σ5 H5 ⟨fun σ2 H2 => ∃ δ2 G2, Same G4 G2 ∧ SOk X.K B0 G2 H2 δ2 σ2 ∧ SRq X.K W D B0 G2 (forD g F rest δ2), fun v H2 => D.rt v H2, fun σ2 H2 => D.nx σ2 H2, fun σ2 H2 => ∃ δ2 G2, Same G4 G2 ∧ SOk X.K B0 G2 H2 δ2 σ2 ∧ SRq X.K W D B0 G2 (forD g F rest δ2)⟩ I5k (hb S5 (by
          cases eF : F δ4 with
          | nx δ2 => rw [eF] at q4; exact fun σ2 H2 G2 g2 S2 => ⟨δ2, G2, g2, S2, q4.gg g2⟩
          | ct δ2 => rw [eF] at q4; exact fun σ2 H2 G2 g2 S2 => ⟨δ2, G2, g2, S2, q4.gg g2⟩
          | bk δ2 => rw [eF] at q4; exact q4
          | rt d => rw [eF] at q4; exact q4
          | ex c fs δ2 => rw [eF] at q4; exact q4
          | bad => rw [eF] at q4; exact q4)))
        refine wpAny_passesOwn hp (wpAny_mono rb (fun f s6 h6 => ?_) fun ex s6 ⟨z, Gz, D', hz, r, es⟩ => by rw [es]; exact hxe ex z Gz D' hz r)
        obtain ⟨z6, Gz6, D6, q6, r6, rfl, gk6⟩ := h6
        have fin : ∀ {σ7 : L2.St} {H7 : Hp}, Inv X (pins ++ pinsAt (ga :: pl4.map (·.1)) s4.heap) σ7 H7 z6 → (∃ δ2 G2, Same G4 G2 ∧ SOk X.K B0 G2 H7 δ2 σ7 ∧ SRq X.K W D B0 G2 (forD g F rest δ2)) →
            ∃ m, m < (d :: rest).length ∧ ∃ rem gs Hk pl σ' δ' G' H', m = rem.length ∧ Inv X pins σ' H' { z6 with gens := Gz6 } ∧ SOk X.K B0 G' H' δ' σ' ∧ GenAt X kk pins ga gn rem gs Hk pl G' H' { z6 with gens := Gz6 } ∧ SRq X.K W D B0 G' (forD g F rem δ') := fun {σ7 H7} I7z ⟨δ2, G2, g2, S2, q2⟩ => by
          have I7 := inv_gens I7z (r6.bare I7z.bare)
          refine ⟨rest.length, Nat.lt_succ_self _, rest, gs4, Hk4, pl4, σ7, δ2, G2, H7, rfl, I7.unpinned, S2, A4.restore fl4 g2 S2.gh (fun b hb o e => ?_) gk6, q2⟩
          obtain ⟨e1, e2, _⟩ := I7.pin (b, o) (List.mem_append_right _ (List.mem_append_right _ (mem_pinsAt hb e)))
          exact ⟨e1, e2⟩
        cases f with
        | next => obtain ⟨σ7, H7, I7, n7⟩ := q6; exact fin I7 n7
        | cont => obtain ⟨σ7, H7, I7, n7⟩ := q6; exact fin I7 n7
        | brk => obtain ⟨σ7, H7, I7, q7⟩ := q6; exact ⟨σ7, H7, (inv_gens I7 (r6.bare I7.bare)).unpinned, q7⟩
        | ret v => obtain ⟨x7, σ7, H7, I7, r7, q7⟩ := q6; exact ⟨x7, σ7, H7, (inv_gens I7 (r6.bare I7.bare)).unpinned, r7, q7⟩
end
end LG

set_option maxHeartbeats 2000000
/-! Layer D, part Y9: comprehensions over a generator. -/
namespace LG
open PySem PySem.Spec PyProof.Rows L2 LD
theorem lcD_noexc {g : DV → Ev → R Ev} {ft : Ev → R Bool} {fe : Ev → R DV} {δ : Ev} : ∀ {ds : List DV} {c : Str} {fs : List (Str × DV)}, lcD g ft fe δ ds ≠ .exc c fs
  | [], _, _, z => by cases z
  | d :: ds, c, fs, z => by
    unfold lcD at z
    cases eg : g d δ with
    | ok δ' =>
      rw [eg] at z
      dsimp only at z
      cases et : ft δ' with
      | ok b =>
        rw [et] at z
        cases b with
        | true =>
          cases ee : fe δ' with
          | ok y =>
            rw [ee] at z
            cases er : lcD g ft fe δ ds with
            | ok ys => rw [er] at z; cases z
            | exc c' fs' => exact lcD_noexc er
            | bad => rw [er] at z; cases z
          | exc _ _ => rw [ee] at z; cases z
          | bad => rw [ee] at z; cases z
        | false => exact lcD_noexc z
      | exc _ _ => rw [et] at z; cases z
      | bad => rw [et] at z; cases z
    | exc _ _ => rw [eg] at z; cases z
    | bad => rw [eg] at z; cases z
section
variable {X : Cx} {W : WX} {kk : Nat} {elt tg iter : Expr} {ifs : List Expr} {scope : Scope} {own : List (Str × Nat)} {pos pos' : Pos} {ix : List Nat} {fi : Ev → R (List DV)} {g : DV → Ev → R Ev} {ft : Ev → R Bool} {fe : Ev → R DV} {pins : List (Addr × Obj)} {s : Shared} {σ : L2.St} {H : Hp} {Q : VK} {use : Option (Value → Sem Unit)} {Qf : Value → Shared → Prop} {B : Bas} {G : Hp} {δ : Ev}
theorem lcG_core (hc : X.calm = true) (hN : X.N.Nodup) (hr : Room (kk + 1) X.A) (I : Inv X pins σ H s) (S : SOk X.K B G H δ σ) (hi : SrcG kk X iter fi) (ok : BlkOk X.N X.env.scope scope own) (hix : ∀ i ∈ ix, i ∈ own.map (·.2))
    (hg : ∀ (s : Shared) (H : Hp) (C : Addr) (cl : List (Str × Addr)) (fp : List Addr), PGD (X.blk s H scope (compEnvC scope cl C X.env) fp) tg ix g) (ht : ∀ (s : Shared) (H : Hp) (C : Addr) (cl : List (Str × Addr)) (fp : List Addr), PDTs (X.blk s H scope (compEnvC scope cl C X.env) fp) W0 ifs ft)
    (he : ∀ (s : Shared) (H : Hp) (C : Addr) (cl : List (Str × Addr)) (fp : List Addr), PD (X.blk s H scope (compEnvC scope cl C X.env) fp) W0 elt fe) (hs : ∀ x, foldedSetIterable iter X.env x = pure x)
    (h : LRq X.K (fun c d H' => W c d σ H') G H (xLcs (own.map (·.2)) (fun δ => noX (fi δ)) g ft fe δ) Q)
    (hRR : ∀ D C s' m H', Inv X pins σ H' s' → Q (.ref D) H' → s'.heap.Ns C m → FpOk X pins H' C → compPost (model X.prog X.w) X.A X.xe use Qf (.ref D) C (.ok .next) s') :
    wpAny (model X.prog X.w) X.A (comprehension (.ListComp elt [⟨tg, iter, ifs, 0⟩] scope pos) scope X.env pos' (newList []) false (eval iter X.env) use) Qf X.xe s := by
  have hfree : ∀ y ∈ scope.names, y.2 = .free → ∃ c, X.env.cells.lookup y.1 = some c := fun y hy e => (ok.free y hy e).elim (fun k => I.ok.has _ (.inl k)) fun k => I.ok.has _ (.inr k)
  unfold xLcs at h
  cases e : fi δ with
  | exc _ _ => simp only [e] at h; exact h.elim
  | bad => simp only [e] at h; exact h.elim
  | ok ds =>
    simp only [e] at h
    have h : LRq X.K (fun c d H' => W c d σ H') G H ((lcD g ft fe (wipeD δ (own.map (·.2))) ds).bind fun ys => if small ys.length = true then .ok ys else .bad) Q := h
    cases ed : lcD g ft fe (wipeD δ (own.map (·.2))) ds with
    | exc c fs => exact absurd ed lcD_noexc
    | bad => rw [ed] at h; exact h.elim
    | ok ys =>
      rw [ed] at h
      obtain ⟨hz, h⟩ := rq_ifL h
      have ltot : ys.length ≤ sizeLine := small_le hz
      refine wpAny_comprehension_free (use := use) rfl hs (closure_ok hfree) ok.kind (fun y hy e => by rw [ok.uniq y hy, e]) (thn (hi.run pins s σ B G H δ ds I S e) fun xv s2 hx => ?_)
      obtain ⟨ga, gn, gs, Hk, pl, G2, H2, rfl, I2, t2, A2⟩ := hx
      refine wpAny_pyIter_gen A2.obj ?_
      have S2 := S.step t2
      have h := LRq.tr t2 h
      refine wpAny_newObj_type (newEnv_comp ?_) (by show 0 ≤ sizeLine; decide)
      generalize hD : s2.heap.objs.size = D
      have hDn : H2 D = none := I2.hok.fresh (Nat.le_of_eq hD)
      have hgD : G2 D = none := S2.gh.none hDn
      have hbD : B.H0 D = none := S2.tr.sm.none hDn
      generalize hs3 : ({ s2 with heap := s2.heap.push { cls := .type "list", data := .seq ([] : List Value).toArray } } : Shared) = s3
      have k3 : ∀ b o, s2.heap.get? b = some o → s3.heap.get? b = some o := fun b o e => by rw [← hs3]; exact Heap.get?_push_of_some _ e
      have I3 : Inv X pins σ (upd H2 D (.lst [])) s3 := by
        rw [← hs3]
        refine I2.laid (t' := s2.toks) (fun b o e => Heap.get?_push_of_some _ e) (Nat.le_of_eq hD) ⟨Nat.zero_le _, [], 0, .nil, ?_⟩
        rw [← hD]; exact Heap.get?_push_size _ rfl
      have z3 : s3.heap.objs.size = s2.heap.objs.size + 1 := by rw [← hs3]; exact Heap.size_push ..
      have lt2 : ∀ b ∈ ga :: pl.map (·.1), b < s2.heap.objs.size := fun b hb => let ⟨o, ho, _⟩ := A2.there b hb; Heap.lt_size ho
      have f3 : ∀ b ∈ ga :: pl.map (·.1), FpOk X pins (upd H2 D (.lst [])) b ∧ b < s3.heap.objs.size := fun b hb => by
        have hlt := lt2 b hb
        refine ⟨⟨?_, (A2.fp b hb).2⟩, by rw [z3]; exact Nat.lt_succ_of_lt hlt⟩
        rw [upd_ne (by rw [← hD]; exact Nat.ne_of_lt hlt)]
        exact (A2.fp b hb).1
      have I4 := block_start I3 ok hN f3
      have Pg := hg s3 (upd H2 D (.lst [])) s3.heap.objs.size (cellsFrom (s3.heap.objs.size + 1) scope.names (cloFrom X.env.cells scope.names [])) (ga :: pl.map (·.1))
      have Pt := ht s3 (upd H2 D (.lst [])) s3.heap.objs.size (cellsFrom (s3.heap.objs.size + 1) scope.names (cloFrom X.env.cells scope.names [])) (ga :: pl.map (·.1))
      have Pe := he s3 (upd H2 D (.lst [])) s3.heap.objs.size (cellsFrom (s3.heap.objs.size + 1) scope.names (cloFrom X.env.cells scope.names [])) (ga :: pl.map (·.1))
      show codeAny _ _ (.compStart (.ListComp elt [⟨tg, iter, ifs, 0⟩] scope pos) 0 (.ref ga) (.ref D) (compEnvC scope (cellsFrom (s3.heap.objs.size + 1) scope.names (cloFrom X.env.cells scope.names [])) s3.heap.objs.size X.env)) (compPost (model X.prog X.w) X.A X.xe use Qf (.ref D) s3.heap.objs.size) { s3 with heap := pushCells (s3.heap.push { cls := .type "dict", data := .dict #[] }) scope.names }
      generalize hce : compEnvC scope (cellsFrom (s3.heap.objs.size + 1) scope.names (cloFrom X.env.cells scope.names [])) s3.heap.objs.size X.env = ce at I4 Pg Pt Pe ⊢
      have cL : ce.locals = s3.heap.objs.size := by subst hce; rfl
      generalize hH3 : upd H2 D (.lst []) = H3 at I3 I4 Pg Pt Pe f3
      generalize hs4 : ({ s3 with heap := pushCells (s3.heap.push { cls := .type "dict", data := .dict #[] }) scope.names } : Shared) = s4 at I4 ⊢
      have k4 : ∀ b o, s2.heap.get? b = some o → s4.heap.get? b = some o := fun b o e => by rw [← hs4]; exact pushCells_keeps _ _ _ _ (Heap.get?_push_of_some _ (k3 b o e))
      have g4 : s4.gens = s2.gens := by rw [← hs4, ← hs3]
      have fpB : ∀ {σ' : L2.St} {H' : Hp} {s' : Shared}, Inv (X.blk s3 H3 scope ce (ga :: pl.map (·.1))) [] σ' H' s' → ∀ b ∈ ga :: pl.map (·.1), H' b = none → FpOk (X.blk s3 H3 scope ce (ga :: pl.map (·.1))) [] H' b := fun {σ' H' s'} I' b hb hn =>
        ⟨hn, (I'.ok.exf b hb).1, I'.ok.exfs b hb, .inl hb, fun x c e => (I'.ok.exf b hb).2 x c e, fun p hp => absurd (show p ∈ ([] : List (Addr × Obj)) ++ [] from hp) (by simp)⟩
      have Sw := (S2.wipe (own.map (·.2)))
      have hne : ∀ (i : Nat) (sl : Sl), (wipeD δ (own.map (·.2)))[i]? = some sl → isOwn sl = true → (wipe σ (own.map (·.2)))[i]? ≠ some (some (V.ref D)) := fun i sl e o z => by
        obtain ⟨a, es, _, _, oa⟩ := Sw.own e o
        rw [z] at es
        have : D = a := by injection es with es; injection es with es; injection es
        subst this
        exact oa.there hDn
      have Sw3 : SOk X.K B G2 H3 (wipeD δ (own.map (·.2))) (wipe σ (own.map (·.2))) := by rw [← hH3]; exact Sw.other hbD hgD hne
      have t3 : Tr G2 H2 G2 H3 := by rw [← hH3]; exact Tr.own t2.gh _ hDn
      have hD3 : H3 D = some (.lst []) := by rw [← hH3]; exact upd_same
      have A4 : GenAt (X.blk s3 H3 scope ce (ga :: pl.map (·.1))) kk [] ga gn ds gs Hk pl G2 H3 s4 := by
        obtain ⟨oG, nmG, qnG, hoG, rG⟩ := A2.obj
        exact ⟨A2.ex, ⟨oG, nmG, qnG, k4 _ _ hoG, rG⟩, by rw [g4]; exact A2.gens, A2.clo, A2.sub.trans t3.sm, A2.fl, A2.ow, fun p hp => ⟨k4 _ _ (A2.own p hp).1, (A2.own p hp).2⟩, fun b hb => fpB I4 b hb (f3 b hb).1.1, A2.gne⟩
      have loop : codeAny (model X.prog X.w) X.A (.compLoop (.ListComp elt [⟨tg, iter, ifs, 0⟩] scope pos) 0 (.ref ga) (.ref D) ce) (compPost (model X.prog X.w) X.A X.xe use Qf (.ref D) s3.heap.objs.size) s4 := by
        refine compLoop_any (fun n s' => ∃ rem gs Hk pl' G' H' acc accV zs, n = rem.length ∧ Inv (X.blk s3 H3 scope ce (ga :: pl.map (·.1))) [] (wipe σ (own.map (·.2))) H' s' ∧ SOk X.K B G' H' (wipeD δ (own.map (·.2))) (wipe σ (own.map (·.2))) ∧
          GenAt (X.blk s3 H3 scope ce (ga :: pl.map (·.1))) kk [] ga gn rem gs Hk pl' G' H' s' ∧ Tr G2 H2 G' H' ∧ G' D = none ∧ H' D = some (.lst accV) ∧ DReps X.K G' accV acc ∧ lcD g ft fe (wipeD δ (own.map (·.2))) rem = .ok zs ∧ acc ++ zs = ys) ?_ ds.length
          ⟨ds, gs, Hk, pl, G2, H3, [], [], ys, rfl, I4, Sw3, A4, t3, hgD, hD3, .nil, ed, rfl⟩
        rintro n s5 ⟨rem, gs5, Hk5, pl5, G5, H5, acc, accV, zs, rfl, I5, S5, A5, t5, gD5, hD5, rA, el, ea⟩
        refine thnF (gen_next (X := X.blk s3 H3 scope ce (ga :: pl.map (·.1))) hc hr S5.gh I5 A5) fun r s6 h6 => ?_
        cases rem with
        | nil =>
          obtain ⟨rfl, I6⟩ := h6
          cases el
          rw [List.append_nil] at ea
          subst ea
          have I7 : Inv X pins σ H5 s6 := I3.call' (ch := ga :: pl.map (·.1)) I6.os I6.base I6.hok I6.bare fun b hb => ⟨(f3 b hb).1.2.2.2.1, (f3 b hb).1.2.1, (f3 b hb).1.2.2.2.2.1, (f3 b hb).1.2.2.2.2.2⟩
          have nC : H5 s3.heap.objs.size = none := by
            have z : H5 ce.locals = none := I6.free
            rw [cL] at z; exact z
          obtain ⟨m, hn, _⟩ := I6.loc
          have hn : s6.heap.Ns ce.locals m := hn
          rw [cL] at hn
          exact hRR D s3.heap.objs.size s6 m H5 I7 (h D accV H5 G5 t5 hDn gD5 hD5 rA) hn (I3.fpOk (Nat.le_refl _) nC)
        | cons d rest =>
          obtain ⟨v, x, G6, H6, gs6, Hk6, pl6, rfl, rx, dx, t6, I6, A6, fl6, as6⟩ := h6
          refine A6.go_of ?_
          have S6 := S5.step t6
          have gD6 : G6 D = none := by rw [t6.nw D (by rw [hD5]; simp)]; exact gD5
          have hD6 := t6.sm _ _ hD5
          unfold lcD at el
          cases eg : g d (wipeD δ (own.map (·.2))) with
          | exc _ _ => rw [eg] at el; cases el
          | bad => rw [eg] at el; cases el
          | ok δ' =>
            rw [eg] at el
            dsimp only at el
            obtain ⟨tg', pg, hg'⟩ := Pg.ex
            have I6k := inv_gens (A6.pinned I6) (bare_kill I6.bare)
            have ra := run_asleep A6.gens as6 (pg.run _ _ _ H6 x v (fun σ' H' => H' = H6 ∧ SOk X.K B G6 H6 δ' σ' ∧ wipe σ' (own.map (·.2)) = wipe σ (own.map (·.2))) I6k rx (hg' S6 dx eg fun σ' S' w2 => ⟨rfl, S', by rw [w2 _ hix, wipe_idem]⟩))
            refine wpAny_mono ra (fun _ s7 h7 => ?_) fun ex s7 ⟨z, Gz, D', hz, _⟩ => hz.elim
            obtain ⟨z7, Gz7, D7, ⟨σ7, H7, I7z, rfl, S7, hw7⟩, r7, rfl, gk7⟩ := h7
            have I7 := inv_gens I7z (r7.bare I7z.bare)
            cases et : ft δ' with
            | exc _ _ => rw [et] at el; cases el
            | bad => rw [et] at el; cases el
            | ok b =>
              rw [et] at el
              have I7k := inv_gens I7 (bare_kill I7.bare)
              have rt := run_asleep (s := { z7 with gens := Gz7 }) gk7 as6 (Pt.can.run _ _ σ7 H7 (fun b' H' => b' = b ∧ ∃ G', Tr G6 H7 G' H') I7k ⟨B, G6, δ', S7, by
                rw [et]
                exact fun b' H' G' t r => ⟨r, G', t⟩⟩)
              refine wpAny_mono rt (fun b' s8 h8 => ?_) fun ex s8 ⟨z, Gz, D', hz, _⟩ => hz.elim
              obtain ⟨z8, Gz8, D8, ⟨H8, I8z, rfl, G8, t8⟩, r8, rfl, gk8⟩ := h8
              have I8 := inv_gens I8z (r8.bare I8z.bare)
              have hD8 := t8.sm _ _ hD6
              have gD8 : G8 D = none := by rw [t8.nw D (by rw [hD6]; simp)]; exact gD6
              -- the turn's end
              have fin : ∀ {s' : Shared} {G' H' : Hp} {acc' : List DV} {accV' : List V} {zs' : List DV}, Inv (X.blk s3 H3 scope ce (ga :: pl.map (·.1))) ([] ++ pinsAt (ga :: pl6.map (·.1)) s6.heap) σ7 H' s' → s'.gens[gn]? = some gs6 → Same G6 G' → SOk X.K B G' H' (wipeD δ (own.map (·.2))) (wipe σ (own.map (·.2))) → Tr G2 H2 G' H' → G' D = none → H' D = some (.lst accV') → DReps X.K G' accV' acc' → lcD g ft fe (wipeD δ (own.map (·.2))) rest = .ok zs' → acc' ++ zs' = ys →
                  ∃ m, m < (d :: rest).length ∧ ∃ rem gs Hk pl' G' H' acc accV zs, m = rem.length ∧ Inv (X.blk s3 H3 scope ce (ga :: pl.map (·.1))) [] (wipe σ (own.map (·.2))) H' s' ∧ SOk X.K B G' H' (wipeD δ (own.map (·.2))) (wipe σ (own.map (·.2))) ∧
                    GenAt (X.blk s3 H3 scope ce (ga :: pl.map (·.1))) kk [] ga gn rem gs Hk pl' G' H' s' ∧ Tr G2 H2 G' H' ∧ G' D = none ∧ H' D = some (.lst accV) ∧ DReps X.K G' accV acc ∧ lcD g ft fe (wipeD δ (own.map (·.2))) rem = .ok zs ∧ acc ++ zs = ys := fun {s' G' H' acc' accV' zs'} I' gk' gg' S' tr' gD' hD' rA' el' ea' => by
                refine ⟨rest.length, Nat.lt_succ_self _, rest, gs6, Hk6, pl6, G', H', acc', accV', zs', rfl, ?_, S', A6.restore fl6 gg' S'.gh (fun b hb o e => ?_) gk', tr', gD', hD', rA', el', ea'⟩
                · refine (I'.unpinned (pins := [])).weak (by rw [← hw7, wipe_length]) fun j v e => ?_
                  rw [← hw7] at e
                  exact (wipe_some e).1
                · obtain ⟨e1, e2, _⟩ := I'.pin (b, o) (List.mem_append_right _ (List.mem_append_right _ (mem_pinsAt hb e)))
                  exact ⟨e1, e2⟩
              have tt := t6.trans t8
              cases b' with
              | false =>
                simp only [Bool.false_eq_true, if_false]
                exact fin I8 gk8 t8.gg (S5.step tt) (t5.trans tt) gD8 hD8 (rA.mono tt.gg) el ea
              | true =>
                simp only [if_true]
                have el : ((LD.noX (fe δ')).bind fun y => (lcD g ft fe (wipeD δ (own.map (·.2))) rest).bind fun ys => .ok (y :: ys)) = .ok zs := el
                cases ee : fe δ' with
                | exc _ _ => rw [ee] at el; cases el
                | bad => rw [ee] at el; cases el
                | ok yv =>
                  rw [ee] at el
                  have el : ((lcD g ft fe (wipeD δ (own.map (·.2))) rest).bind fun ys => .ok (yv :: ys)) = .ok zs := el
                  cases er : lcD g ft fe (wipeD δ (own.map (·.2))) rest with
                  | exc _ _ => rw [er] at el; cases el
                  | bad => rw [er] at el; cases el
                  | ok ws =>
                    rw [er] at el
                    cases el
                    have I8k := inv_gens I8 (bare_kill I8.bare)
                    have re := run_asleep (s := { z8 with gens := Gz8 }) gk8 as6 (Pe.can.run _ _ σ7 H8 (fun u H' => ∃ G', Tr G8 H8 G' H' ∧ DRep X.K G' u yv) I8k ⟨B, G8, δ', S7.step t8, by
                      rw [ee]
                      exact fun u H' G' t r => ⟨G', t, r⟩⟩)
                    refine wpAny_mono re (fun u s9 h9 => ?_) fun ex s9 ⟨z, Gz, D', hz, _⟩ => hz.elim
                    obtain ⟨z9, Gz9, D9, ⟨yV, H9, I9z, ry, G9, t9, dy⟩, r9, rfl, gk9⟩ := h9
                    have I9 := inv_gens I9z (r9.bare I9z.bare)
                    have t59 := tt.trans t9
                    have hD9 := t9.sm _ _ hD8
                    have gD9 : G9 D = none := by rw [t9.nw D (by rw [hD8]; simp)]; exact gD8
                    have S9 := S5.step t59
                    have hlen : accV.length < sizeLine := by
                      rw [rA.length]
                      have : acc.length + (yv :: ws).length = ys.length := by rw [← ea, List.length_append]
                      rw [List.length_cons] at this
                      omega
                    have I9k := inv_gens I9 (bare_kill I9.bare)
                    have rp := run_asleep (s := { z9 with gens := Gz9 }) gk9 as6 (app_ok (Q := fun _ s' => Inv (X.blk s3 H3 scope ce (ga :: pl.map (·.1))) ([] ++ pinsAt (ga :: pl6.map (·.1)) s6.heap) σ7 (upd H9 D (.lst (accV ++ [yV]))) s') (E := fun _ _ => False) I9k hD9 hlen ry fun s' I' => I')
                    refine wpAny_mono rp (fun _ s10 h10 => ?_) fun ex s10 ⟨z, Gz, D', hz, _⟩ => hz.elim
                    obtain ⟨z10, Gz10, D10, I10z, r10, rfl, gk10⟩ := h10
                    have I10 := inv_gens I10z (r10.bare I10z.bare)
                    have tg9 := t5.trans t59
                    exact fin (acc' := acc ++ [yv]) I10 gk10 (t8.gg.trans t9.gg) (S9.other hbD gD9 hne) (tr_own_upd tg9 _ hDn gD9) gD9 upd_same ((rA.mono t59.gg).append (.cons dy .nil)) er (by simpa using ea)
      exact codeAny_compStart_list loop (wpAny_pyIter_gen A4.obj loop)
/-- a comprehension's list -/
theorem d_lcG (hc : X.calm = true) (hN : X.N.Nodup) (hr : Room (kk + 1) X.A) (ok : BlkOk X.N X.env.scope scope own) (hix : ∀ i ∈ ix, i ∈ own.map (·.2)) (hi : SrcG kk X iter fi)
    (hg : ∀ (s : Shared) (H : Hp) (C : Addr) (cl : List (Str × Addr)) (fp : List Addr), PGD (X.blk s H scope (compEnvC scope cl C X.env) fp) tg ix g) (ht : ∀ (s : Shared) (H : Hp) (C : Addr) (cl : List (Str × Addr)) (fp : List Addr), PDTs (X.blk s H scope (compEnvC scope cl C X.env) fp) W0 ifs ft)
    (he : ∀ (s : Shared) (H : Hp) (C : Addr) (cl : List (Str × Addr)) (fp : List Addr), PD (X.blk s H scope (compEnvC scope cl C X.env) fp) W0 elt fe) (hs : ∀ x, foldedSetIterable iter X.env x = pure x := by intro _; rfl) :
    PD X W (.ListComp elt [⟨tg, iter, ifs, 0⟩] scope pos) (xLc (own.map (·.2)) (fun δ => noX (fi δ)) g ft fe) := by
  refine ⟨cE X.K W (xLc (own.map (·.2)) (fun δ => noX (fi δ)) g ft fe), ⟨fun pins s σ H Q I ⟨B, G, δ, S, h⟩ => ?_⟩, fun {B G H δ σ Q} S h => ⟨B, G, δ, S, h⟩⟩
  rw [eval_ListComp]
  refine lcG_core (W := W) hc hN hr I S hi ok hix hg ht he hs (LRq.of h) fun D C s' m H' I' q hn f => ⟨m, hn, fun h'' sb => ?_⟩
  obtain ⟨f0, f1, f2, f3, f4, f5⟩ := f
  exact ⟨.ref D, H', I'.turned (t' := s'.toks) (fun b o hb e => (sb.2 b hb).trans e) f0 f1 f3 f4 f5, rfl, q⟩
/-- name = [..] on one line, the name a local -/
theorem ds_setLcG (i : Nat) {y : Str} {py spos : Pos} (hc : X.calm = true) (hN : X.N.Nodup) (hr : Room (kk + 1) X.A) (ok : BlkOk X.N X.env.scope scope own) (hix : ∀ i ∈ ix, i ∈ own.map (·.2)) (hi : SrcG kk X iter fi)
    (hg : ∀ (s : Shared) (H : Hp) (C : Addr) (cl : List (Str × Addr)) (fp : List Addr), PGD (X.blk s H scope (compEnvC scope cl C X.env) fp) tg ix g) (ht : ∀ (s : Shared) (H : Hp) (C : Addr) (cl : List (Str × Addr)) (fp : List Addr), PDTs (X.blk s H scope (compEnvC scope cl C X.env) fp) W0 ifs ft)
    (he : ∀ (s : Shared) (H : Hp) (C : Addr) (cl : List (Str × Addr)) (fp : List Addr), PD (X.blk s H scope (compEnvC scope cl C X.env) fp) W0 elt fe)
    (hy : X.N[i]? = some y := by rfl) (hyl : X.env.scope.names.lookup y = some .local := by rfl) (hsw : swapsWith (.ListComp elt [⟨tg, iter, ifs, 0⟩] scope pos) (some (.Name y py)) spos.line X.env = pure true := by exact sw_true rfl rfl rfl rfl) (hs : ∀ x, foldedSetIterable iter X.env x = pure x := by intro _; rfl) :
    PSD X W (.Assign [.Name y py] (.ListComp elt [⟨tg, iter, ifs, 0⟩] scope pos) spos) (sSetLc i (xLcs (own.map (·.2)) (fun δ => noX (fi δ)) g ft fe)) := by
  refine ⟨cS X.K W (sSetLc i (xLcs (own.map (·.2)) (fun δ => noX (fi δ)) g ft fe)), ⟨fun pins s σ H D I ⟨B, G, δ, S, h⟩ => ?_⟩, fun {B G H δ σ D} S h => ⟨B, G, δ, S, h⟩⟩
  rw [exec_Assign_Name_used _ _ _ _ hsw]
  refine wpAny_bind (wpAny_standAt (wpAny_bind ?_))
  show wpAny _ X.A (do let _ ← comprehension (.ListComp elt [⟨tg, iter, ifs, 0⟩] scope pos) scope X.env (firstIterPos [⟨tg, iter, ifs, 0⟩] pos) (newList []) false (eval iter X.env) (some (assign (.Name y py) X.env))) _ _ s
  have hL : LRq X.K (fun c d H' => W c d σ H') G H (xLcs (own.map (·.2)) (fun δ => noX (fi δ)) g ft fe δ) (fun x H1 => D.nx (σ.set i (some x)) H1) := by
    have h : SRq X.K W D B G (xS (xLcs (own.map (·.2)) (fun δ => noX (fi δ)) g ft fe δ) δ fun ys => .nx (δ.set i (.pu (.lst ys)))) := h
    cases q : xLcs (own.map (·.2)) (fun δ => noX (fi δ)) g ft fe δ with
    | ok ys =>
      rw [q] at h
      intro L ws H' G' t hd hgd hh rp
      obtain ⟨tf, gf⟩ := t.freeze hd hgd hh
      exact h _ _ _ tf.gg ((S.step tf).set i (.lst upd_same (rp.mono gf)))
    | exc c fs => rw [q] at h; exact fun H' G' d t x => h σ H' G' d t.gg (S.step t) x
    | bad => rw [q] at h; exact h.elim
  refine wpAny_bind (thn (lcG_core (W := W) (Qf := fun _ s' => SP X pins D .next s') hc hN hr I S hi ok hix hg ht he hs hL fun L C s' m H' I' q hn f => ?_) fun _ s' hq => wpAny_pure (wpAny_pure hq))
  show wpAny _ _ (assign (.Name y py) X.env (.ref L)) _ _ _
  refine wpAny_assign_Name (store_ok2 (v := V.ref L) I' hN hy (.inl hyl) rfl (fun s2 I2 ⟨a, sb, ha⟩ => ?_) (.inr hyl))
  obtain ⟨f0, f1, f2, f3, f4, f5⟩ := f
  have haC : C ≠ a := by
    rcases ha with z | z
    · rw [z]; exact f1
    · exact fun e => f4 y a z e.symm
  refine ⟨m, hn.sameBut sb haC, fun h3 sb3 => ?_⟩
  exact ⟨_, H', I2.turned (t' := s2.toks) (fun b o hb e => (sb3.2 b hb).trans e) f0 f1 f3 f4 f5, q⟩
end
end LG

set_option maxHeartbeats 2000000
/-! Layer D, part Y10: generator defs, called. -/
namespace LG
open PySem PySem.Spec PyProof.Rows L2 LD

/-! ### what a generator knows at its birth -/
def kn (G H : Hp) : Hp := fun b => match G b with
  | some (.lst xs) => some (.lst xs)
  | some (.tup xs) => some (.tup xs)
  | some (.frz o (.dK kvs)) => some (.frz o (.dK kvs))
  | some (.ins C dx fs) => some (.ins C dx fs)
  | _ => match H b with
    | some (.own a) => (match G a with
      | some (.ins C dx fs) => if dx = b then some (.own a) else none
      | _ => none)
    | _ => none
def knOk : HO → Prop
  | .lst _ => True
  | .tup _ => True
  | .frz _ (.dK _) => True
  | .ins _ _ _ => True
  | _ => False
theorem kn_inv {G H : Hp} {b : Addr} {o : HO} (h : kn G H b = some o) : (G b = some o ∧ knOk o) ∨ ∃ a C fs, o = .own a ∧ H b = some (.own a) ∧ G a = some (.ins C b fs) := by
  unfold kn at h
  split at h
  · rename_i xs e; cases h; exact .inl ⟨e, trivial⟩
  · rename_i xs e; cases h; exact .inl ⟨e, trivial⟩
  · rename_i ob kvs e; cases h; exact .inl ⟨e, trivial⟩
  · rename_i C dx fs e; cases h; exact .inl ⟨e, trivial⟩
  · split at h
    · rename_i a e
      split at h
      · rename_i C dx fs e2
        split at h
        · rename_i hd
          subst hd
          cases h
          exact .inr ⟨a, C, fs, rfl, e, e2⟩
        · cases h
      · cases h
    · cases h
theorem kn_of {G H : Hp} {b : Addr} {o : HO} (h : G b = some o) (k : knOk o) : kn G H b = some o := by
  unfold kn
  cases o with
  | lst xs => rw [h]
  | tup xs => rw [h]
  | ins C dx fs => rw [h]
  | frz ob u => cases u with
    | dK kvs => rw [h]
    | _ => exact k.elim
  | _ => exact k.elim
theorem kn_own {G H : Hp} {a b : Addr} {C : Addr} {fs : List (Str × V)} (gh : Same G H) (h : G a = some (.ins C b fs)) (e : H b = some (.own a)) : kn G H b = some (.own a) := by
  unfold kn
  cases q : G b with
  | none => dsimp only; rw [e]; dsimp only; rw [h]; dsimp only; rw [if_pos rfl]
  | some u =>
    have := gh b u q
    rw [e] at this; cases this
    dsimp only
    rw [e]; dsimp only; rw [h]; dsimp only; rw [if_pos rfl]
section
variable {P : Program} {w : World} {G H : Hp} {h : Heap}
theorem kn_sub (gh : Same G H) : Same (kn G H) H := fun b o e => by
  rcases kn_inv e with ⟨q, _⟩ | ⟨a, C, fs, rfl, q, _⟩
  · exact gh b o q
  · exact q
theorem kn_clo (gh : Same G H) (hok : HOk P w H h) : Clo P w (kn G H) := fun Hc h' sm hok' b o e => by
  rcases kn_inv e with ⟨q, k⟩ | ⟨a, C, fs, rfl, q, _⟩
  · have z := hok' b o (sm b o e)
    cases o with
    | lst xs => exact z
    | tup xs => exact z
    | frz ob u => cases u with
      | dK kvs => exact z
      | _ => exact k.elim
    | ins C dx fs =>
      obtain ⟨_, z2⟩ := z
      have hd : H dx = some (.own b) := (hok b _ (gh b _ q)).1
      exact ⟨kn_own gh q hd, z2⟩
    | _ => exact k.elim
  · have z := hok' b _ (sm b _ e)
    exact z
theorem kn_ow : ∀ c b, kn G H c = some (.own b) → kn G H b ≠ none := fun c b e => by
  rcases kn_inv e with ⟨q, k⟩ | ⟨a, C, fs, e1, _, q⟩
  · exact k.elim
  · cases e1
    rw [kn_of q trivial]; simp
theorem kn_fl : ∀ b o, flH (kn G H) b = some o → G b = some o := fun b o e => by
  obtain ⟨e1, e2⟩ := flH_inv e
  rcases kn_inv e1 with ⟨q, _⟩ | ⟨a, C, fs, rfl, _, _⟩
  · exact q
  · rcases e2 with ⟨xs, z⟩ | ⟨xs, z⟩ <;> cases z
end
mutual
def knD : DV → Bool
  | .non => true
  | .bl _ => true
  | .int _ => true
  | .str _ => true
  | .tup xs => knDs xs
  | .lst xs => knDs xs
  | .ro _ => false
  | .dic kvs => knKs kvs
  | .dit _ => false
  | .obj _ fs => knFs fs
def knDs : List DV → Bool
  | [] => true
  | x :: xs => knD x && knDs xs
def knKs : List (Key × DV) → Bool
  | [] => true
  | x :: xs => knD x.2 && knKs xs
def knFs : List (Str × DV) → Bool
  | [] => true
  | x :: xs => knD x.2 && knFs xs
end
section
variable {K : PySem.W.Frag} {G H : Hp}
mutual
theorem rep_kn : ∀ {v : V} {d : DV}, knD d = true → DRep K G v d → DRep K (kn G H) v d
  | _, _, _, .non => .non
  | _, _, _, .bl b => .bl b
  | _, _, _, .int i => .int i
  | _, _, _, .str x => .str x
  | _, _, h, .tup e r => .tup (kn_of e trivial) (reps_kn h r)
  | _, _, h, .lst e r => .lst (kn_of e trivial) (reps_kn h r)
  | _, _, h, .ro _ _ => by cases h
  | _, _, h, .dic e r => .dic (kn_of e trivial) (kreps_kn h r)
  | _, _, h, .dit _ _ => by cases h
  | _, _, h, .obj e r => .obj (kn_of e trivial) (freps_kn h r)
theorem reps_kn : ∀ {vs : List V} {ds : List DV}, knDs ds = true → DReps K G vs ds → DReps K (kn G H) vs ds
  | _, _, _, .nil => .nil
  | _, _, h, .cons a b => .cons (rep_kn (Bool.and_eq_true_iff.mp h).1 a) (reps_kn (Bool.and_eq_true_iff.mp h).2 b)
theorem kreps_kn : ∀ {vs : List (Key × V)} {ds : List (Key × DV)}, knKs ds = true → KReps K G vs ds → KReps K (kn G H) vs ds
  | _, _, _, .nil => .nil
  | _, _, h, .cons a b => .cons (rep_kn (Bool.and_eq_true_iff.mp h).1 a) (kreps_kn (Bool.and_eq_true_iff.mp h).2 b)
theorem freps_kn : ∀ {vs : List (Str × V)} {ds : List (Str × DV)}, knFs ds = true → FReps K G vs ds → FReps K (kn G H) vs ds
  | _, _, _, .nil => .nil
  | _, _, h, .cons a b => .cons (rep_kn (Bool.and_eq_true_iff.mp h).1 a) (freps_kn (Bool.and_eq_true_iff.mp h).2 b)
end
end

/-! ### a generator def's promise -/
/-- a generator just made -/
structure Born (P : Program) (w : World) (K : PySem.W.Frag) (mg : Str → Option Value) (base : Heap) (kk : Nat) (outer : List Env) (rem : List DV) (G H : Hp) (s s' : Shared) (ga : Addr) : Prop where
  ex : ∃ g gs Hk L oL, s.heap.objs.size ≤ L ∧ L < ga ∧ s'.heap.IsGen ga g ∧ s'.gens[g]? = some gs ∧ s'.heap.get? L = some oL ∧ (∀ v, oL.data ≠ .cell v) ∧ Sleeps P w K mg base kk L outer rem gs Hk [(L, oL)] ∧ Clo P w Hk ∧ Same Hk H ∧ (∀ b o, flH Hk b = some o → G b = some o) ∧ (∀ c b, Hk c = some (.own b) → Hk b ≠ none)
  kept : ∀ b o, s.heap.get? b = some o → s'.heap.get? b = some o
  os : s'.os = s.os
  bare : AllBare s'.gens
structure GFnS (P : Program) (w : World) (K : PySem.W.Frag) (mg : Str → Option Value) (base : Heap) (kk : Nat) (f : Addr) (fd : FuncData) (ps : List Str) (spec : List DV → R (List DV)) : Prop where
  len : ∀ ds rem, spec ds = .ok rem → ds.length = ps.length
  run : ∀ (A : Around) (outer : List Env) (s : Shared) (G H : Hp) (args : Args) (us : List Value) (vs : List V) (ds rem : List DV), Room kk A → Env0 P w K mg base A outer s H → BindsTo s fd args (ps.zip us) → Vals vs us → Same G H → DReps K G vs ds → spec ds = .ok rem →
    codeAny (model P w) A (.call (.ref f) args) (fun r s' => ∃ ga, r = .ok (.ret (.ref ga)) ∧ Born P w K mg base kk outer rem G H s s' ga) s
def layD (ft : Ev → R Bool) (F3 : Ev → SR) (ix iy : Nat) : Nat → Ev → R (List DV)
  | 0, _ => .bad
  | n + 1, δ => match ft δ with
    | .ok false => .ok []
    | .ok true => (match δ[iy]? with
      | some (.pu (.lst ds)) => if flatDs ds && Nat.blt ix δ.length then (match F3 (dAt (flE δ) ix ds ds.length) with
        | .nx δ' => (layD ft F3 ix iy n δ').bind fun r => .ok (ds ++ r)
        | _ => .bad) else .bad
      | _ => .bad)
    | _ => .bad
theorem layD_ok {ft : Ev → R Bool} {F3 : Ev → SR} {ix iy : Nat} : ∀ {n : Nat} {δ : Ev} {rem : List DV}, layD ft F3 ix iy n δ = .ok rem → Lay ft F3 ix iy δ rem
  | 0, _, _, h => by cases h
  | n + 1, δ, rem, h => by
    unfold layD at h
    split at h
    · rename_i e; cases h; exact .stop e
    · rename_i e
      split at h
      · rename_i ds e2
        split at h
        · rename_i e3
          obtain ⟨e4, e5⟩ := Bool.and_eq_true_iff.mp e3
          split at h
          · rename_i δ' e6
            cases q : layD ft F3 ix iy n δ' with
            | ok r =>
              rw [q] at h
              cases h
              exact .more e (Nat.le_of_ble_eq_true e5) e2 e4 e6 (layD_ok q)
            | exc _ _ => rw [q] at h; cases h
            | bad => rw [q] at h; cases h
          · cases h
        · cases h
      · cases h
    · cases h
/-- a generator def's mirror -/
def gmir (n p : Nat) (F1 : Ev → SR) (ft : Ev → R Bool) (F3 : Ev → SR) (ix iy : Nat) : List DV → R (List DV) := fun ds => if Nat.beq ds.length p && knDs ds then (match F1 (ds.map Sl.pu ++ List.replicate (n - p) Sl.un) with
  | .nx δ1 => layD ft F3 ix iy 100 δ1
  | _ => .bad) else .bad
section
variable {P : Program} {w : World} {K : PySem.W.Frag} {mg : Str → Option Value} {base : Heap} {kk : Nat}
/-- THE RULE: a generator def by its body -/
theorem gfn_layers {xn qual : Str} {params : Arguments} {scope : Scope} {dvs : List V} {kws : List (Str × V)} {f : Addr} {fd : FuncData} {N ps : List Str} {x y : Str} {px py p1 p2 p3 pos wpos : Pos} {ix iy : Nat} {test : Expr} {st1 st3 : Stmt} {ft : Ev → R Bool} {F1 F3 : Ev → SR}
    (D : FunD K xn qual params [st1, .While test [.For (.Name x px) (.Name y py) [.Expr (.Yield (some (.Name x p1)) p2) p3] [] pos, st3] [] wpos] scope dvs kws f fd) (S : GScope N ps scope) (hle : ps.length ≤ N.length) (hnc : ∀ z, scope.names.lookup z ≠ some .cell ∧ scope.names.lookup z ≠ some .free) (hce : ∀ n, cellsFrom n scope.names [] = [])
    (h1 : ∀ cdv L A outer s0 Hk, Room kk A → PSD (gX P w K mg base N (envOfC qual scope L f cdv) (Around.deeper A (envOfC qual scope L f cdv)) outer s0 Hk) W0 st1 F1) (hT : ∀ cdv L A outer s0 Hk, PGD (gX P w K mg base N (envOfC qual scope L f cdv) (Around.deeper A (envOfC qual scope L f cdv)) outer s0 Hk) (.Name x px) [ix] (gN ix))
    (hX : ∀ cdv L A outer s0 Hk, PD (gX P w K mg base N (envOfC qual scope L f cdv) (Around.deeper A (envOfC qual scope L f cdv)) outer s0 Hk) W0 (.Name x p1) (xVar ix)) (hY : ∀ cdv L A outer s0 Hk, PD (gX P w K mg base N (envOfC qual scope L f cdv) (Around.deeper A (envOfC qual scope L f cdv)) outer s0 Hk) W0 (.Name y py) (xVar iy))
    (ht : ∀ cdv L A outer s0 Hk, Room kk A → PDT (gX P w K mg base N (envOfC qual scope L f cdv) (Around.deeper A (envOfC qual scope L f cdv)) outer s0 Hk) W0 test ft) (h3 : ∀ cdv L A outer s0 Hk, Room kk A → PSD (gX P w K mg base N (envOfC qual scope L f cdv) (Around.deeper A (envOfC qual scope L f cdv)) outer s0 Hk) W0 st3 F3)
    (hi : ∀ cdv L, interactive (envOfC qual scope L f cdv) = false := by intro _ _; rfl) (hs : ∀ cdv L z, foldedSetIterable (.Name y py) (envOfC qual scope L f cdv) z = pure z := by intro _ _ _; rfl) : GFnS P w K mg base kk f fd ps (gmir N.length ps.length F1 ft F3 ix iy) := by
  have key : ∀ {ds rem}, gmir N.length ps.length F1 ft F3 ix iy ds = .ok rem → ds.length = ps.length ∧ knDs ds = true ∧ ∃ δ1, F1 (ds.map Sl.pu ++ List.replicate (N.length - ps.length) Sl.un) = .nx δ1 ∧ Lay ft F3 ix iy δ1 rem := fun {ds rem} h => by
    unfold gmir at h
    split at h
    · rename_i e
      obtain ⟨e1, e2⟩ := Bool.and_eq_true_iff.mp e
      refine ⟨Nat.eq_of_beq_eq_true e1, e2, ?_⟩
      split at h
      · rename_i δ1 e3; exact ⟨δ1, e3, layD_ok h⟩
      · cases h
    · cases h
  refine ⟨fun ds rem h => (key h).1, fun A outer s G H args us vs ds rem hr e0 hb r gh rp hsp => ?_⟩
  obtain ⟨hlen, hkd, δ1, e1, L⟩ := key hsp
  obtain ⟨oc, od, dV, kV, doc, pm, an, cdv, ct, osl, rfl, lk, hcd, _, _⟩ := D.ex
  have hl : vs.length = ps.length := by rw [rp.length, hlen]
  have KX : K.In s.heap := e0.mod.kin.keeps fun b o e => (e0.bs b o e).1
  have lim : s.heap.NoLimit := e0.mod.nolimit.keeps fun b o e => (e0.bs b o e).1
  have loc : ∀ z ∈ ps, scope.names.lookup z = some .local := fun z hz => (S.par z hz).elim id fun k => absurd k (hnc z).1
  refine codeAny_call_generator hr.depth (KX _ _ lk) rfl S.co S.gen rfl (PySem.W.codeRec_of KX hcd) (hb _ _ _ _ ?_)
  refine wpAny_newFunctionEnv_cells S.kind (fun z hz => .inl (loc z.1 (List.of_mem_zip hz).1)) fun env he s1 xc => ?_
  subst he
  refine ⟨lim.keeps xc.toInCall.keep, ?_⟩
  obtain ⟨hh1, tk, es1, hk1⟩ := xc.done
  have gen1 : s1.gens = s.gens := by rw [es1]
  have hns := xc.toInCall.ns
  have lt1 : s.heap.objs.size < s1.heap.objs.size := hns.lt
  obtain ⟨oL, es, ep, eL, edL, rL⟩ := id hns
  have E : GEnv N (envOfC qual scope s.heap.objs.size f cdv) := ⟨S.kind, rfl, rfl, rfl, hce _, hnc, S.nd⟩
  have main : ∀ (go : Obj) (nm qn : Value) (tk2 : Nat), go.cls = .type "generator" → go.data = .fields #[.int s1.gens.size 0, nm, qn] → go.slots = #[] → (∀ h : Heap, (h.push go).get? h.objs.size = some go) →
      Born P w K mg base kk outer rem G H s { s1 with gens := s1.gens.push (.fresh (.func [st1, .While test [.For (.Name x px) (.Name y py) [.Expr (.Yield (some (.Name x p1)) p2) p3] [] pos, st3] [] wpos] (envOfC qual scope s.heap.objs.size f cdv))), toks := tk2, heap := s1.heap.push go } s1.heap.objs.size := fun go nm qn tk2 g1 g2 g3 g4 => by
    refine ⟨⟨s1.gens.size, .fresh (.func [st1, .While test [.For (.Name x px) (.Name y py) [.Expr (.Yield (some (.Name x p1)) p2) p3] [] pos, st3] [] wpos] (envOfC qual scope s.heap.objs.size f cdv)), kn G H, s.heap.objs.size, oL, Nat.le_refl _, lt1, ⟨go, nm, qn, g4 _, g1, g2, g3⟩, Array.getElem?_push_size .., Heap.get?_push_of_some _ eL, (fun v z => by rw [edL] at z; cases z), ?_, kn_clo gh e0.hok, kn_sub gh, kn_fl, kn_ow⟩, fun b o e => Heap.get?_push_of_some _ (xc.toInCall.keep b o e), by rw [es1], AllBare.push (by rw [gen1]; exact e0.bare) rfl⟩
    refine sleeps_layers (ge := envOfC qual scope s.heap.objs.size f cdv) (vs := vs) (ds := ds) E (h1 cdv _ · outer) (hT cdv _ · outer) (hX cdv _ · outer) (hY cdv _ · outer) (ht cdv _ · outer) (h3 cdv _ · outer) S.co (hi cdv _) (hs cdv _) (fun h e => ⟨oL, es, ep, e, edL, rL⟩) (by rw [hl]; exact hle) (fun i z v h1 h2 _ => ?_) (reps_kn hkd rp) (by rw [hl]; exact e1) L
    have hi : i < vs.length := by
      unfold L2.start at h2
      by_cases hi : i < vs.length
      · exact hi
      · rw [List.getElem?_append_right (by simpa using hi), List.getElem?_replicate] at h2
        split at h2 <;> cases h2
    have ha : vs[i]? = some v := by
      unfold L2.start at h2
      rw [List.getElem?_append_left (by simpa using hi), List.getElem?_map] at h2
      cases e : vs[i]? with
      | none => rw [e] at h2; cases h2
      | some a => rw [e] at h2; cases h2; rfl
    obtain ⟨u, hu, rv⟩ := r.get ha
    have hp : ps[i]? = some z := by rw [← S.pre, List.getElem?_take_of_lt (by omega)]; exact h1
    have ndP : ps.Nodup := by rw [← S.pre]; exact S.nd.sublist (List.take_sublist _ _)
    have hloc := loc z (List.mem_of_getElem? hp)
    exact ⟨u, rv, hloc, bindL_get ndP hp hu hloc⟩
  exact ⟨_, rfl, main _ _ _ _ rfl rfl rfl fun h => Heap.get?_push_size _ rfl⟩
end
section
variable {X : Cx} {kk : Nat} {f : Addr} {fd : FuncData} {ps : List Str} {spec : List DV → R (List DV)} {o : Expr} {fo : Ev → R DV} {W : WX} {pos : Pos}
/-- the generator as its walker has it -/
theorem born_at {pins : List (Addr × Obj)} {σ : L2.St} {G H : Hp} {s s' : Shared} {rem : List DV} {ga : Addr} (I : Inv X pins σ H s) (gh : Same G H) (b : Born X.prog X.w X.K X.mg X.base kk X.stack rem G H s s' ga) :
    Inv X pins σ H s' ∧ ∃ g gs Hk pl, GenAt X kk pins ga g rem gs Hk pl G H s' := by
  obtain ⟨⟨g, gs, Hk, L, oL, h1, h2, h3, h4, h5, h6, h7, h8, h9, h10, h11⟩, hk, ho, hb⟩ := b
  have I' : Inv X pins σ H s' := I.call' (ch := []) ho (Un.kept hk) (I.hok.kept hk) hb fun b z => absurd z (by simp)
  refine ⟨I', g, gs, Hk, [(L, oL)], ⟨L, oL, List.mem_cons_self, h7, Nat.le_trans I.ok.bsz (Nat.le_trans I.sz h1), fun b hb => ?_⟩, h3, h4, h8, h9, h10, h11, fun p hp => ?_, fun b hb => ?_, fun z => ?_⟩
  · obtain ⟨_, ob, ho, _⟩ := I.stack.mem hb
    exact Nat.lt_of_lt_of_le (Heap.lt_size ho) h1
  · rw [List.mem_singleton.mp hp]; exact ⟨h5, h6⟩
  · have hz : s.heap.objs.size ≤ b := by
      rcases List.mem_cons.mp hb with e | e
      · rw [e]; exact Nat.le_trans h1 (Nat.le_of_lt h2)
      · rw [List.mem_singleton.mp e]; exact h1
    exact I.fpOk hz (I.hok.fresh hz)
  · have := List.mem_singleton.mp z
    rw [this] at h2
    exact Nat.lt_irrefl _ h2
/-- o.m() of a generator method of the class c -/
def xGen0 (c mn : Str) (spec : List DV → R (List DV)) (fo : Ev → R DV) : Ev → R (List DV) := fun δ => match fo δ with
  | .ok (.obj c' fs) => if c' = c then (match fs.lookup mn with
    | none => spec [.obj c' fs]
    | some _ => .bad) else .bad
  | _ => .bad
theorem src_meth0 {cn mn : Str} {apos : Pos} {pl : Sem Bool} (kc : KC X.K cn) (hm : Meth X.K (He.ga X.K cn) mn f) (F : GFnS X.prog X.w X.K X.mg X.base kk f fd ps spec) (hr : Room kk X.A) (hb : Binds X.K fd ps []) (O : PD X W o fo)
    (ht : eval (.Call (.Attribute o mn apos) [] [] pos) X.env = (do
      let ov ← eval o X.env
      standAt apos.atName
      let (f, first) ← holding [ov] (getMethod ov mn pl)
      callWith pos f first (backTo pos (starEach [] X.env)) (backToKw pos (keywordEach [] X.env))) := by rfl) : SrcG kk X (.Call (.Attribute o mn apos) [] [] pos) (xGen0 cn mn spec fo) := by
  obtain ⟨to, po, ho⟩ := O.ex
  refine ⟨fun pins s σ B G H δ rem I S h => ?_⟩
  unfold xGen0 at h
  split at h
  · rename_i c' fs e
    split at h
    · rename_i hcn
      subst hcn
      split at h
      · rename_i hl
        refine PySem.W.methodCall_KW (pl := pl) (thn (po.run pins s σ H (fun v H1 => ∃ G1, Tr G H G1 H1 ∧ DRep X.K G1 v (.obj c' fs)) I (ho S (by rw [e]; exact fun v H1 G1 t r => ⟨G1, t, r⟩))) fun u s1 ⟨v, H1, I1, rv, G1, t1, rd⟩ => ?_) ht
        cases rd with
        | obj e1 rf =>
          rename_i a dx vs
          obtain rfl : u = Value.ref a := rv
          refine getmeth_ok I1 (t1.gh _ _ e1) kc.cl hm (rf.none hl) ?_
          have rp : DReps X.K G1 [.ref a] [.obj c' fs] := .cons (.obj e1 rf) .nil
          have hlen : ([Value.ref a] ++ ([] : List Value)).length = ps.length := by
            have := F.len _ _ h
            exact this
          refine PySem.W.callWith_K0 (first := [.ref a]) I1.kIn hm.kp (wpAny_call (codeAny_mono (F.run X.A X.stack s1 G1 H1 ⟨[.ref a], []⟩ [.ref a] [.ref a] _ rem hr I1.env0 (by have z := hb s1 [.ref a] I1.kIn hlen; rw [List.append_nil] at z; exact z) (.cons rfl .nil) t1.gh rp h) fun r s' hq => ?_))
          obtain ⟨ga, rfl, b⟩ := hq
          obtain ⟨I2, g, gs, Hk, pl, A2⟩ := born_at I1 t1.gh b
          exact ⟨ga, g, gs, Hk, pl, G1, H1, rfl, I2, t1, A2⟩
      · cases h
    · cases h
  · cases h
end
end LG

set_option maxHeartbeats 2000000
/-! Layer D, part Z: generators as printed. -/
namespace LD
open PySem PySem.Spec PyProof.Rows L2 LG
/-- a generator def's promise, with its bindings -/
def GO (P : Program) (w : World) (K : PySem.W.Frag) (mg : Str → Option Value) (base : Heap) (kk : Nat) (f : Addr) (ps : List Str) (spec : List DV → R (List DV)) : Prop := ∃ fd, GFnS P w K mg base kk f fd ps spec ∧ Binds K fd ps []
def noCells (sc : Scope) : Bool := sc.names.all fun y => match y.2 with
  | .cell => false
  | .free => false
  | _ => true
theorem noCells_no {sc : Scope} (h : noCells sc = true) (z : Str) : sc.names.lookup z ≠ some .cell ∧ sc.names.lookup z ≠ some .free := by
  have key : ∀ k, sc.names.lookup z = some k → k ≠ .cell ∧ k ≠ .free := fun k e => by
    have q := List.all_eq_true.mp h (z, k) (PySem.mem_of_lookup e)
    refine ⟨fun z => ?_, fun z => ?_⟩ <;> (subst z; cases q)
  exact ⟨fun e => (key _ e).1 rfl, fun e => (key _ e).2 rfl⟩
theorem noCells_from : ∀ {names : List (Str × NameKind)} {acc : List (Str × Addr)} {n : Nat}, (names.all fun y => match y.2 with
    | .cell => false
    | .free => false
    | _ => true) = true → cellsFrom n names acc = acc
  | [], _, _, _ => rfl
  | (m, k) :: r, acc, n, h => by
    rw [List.all_cons, Bool.and_eq_true] at h
    unfold cellsFrom
    rw [if_neg (fun z => by
      have : k = .cell := by simpa using z
      subst this
      cases h.1)]
    exact noCells_from h.2
section
variable {P : Program} {w : World} {K : PySem.W.Frag} {mg : Str → Option Value} {base : Heap} {kk : Nat}
theorem gfn_k {xn qual : Str} {params : Arguments} {scope : Scope} {dvs : List V} {kws : List (Str × V)} {f : Addr} {fd : FuncData} {N ps : List Str} {x y : Str} {px py p1 p2 p3 pos wpos : Pos} (ix iy : Nat) {test : Expr} {st1 st3 : Stmt} {ft : Ev → R Bool} {F1 F3 : Ev → SR}
    (D : FunD K xn qual params [st1, .While test [.For (.Name x px) (.Name y py) [.Expr (.Yield (some (.Name x p1)) p2) p3] [] pos, st3] [] wpos] scope dvs kws f fd) (S : GScope N ps scope) (hle : ps.length ≤ N.length) (hnc : noCells scope = true) (hb : Binds K fd ps [])
    (h1 : ∀ cdv L A outer s0 Hk, Room kk (Around.deeper A (envOfC qual scope L f cdv)) → PSD (gX P w K mg base N (envOfC qual scope L f cdv) (Around.deeper A (envOfC qual scope L f cdv)) outer s0 Hk) W0 st1 F1) (hT : ∀ cdv L A outer s0 Hk, PGD (gX P w K mg base N (envOfC qual scope L f cdv) (Around.deeper A (envOfC qual scope L f cdv)) outer s0 Hk) (.Name x px) [ix] (gN ix))
    (hX : ∀ cdv L A outer s0 Hk, PD (gX P w K mg base N (envOfC qual scope L f cdv) (Around.deeper A (envOfC qual scope L f cdv)) outer s0 Hk) W0 (.Name x p1) (xVar ix)) (hY : ∀ cdv L A outer s0 Hk, PD (gX P w K mg base N (envOfC qual scope L f cdv) (Around.deeper A (envOfC qual scope L f cdv)) outer s0 Hk) W0 (.Name y py) (xVar iy))
    (ht : ∀ cdv L A outer s0 Hk, Room kk (Around.deeper A (envOfC qual scope L f cdv)) → PDT (gX P w K mg base N (envOfC qual scope L f cdv) (Around.deeper A (envOfC qual scope L f cdv)) outer s0 Hk) W0 test ft) (h3 : ∀ cdv L A outer s0 Hk, Room kk (Around.deeper A (envOfC qual scope L f cdv)) → PSD (gX P w K mg base N (envOfC qual scope L f cdv) (Around.deeper A (envOfC qual scope L f cdv)) outer s0 Hk) W0 st3 F3)
    (hi : ∀ cdv L, interactive (envOfC qual scope L f cdv) = false := by intro _ _; rfl) (hs : ∀ cdv L z, foldedSetIterable (.Name y py) (envOfC qual scope L f cdv) z = pure z := by intro _ _ _; rfl) : GO P w K mg base (kk + 1) f ps (gmir N.length ps.length F1 ft F3 ix iy) :=
  ⟨fd, gfn_layers D S hle (noCells_no hnc) (fun n => noCells_from hnc) (fun cdv L A outer s0 Hk hr => h1 cdv L A outer s0 Hk (hr.deeper _)) hT hX hY (fun cdv L A outer s0 Hk hr => ht cdv L A outer s0 Hk (hr.deeper _)) (fun cdv L A outer s0 Hk hr => h3 cdv L A outer s0 Hk (hr.deeper _)) hi hs, hb⟩
end
section
variable {X : Cx} {kk j : Nat} {ps : List Str} {spec : List DV → R (List DV)} {o : Expr} {fo : Ev → R DV} {pos : Pos}
theorem k_gen0 {cn mn : Str} {apos : Pos} {pl : Sem Bool} (hm : mtB cn mn X.K = true) (F : GO X.prog X.w X.K X.mg X.base kk (He.ma X.K (He.ga X.K cn) mn) ps spec) (hr : Room j X.A) (hj : kk ≤ j) (O : PD X W0 o fo)
    (ht : eval (.Call (.Attribute o mn apos) [] [] pos) X.env = (do
      let ov ← eval o X.env
      standAt apos.atName
      let (f, first) ← holding [ov] (getMethod ov mn pl)
      callWith pos f first (backTo pos (starEach [] X.env)) (backToKw pos (keywordEach [] X.env))) := by rfl) : SrcG kk X (.Call (.Attribute o mn apos) [] [] pos) (xGen0 cn mn spec fo) :=
  let ⟨_, F, hb⟩ := F
  let ⟨h1, h2⟩ := He.ba hm
  src_meth0 (kcB_ok h1) (He.meth_ok h2) F (hr.mono hj) hb O ht
end
/-- a generator as a source -/
def xG (fi : Ev → R (List DV)) : Ev → R (List DV) := fun δ => noX (fi δ)
end LD

set_option maxHeartbeats 2000000
/-! Layer D, part P: laws of data for the mathematics: rows and dicts made of names by functions, == of the same. -/
namespace LD
open PySem PySem.Spec PyProof.Rows L2
section
variable {α : Type}
/-- a dict of names -/
def dcN (xs : List Str) (f : Str → DV) : List (Key × DV) := xs.map fun n => ((Sum.inr n : Key), f n)
theorem dcN_len {xs : List Str} {f : Str → DV} : (dcN xs f).length = xs.length := by unfold dcN; simp
theorem dcN_keys {xs : List Str} {f : Str → DV} : (dcN xs f).map (fun kv => kD kv.1) = xs.map DV.str := by
  unfold dcN; rw [List.map_map]; rfl
theorem dcN_val {xs : List Str} {f : Str → DV} {n : Str} (h : n ∈ xs) : valD (dcN xs f) (Sum.inr n) = some (f n) := by
  induction xs with
  | nil => cases h
  | cons x xs ih =>
    unfold valD dcN
    rw [List.map_cons, List.find?_cons]
    by_cases e : x = n
    · subst e
      simp
    · have : decide ((Sum.inr x : Key) = Sum.inr n) = false := decide_eq_false fun z => e (Sum.inr.inj z)
      rw [this]
      exact ih ((List.mem_cons.mp h).resolve_left fun q => e q.symm)
theorem dcN_no {xs : List Str} {f : Str → DV} {n : Str} (h : n ∉ xs) : valD (dcN xs f) (Sum.inr n) = none := by
  induction xs with
  | nil => rfl
  | cons x xs ih =>
    unfold valD dcN
    rw [List.map_cons, List.find?_cons]
    have e : x ≠ n := fun e => h (by rw [e]; exact List.mem_cons_self)
    have : decide ((Sum.inr x : Key) = Sum.inr n) = false := decide_eq_false fun z => e (Sum.inr.inj z)
    rw [this]
    exact ih fun q => h (List.mem_cons_of_mem _ q)
theorem dcN_merge {f : Str → DV} : ∀ {ys xs : List Str}, (ys ++ xs).Nodup → mergeD (dcN ys f) (dcN xs f) = dcN (ys ++ xs) f
  | ys, [], _ => by rw [List.append_nil]; rfl
  | ys, x :: xs, h => by
    have h2 : x ∉ ys := fun z => by
      rw [List.nodup_append] at h
      exact h.2.2 x z x List.mem_cons_self rfl
    have e : putKD (dcN ys f) (Sum.inr x) (f x) = dcN (ys ++ [x]) f := by
      unfold putKD
      rw [if_neg]
      · unfold dcN; rw [List.map_append]; rfl
      · intro z
        obtain ⟨kv, m, q⟩ := List.any_eq_true.mp z
        obtain ⟨n, hn, rfl⟩ := List.mem_map.mp m
        have := of_decide_eq_true q
        exact h2 (by have := Sum.inr.inj this; rw [← this]; exact hn)
    show mergeD (putKD (dcN ys f) (Sum.inr x) (f x)) (dcN xs f) = _
    rw [e, dcN_merge (by rw [List.append_assoc]; exact h), List.append_assoc]
    rfl
theorem dcN_new {f : Str → DV} {xs : List Str} (h : xs.Nodup) : mergeD [] (dcN xs f) = dcN xs f := dcN_merge (ys := []) h
theorem dcN_put {f : Str → DV} {xs : List Str} {n : Str} {d : DV} (h : n ∈ xs) : putKD (dcN xs f) (Sum.inr n) d = dcN xs fun m => if m = n then d else f m := by
  unfold putKD
  rw [if_pos]
  · unfold dcN
    rw [List.map_map]
    refine List.map_congr_left fun m _ => ?_
    show (if (Sum.inr m : Key) = Sum.inr n then _ else _) = _
    by_cases e : m = n
    · subst e; simp
    · rw [if_neg fun z => e (Sum.inr.inj z)]; simp [e]
  · refine List.any_eq_true.mpr ⟨(Sum.inr n, f n), List.mem_map.mpr ⟨n, h, rfl⟩, by simp⟩
theorem asPairs_N {f : Str → DV} : ∀ xs : List Str, asPairs (xs.map fun n => DV.tup [.str n, f n]) = some (dcN xs f)
  | [] => rfl
  | x :: xs => by
    show (match asKey (.str x), asPairs (xs.map fun n => DV.tup [.str n, f n]) with
      | some k, some ps => some ((k, f x) :: ps)
      | _, _ => none) = _
    rw [asPairs_N xs]
    rfl
theorem dictOf_N {f : Str → DV} {xs : List Str} (h : xs.Nodup) : dictOf [.lst (xs.map fun n => DV.tup [.str n, f n])] = .ok (dcN xs f) := by
  show (R.ofO (asPairs _)).bind _ = _
  rw [asPairs_N]
  show R.ok (mergeD [] _) = _
  rw [dcN_new h]
theorem flAll_N : ∀ xs : List Str, flAll (xs.map DV.str) = some (xs.map V.str)
  | [] => rfl
  | x :: xs => by
    show (match (DV.str x).fl, flAll (xs.map DV.str) with
      | some v, some vs => some (v :: vs)
      | _, _ => none) = _
    rw [flAll_N xs]; rfl
theorem inV_N {xs : List Str} {n : Str} : inV (.str n) (xs.map V.str) = decide (n ∈ xs) := by
  unfold inV
  rw [List.any_map]
  by_cases h : n ∈ xs
  · rw [decide_eq_true h]
    exact List.any_eq_true.mpr ⟨n, h, by simp [eqV]⟩
  · rw [decide_eq_false h]
    refine List.any_eq_false.mpr fun m hm => ?_
    intro z
    have : m = n := by simpa [eqV] using z
    exact h (this ▸ hm)
@[simp] theorem in_dcN {neg : Bool} {xs : List Str} {f : Str → DV} {n : Str} : oInU neg (.str n) (.dic (dcN xs f)) = .ok (.bl (if neg then !decide (n ∈ xs) else decide (n ∈ xs))) := by
  have e : isIn (.str n) (.dic (dcN xs f)) = some (decide (n ∈ xs)) := by
    show (some (valD (dcN xs f) (Sum.inr n))).map (·.isSome) = _
    by_cases h : n ∈ xs
    · rw [dcN_val h, decide_eq_true h]; rfl
    · rw [dcN_no h, decide_eq_false h]; rfl
  unfold oInU
  rw [e]
@[simp] theorem in_lstN {neg : Bool} {xs : List Str} {n : Str} : oInU neg (.str n) (.lst (xs.map DV.str)) = .ok (.bl (if neg then !decide (n ∈ xs) else decide (n ∈ xs))) := by
  have e : isIn (.str n) (.lst (xs.map DV.str)) = some (decide (n ∈ xs)) := by
    show (match (DV.str n).fl, flAll (xs.map DV.str) with
      | some v, some vs => some (inV v vs)
      | _, _ => none) = _
    rw [flAll_N]
    show some (inV (.str n) (xs.map V.str)) = _
    rw [inV_N]
  unfold oInU
  rw [e]
@[simp] theorem in_tupN {neg : Bool} {xs : List Str} {n : Str} : oInU neg (.str n) (.tup (xs.map DV.str)) = .ok (.bl (if neg then !decide (n ∈ xs) else decide (n ∈ xs))) := by
  have e : isIn (.str n) (.tup (xs.map DV.str)) = some (decide (n ∈ xs)) := by
    show (match (DV.str n).fl, flAll (xs.map DV.str) with
      | some v, some vs => some (inV v vs)
      | _, _ => none) = _
    rw [flAll_N]
    show some (inV (.str n) (xs.map V.str)) = _
    rw [inV_N]
  unfold oInU
  rw [e]
theorem ix_dcN {xs : List Str} {f : Str → DV} {n : Str} (h : n ∈ xs) : oIxU (.dic (dcN xs f)) (.str n) = .ok (f n) := by
  unfold oIxU
  rw [show dgetD (.dic (dcN xs f)) (.str n) = some (valD (dcN xs f) (Sum.inr n)) from rfl, dcN_val h]
@[simp] theorem ixU_l {xs : List DV} {i : Int} : oIxU (.lst xs) (.int i) = R.ofO (atI xs i) := rfl
@[simp] theorem ixU_t {xs : List DV} {i : Int} : oIxU (.tup xs) (.int i) = R.ofO (atI xs i) := rfl
@[simp] theorem ixU_r {xs : List DV} {i : Int} : oIxU (.ro xs) (.int i) = R.ofO (atI xs i) := rfl
@[simp] theorem lenU_d {kvs : List (Key × DV)} : oLenU [.dic kvs] = .ok (.int kvs.length) := rfl
@[simp] theorem lenU_l {xs : List DV} : oLenU [.lst xs] = .ok (.int xs.length) := rfl
@[simp] theorem lenU_t {xs : List DV} : oLenU [.tup xs] = .ok (.int xs.length) := rfl
@[simp] theorem lenU_r {xs : List DV} : oLenU [.ro xs] = .ok (.int xs.length) := rfl
@[simp] theorem listU_N {xs : List Str} {f : Str → DV} : oListU [.dic (dcN xs f)] = .ok (.lst (xs.map DV.str)) := by
  show R.ok (DV.lst _) = _
  rw [dcN_keys]
@[simp] theorem anyU_N {xs : List Str} {f : Str → DV} : asAnyU (.dic (dcN xs f)) = .ok (xs.map DV.str) := by
  show R.ok _ = _
  rw [dcN_keys]
@[simp] theorem anyU_l {xs : List DV} : asAnyU (.lst xs) = .ok xs := rfl
@[simp] theorem anyU_t {xs : List DV} : asAnyU (.tup xs) = .ok xs := rfl
@[simp] theorem dicI_N {xs : List Str} {f : Str → DV} : asDicI (.dic (dcN xs f)) = .ok (xs.map fun n => .tup [.str n, f n]) := by
  show R.ok _ = _
  unfold dcN
  rw [List.map_map]
  rfl
end
/-! ### == of the same -/
theorem eqW_same {neg : Bool} {d : DV} {p : PyData} (h : toPy d = some p) (hs : SeqAt.shaped p = true) : oEqW neg d d = .ok (.bl (if neg then false else true)) := by
  unfold oEqW
  rw [h]
  dsimp only
  rw [hs, Bool.and_self, if_pos rfl, SeqAt.eqv_refl p (SeqAt.canLay_of_shaped hs)]
  cases neg <;> rfl
/-- can be compared, not deeper than n -/
def cmp : Nat → DV → Bool
  | _, .non => true
  | _, .bl _ => true
  | _, .int _ => true
  | _, .str x => PyData.canLay0 (.str x)
  | n + 1, .tup xs => xs.all (cmp n)
  | n + 1, .lst xs => xs.all (cmp n)
  | _, _ => false
theorem cmps_ok {n : Nat} (h : ∀ d, cmp n d = true → ∃ p, toPy d = some p ∧ p.canLay0 = true ∧ p.depth ≤ n) : ∀ xs : List DV, xs.all (cmp n) = true → ∃ ps, toPys xs = some ps ∧ PyData.canLayAll0 ps = true ∧ PyData.depthAll ps ≤ n
  | [], _ => ⟨[], rfl, rfl, by simp [PyData.depthAll]⟩
  | x :: xs, q => by
    rw [List.all_cons, Bool.and_eq_true] at q
    obtain ⟨p, h1, h2, h3⟩ := h x q.1
    obtain ⟨ps, g1, g2, g3⟩ := cmps_ok h xs q.2
    refine ⟨p :: ps, ?_, ?_, ?_⟩
    · show (match toPy x, toPys xs with
        | some p, some ps => some (p :: ps)
        | _, _ => none) = _
      rw [h1, g1]
    · show (p.canLay0 && PyData.canLayAll0 ps) = true
      rw [h2, g2]; rfl
    · simp only [PyData.depthAll]; omega
theorem cmp_ok : ∀ (n : Nat) (d : DV), cmp n d = true → ∃ p, toPy d = some p ∧ p.canLay0 = true ∧ p.depth ≤ n
  | n, .non, _ => ⟨.none, rfl, rfl, by simp [PyData.depth]⟩
  | n, .bl b, _ => ⟨.bool b, rfl, rfl, by simp [PyData.depth]⟩
  | n, .int b, _ => ⟨.int b, rfl, rfl, by simp [PyData.depth]⟩
  | n, .str x, h => ⟨.str x, rfl, by cases n <;> exact h, by simp [PyData.depth]⟩
  | n + 1, .tup xs, h => by
    obtain ⟨ps, h1, h2, h3⟩ := cmps_ok (cmp_ok n) xs h
    refine ⟨.tuple ps, by show (toPys xs).map _ = _; rw [h1]; rfl, h2, ?_⟩
    show PyData.depthAll ps + 1 ≤ _
    omega
  | n + 1, .lst xs, h => by
    obtain ⟨ps, h1, h2, h3⟩ := cmps_ok (cmp_ok n) xs h
    refine ⟨.list ps, by show (toPys xs).map _ = _; rw [h1]; rfl, h2, ?_⟩
    show PyData.depthAll ps + 1 ≤ _
    omega
  | 0, .tup _, h => nomatch h
  | 0, .lst _, h => nomatch h
  | 0, .ro _, h => nomatch h
  | 0, .dic _, h => nomatch h
  | 0, .dit _, h => nomatch h
  | 0, .obj _ _, h => nomatch h
  | _ + 1, .ro _, h => nomatch h
  | _ + 1, .dic _, h => nomatch h
  | _ + 1, .dit _, h => nomatch h
  | _ + 1, .obj _ _, h => nomatch h
theorem ne_same {d : DV} (h : cmp 8 d = true) : oNe d d = .ok (.bl false) := by
  obtain ⟨p, h1, h2, h3⟩ := cmp_ok 8 d h
  exact eqW_same (neg := true) h1 (by unfold SeqAt.shaped; rw [h2, decide_eq_true (by omega)]; rfl)
theorem eq_same {d : DV} (h : cmp 8 d = true) : oEq d d = .ok (.bl true) := by
  obtain ⟨p, h1, h2, h3⟩ := cmp_ok 8 d h
  exact eqW_same (neg := false) h1 (by unfold SeqAt.shaped; rw [h2, decide_eq_true (by omega)]; rfl)
theorem cmp_strs {n : Nat} {xs : List Str} (h : ∀ x ∈ xs, PyData.canLay0 (.str x) = true) : (xs.map DV.str).all (cmp n) = true := by
  rw [List.all_map, List.all_eq_true]
  intro x hx
  cases n <;> exact h x hx
theorem cmp_ints {n : Nat} {xs : List Int} : (xs.map DV.int).all (cmp n) = true := by
  rw [List.all_map, List.all_eq_true]
  intro x hx
  cases n <;> rfl
/-! ### the same dict -/
theorem dic_same {xs : List Str} {f : Str → Int} {neg : Bool} : oDicS neg (.dic (dcN xs fun n => .int (f n))) (.dic (dcN xs fun n => .int (f n))) = .ok (.bl (!neg)) := by
  show (if dicSame _ _ = true then _ else _) = _
  rw [if_pos]
  unfold dicSame
  rw [decide_eq_true rfl, Bool.true_and, List.all_eq_true]
  intro p hp
  obtain ⟨n, hn, rfl⟩ := List.mem_map.mp hp
  rw [dcN_val hn]
  simp [flSame]
/-- a comprehension's dict of names -/
theorem dcD_N {g : DV → Ev → R Ev} {fk fv : Ev → R DV} {δ : Ev} {h : Str → DV} {e : Str → DV} : ∀ {xs : List Str}, (∀ n ∈ xs, ∃ δ', g (e n) δ = .ok δ' ∧ fk δ' = .ok (.str n) ∧ fv δ' = .ok (h n)) → dcD g xYes fk fv δ (xs.map e) = .ok (dcN xs h)
  | [], _ => rfl
  | x :: xs, q => by
    obtain ⟨δ', h1, h2, h3⟩ := q x List.mem_cons_self
    rw [List.map_cons]
    unfold dcD
    rw [h1]
    dsimp only
    rw [show xYes δ' = .ok true from rfl, h2, h3]
    simp only [noX, R.bind_ok, if_true]
    rw [dcD_N fun n hn => q n (List.mem_cons_of_mem _ hn)]
    rfl
/-- a comprehension over rows -/
theorem lcD_N {α : Type} {g : DV → Ev → R Ev} {fe : Ev → R DV} {δ : Ev} {h : α → DV} {e : α → DV} : ∀ {xs : List α}, (∀ n ∈ xs, ∃ δ', g (e n) δ = .ok δ' ∧ fe δ' = .ok (h n)) → lcD g xYes fe δ (xs.map e) = .ok (xs.map h)
  | [], _ => rfl
  | x :: xs, q => by
    obtain ⟨δ', h1, h3⟩ := q x List.mem_cons_self
    rw [List.map_cons]
    unfold lcD
    rw [h1]
    dsimp only
    rw [show xYes δ' = .ok true from rfl, h3]
    simp only [noX, R.bind_ok, if_true]
    rw [lcD_N fun n hn => q n (List.mem_cons_of_mem _ hn)]
    rfl
/-- with an if -/
theorem lcD_F {α : Type} {g : DV → Ev → R Ev} {ft : Ev → R Bool} {fe : Ev → R DV} {δ : Ev} {h : α → DV} {e : α → DV} {p : α → Bool} : ∀ {xs : List α}, (∀ n ∈ xs, ∃ δ', g (e n) δ = .ok δ' ∧ ft δ' = .ok (p n) ∧ fe δ' = .ok (h n)) → lcD g ft fe δ (xs.map e) = .ok ((xs.filter p).map h)
  | [], _ => rfl
  | x :: xs, q => by
    obtain ⟨δ', h1, h2, h3⟩ := q x List.mem_cons_self
    have ih := lcD_F (xs := xs) fun n hn => q n (List.mem_cons_of_mem _ hn)
    rw [List.map_cons]
    unfold lcD
    rw [h1]
    dsimp only
    rw [h2, List.filter_cons]
    cases hp : p x with
    | true =>
      simp only [noX, R.bind_ok, if_true]
      rw [h3]
      simp only [noX, R.bind_ok]
      rw [ih]
      rfl
    | false =>
      simp only [noX, R.bind_ok, Bool.false_eq_true, if_false]
      exact ih
theorem all_bls {α : Type} {xs : List α} {p : α → Bool} : oAll [.lst (xs.map fun x => DV.bl (p x))] = .ok (.bl (xs.all p)) := by
  have : xs.map (fun x => DV.bl (p x)) = (xs.map p).map DV.bl := by rw [List.map_map]; rfl
  rw [this, o_all, List.all_map]
  rfl
/-- a loop that goes on as it is -/
theorem forD_N {α : Type} {g : DV → Ev → R Ev} {F : Ev → SR} {e : α → DV} (I : Ev → Prop) : ∀ {xs : List α}, (∀ n ∈ xs, ∀ δ, I δ → ∃ δ1 δ2, g (e n) δ = .ok δ1 ∧ F δ1 = .nx δ2 ∧ I δ2) → ∀ δ, I δ → ∃ δ', forD g F (xs.map e) δ = .nx δ' ∧ I δ'
  | [], _, δ, i => ⟨δ, rfl, i⟩
  | x :: xs, q, δ, i => by
    obtain ⟨δ1, δ2, h1, h2, h3⟩ := q x List.mem_cons_self δ i
    obtain ⟨δ', h4, h5⟩ := forD_N I (xs := xs) (fun n hn => q n (List.mem_cons_of_mem _ hn)) δ2 h3
    refine ⟨δ', ?_, h5⟩
    rw [List.map_cons]
    unfold forD
    rw [h1]
    dsimp only
    rw [h2]
    exact h4
/-- a loop that gathers: what stands after the rows ys; never more than m -/
theorem forD_G {α : Type} {g : DV → Ev → R Ev} {F : Ev → SR} {e : α → DV} {m : Nat} (I : List α → Ev → Prop) : ∀ {xs ys : List α}, ys.length + xs.length ≤ m → (∀ n ∈ xs, ∀ zs δ, zs.length < m → I zs δ → ∃ δ1 δ2, g (e n) δ = .ok δ1 ∧ F δ1 = .nx δ2 ∧ I (zs ++ [n]) δ2) → ∀ δ, I ys δ → ∃ δ', forD g F (xs.map e) δ = .nx δ' ∧ I (ys ++ xs) δ'
  | [], ys, _, _, δ, i => ⟨δ, rfl, by rw [List.append_nil]; exact i⟩
  | x :: xs, ys, hm, q, δ, i => by
    rw [List.length_cons] at hm
    obtain ⟨δ1, δ2, h1, h2, h3⟩ := q x List.mem_cons_self ys δ (by omega) i
    obtain ⟨δ', h4, h5⟩ := forD_G I (xs := xs) (ys := ys ++ [x]) (by rw [List.length_append, List.length_singleton]; omega) (fun n hn => q n (List.mem_cons_of_mem _ hn)) δ2 h3
    refine ⟨δ', ?_, by rw [List.append_assoc] at h5; exact h5⟩
    rw [List.map_cons]
    unfold forD
    rw [h1]
    dsimp only
    rw [h2]
    exact h4
theorem atI_get {α : Type} (xs : List α) (d : α) {i : Int} (h0 : 0 ≤ i) (h : i < xs.length) : atI xs i = some (xs.getD i.toNat d) := by
  have h3 : i.toNat < xs.length := by omega
  unfold atI
  rw [ixN_lt h0 h]
  show xs[i.toNat]? = _
  rw [List.getD_eq_getElem?_getD, List.getElem?_eq_getElem h3]
  rfl
theorem atI_map {α β : Type} (f : α → β) (xs : List α) (i : Int) : atI (xs.map f) i = (atI xs i).map f := by
  unfold atI
  rw [List.length_map]
  cases ixN xs.length i with
  | none => rfl
  | some k =>
    show (List.map f xs)[k]? = (xs[k]?).map f
    rw [List.getElem?_map]
theorem getD_mem {α : Type} (xs : List α) (d : α) {i : Nat} (h : i < xs.length) : xs.getD i d ∈ xs := by
  rw [List.getD_eq_getElem?_getD, List.getElem?_eq_getElem h]
  exact List.getElem_mem h
theorem getD_ne {α : Type} {xs : List α} {d : α} (hn : xs.Nodup) {i j : Nat} (hi : i < xs.length) (hj : j < xs.length) (h : i ≠ j) : xs.getD i d ≠ xs.getD j d := by
  rw [List.getD_eq_getElem?_getD, List.getD_eq_getElem?_getD, List.getElem?_eq_getElem hi, List.getElem?_eq_getElem hj]
  intro e
  have e : xs[i] = xs[j] := e
  rcases Nat.lt_or_gt_of_ne h with q | q
  · exact List.pairwise_iff_getElem.mp hn i j hi hj q e
  · exact List.pairwise_iff_getElem.mp hn j i hj hi q e.symm
@[simp] theorem e_sParLL {i j : Nat} {δ : Ev} : sParLL i j δ = .nx ((δ.set i (.ol [])).set j (.ol [])) := rfl
@[simp] theorem e_sApp4 {a : Ev → R DV} {s0 s1 s2 s3 : Sl} {ds : List DV} {r : Ev} : sApp 4 a (s0 :: s1 :: s2 :: s3 :: .ol ds :: r) = xS (a (s0 :: s1 :: s2 :: s3 :: .ol ds :: r)) (s0 :: s1 :: s2 :: s3 :: .ol ds :: r) fun d => if Nat.blt ds.length 16777216 = true then .nx (s0 :: s1 :: s2 :: s3 :: .ol (ds ++ [d]) :: r) else .bad := rfl
@[simp] theorem e_sApp5 {a : Ev → R DV} {s0 s1 s2 s3 s4 : Sl} {ds : List DV} {r : Ev} : sApp 5 a (s0 :: s1 :: s2 :: s3 :: s4 :: .ol ds :: r) = xS (a (s0 :: s1 :: s2 :: s3 :: s4 :: .ol ds :: r)) (s0 :: s1 :: s2 :: s3 :: s4 :: .ol ds :: r) fun d => if Nat.blt ds.length 16777216 = true then .nx (s0 :: s1 :: s2 :: s3 :: s4 :: .ol (ds ++ [d]) :: r) else .bad := rfl
@[simp] theorem e_sApp2 {a : Ev → R DV} {s0 s1 : Sl} {ds : List DV} {r : Ev} : sApp 2 a (s0 :: s1 :: .ol ds :: r) = xS (a (s0 :: s1 :: .ol ds :: r)) (s0 :: s1 :: .ol ds :: r) fun d => if Nat.blt ds.length 16777216 = true then .nx (s0 :: s1 :: .ol (ds ++ [d]) :: r) else .bad := rfl
@[simp] theorem e_sExt2 {a : Ev → R DV} {s0 s1 : Sl} {ds : List DV} {r : Ev} : sExt 2 a (s0 :: s1 :: .ol ds :: r) = xS (a (s0 :: s1 :: .ol ds :: r)) (s0 :: s1 :: .ol ds :: r) fun d => (match d with
    | .lst es => if Nat.ble (ds.length + es.length) 16777216 then .nx (s0 :: s1 :: .ol (ds ++ es) :: r) else .bad
    | _ => .bad) := rfl
@[simp] theorem e_frz2 {s0 s1 : Sl} {ds : List DV} {r : Ev} : frz (s0 :: s1 :: .ol ds :: r) 2 = s0 :: s1 :: .pu (.lst ds) :: r := rfl
@[simp] theorem e_frz4 {s0 s1 s2 s3 : Sl} {ds : List DV} {r : Ev} : frz (s0 :: s1 :: s2 :: s3 :: .ol ds :: r) 4 = s0 :: s1 :: s2 :: s3 :: .pu (.lst ds) :: r := rfl
@[simp] theorem e_frz5 {s0 s1 s2 s3 s4 : Sl} {ds : List DV} {r : Ev} : frz (s0 :: s1 :: s2 :: s3 :: s4 :: .ol ds :: r) 5 = s0 :: s1 :: s2 :: s3 :: s4 :: .pu (.lst ds) :: r := rfl
theorem blt_ok {n : Nat} (h : n < 16777216) : Nat.blt n 16777216 = true := Nat.ble_eq_true_of_le h
theorem o_ixget {xs : List DV} (d : DV) {i : Int} (h0 : 0 ≤ i) (h : i < xs.length) : oIxU (.lst xs) (.int i) = .ok (xs.getD i.toNat d) := by
  show R.ofO (atI xs i) = _
  rw [atI_get xs d h0 h]; rfl
theorem o_ixstr {xs : List Str} {i : Int} (h0 : 0 ≤ i) (h : i < xs.length) : oIxU (.lst (xs.map DV.str)) (.int i) = .ok (.str (xs.getD i.toNat "")) := by
  show R.ofO (atI _ i) = _
  rw [atI_map, atI_get xs "" h0 h]; rfl
@[simp] theorem slL {xs : List DV} {l u : Option Int} : oSl (.lst xs) l u = .ok (.lst (cutD xs l u)) := rfl
@[simp] theorem slT {xs : List DV} {l u : Option Int} : oSl (.tup xs) l u = .ok (.tup (cutD xs l u)) := rfl
@[simp] theorem e_xTup0 : xTup xNil = fun _ => .ok (.tup []) := rfl
/-! ### instances -/
def fldO (cs : List Str) (f : Str) : DV → R DV
  | .obj c fs => if cs.contains c then R.ofO (fs.lookup f) else .bad
  | _ => .bad
@[simp] theorem e_xFld {cs : List Str} {f : Str} {fa : Ev → R DV} {δ : Ev} : xFld cs f fa δ = (fa δ).bind (fldO cs f) := by
  unfold xFld
  congr 1
def prpO (cs : List Str) (m : Mir) : DV → R DV
  | .obj c fs => if cs.contains c then noX (m [.obj c fs]) else .bad
  | _ => .bad
@[simp] theorem e_xProps {cs : List Str} {m : Mir} {fa : Ev → R DV} {δ : Ev} : xProps cs m fa δ = (fa δ).bind (prpO cs m) := by
  unfold xProps
  congr 1
def conO (tab : List (Str × DV)) (f : Str) : DV → R DV
  | .obj c fs => (match fs.lookup f with
    | some _ => .bad
    | none => R.ofO (tab.lookup c))
  | _ => .bad
@[simp] theorem e_xCon {tab : List (Str × DV)} {f : Str} {fa : Ev → R DV} {δ : Ev} : xCon tab f fa δ = (fa δ).bind (conO tab f) := by
  unfold xCon
  congr 1
theorem e_xMeth {c mn : Str} {m : Mir} {fo : Ev → R DV} {fes : Ev → R (List DV)} {δ : Ev} {fs : List (Str × DV)} (h : fo δ = .ok (.obj c fs)) (hl : fs.lookup mn = none) : xMeth c mn m fo fes δ = (fes δ).bind fun ds => m (.obj c fs :: ds) := by
  unfold xMeth
  rw [h]
  show (if c = c then (match fs.lookup mn with
    | none => (fes δ).bind fun ds => m (.obj c fs :: ds)
    | some _ => .bad) else .bad) = _
  rw [if_pos rfl, hl]
theorem e_xCallO {c : Str} {m : Mir} {i : Nat} {fes : Ev → R (List DV)} {δ : Ev} {fs : List (Str × DV)} (h : xVar i δ = .ok (.obj c fs)) : xCallO c m i fes δ = (fes δ).bind fun ds => m (.obj c fs :: ds) := by
  unfold xCallO
  rw [h]
  show (if c = c then _ else _) = _
  rw [if_pos rfl]
@[simp] theorem e_xDic {f : Ev → R (List (Key × DV))} {δ : Ev} : xDic f δ = (f δ).bind fun kvs => .ok (.dic kvs) := rfl
@[simp] theorem e_xDict {fes : Ev → R (List DV)} {δ : Ev} : xDict fes δ = (fes δ).bind dictOf := rfl
@[simp] theorem dictOf_d {kvs : List (Key × DV)} : dictOf [.dic kvs] = .ok kvs := rfl
@[simp] theorem o_tupl {xs : List DV} : oTuple [.lst xs] = .ok (.tup xs) := rfl
@[simp] theorem o_listt {xs : List DV} : oListU [.tup xs] = .ok (.lst xs) := rfl
@[simp] theorem o_lastt {xs : List DV} : oListU [.lst xs] = .ok (.lst xs) := rfl
theorem oInV_ev {neg : Bool} {c : Str} {m : Mir} {x : DV} {fs : List (Str × DV)} {b : Bool} (h : m [.obj c fs, x] = .ok (.bl b)) : oInV neg c m x (.obj c fs) = .ok (.bl (if neg then !b else b)) := by
  unfold oInV
  dsimp only
  rw [if_pos rfl, h]
theorem oLenV_ev {c : Str} {m : Mir} {fs : List (Str × DV)} {n : Int} (h : m [.obj c fs] = .ok (.int n)) (h0 : 0 ≤ n) (h1 : n < 2 ^ 63) : oLenV c m [.obj c fs] = .ok (.int n) := by
  unfold oLenV
  dsimp only
  rw [if_pos rfl, h]
  dsimp only
  rw [decide_eq_true h0, decide_eq_true h1]
  rfl
theorem oNeO_ev {cs : List Str} {m : Mir} {c c' : Str} {fs gs : List (Str × DV)} {b : Bool} (hc : (cs.contains c && cs.contains c') = true) (h : m [.obj c fs, .obj c' gs] = .ok (.bl b)) : oNeO cs m (.obj c fs) (.obj c' gs) = .ok (.bl (!b)) := by
  unfold oNeO oEqO
  dsimp only
  rw [if_pos hc, h]
  rfl
theorem seq_go {F F' : Ev → SR} {δ δ' : Ev} (h : F δ = .nx δ') : sSeq F F' δ = F' δ' := by
  rw [e_sSeq, h]; rfl
theorem seq_out {F F' : Ev → SR} {δ δ' : Ev} {r : R DV} (h : F δ = .nx δ') (k : outR (F' δ') = r) : outR (sSeq F F' δ) = r := by
  rw [seq_go h]; exact k
end LD

set_option maxHeartbeats 0
/-! Printed by wip/gen/gen.py: the defs' mirrors and derivations. -/
namespace G31
open PySem PySem.Spec PyProof.Rows L2 LD LG
abbrev PP : Program := PySem.Challenge.pw_surelater_k31_whole_logs
def top (i : Nat) : Stmt := PP.main.body.getD i (.Pass ⟨0, 0, 0, 0⟩)
def sub (s : Stmt) (j : Nat) : Stmt := match s with
  | .ClassDef (body := b) .. => b.getD j (.Pass ⟨0, 0, 0, 0⟩)
  | _ => .Pass ⟨0, 0, 0, 0⟩
abbrev s__law_cell_at : Stmt := top 37
def d__law_cell_at : DefE := { at_ := .glo "_law_cell_at", name := "_law_cell_at", qual := "_law_cell_at", params := defArgs s__law_cell_at, body := defBody s__law_cell_at, scope := defScope s__law_cell_at }
abbrev s__law_log : Stmt := top 38
def d__law_log : DefE := { at_ := .glo "_law_log", name := "_law_log", qual := "_law_log", params := defArgs s__law_log, body := defBody s__law_log, scope := defScope s__law_log }
abbrev s_Log_contains : Stmt := sub (top 25) 8
def d_Log_contains : DefE := { at_ := .meth "Log" "__contains__", name := "__contains__", qual := "Log.__contains__", params := defArgs s_Log_contains, body := defBody s_Log_contains, scope := defScope s_Log_contains }
abbrev s_is_name : Stmt := top 16
def d_is_name : DefE := { at_ := .glo "is_name", name := "is_name", qual := "is_name", params := defArgs s_is_name, body := defBody s_is_name, scope := defScope s_is_name }
abbrev s_are_names : Stmt := top 22
def d_are_names : DefE := { at_ := .glo "are_names", name := "are_names", qual := "are_names", params := defArgs s_are_names, body := defBody s_are_names, scope := defScope s_are_names }
abbrev s_is_event_of : Stmt := top 23
def d_is_event_of : DefE := { at_ := .glo "is_event_of", name := "is_event_of", qual := "is_event_of", params := defArgs s_is_event_of, body := defBody s_is_event_of, scope := defScope s_is_event_of }
abbrev s_is_fact_of : Stmt := top 24
def d_is_fact_of : DefE := { at_ := .glo "is_fact_of", name := "is_fact_of", qual := "is_fact_of", params := defArgs s_is_fact_of, body := defBody s_is_fact_of, scope := defScope s_is_fact_of }
abbrev s_Log_init : Stmt := sub (top 25) 0
def d_Log_init : DefE := { at_ := .meth "Log" "__init__", name := "__init__", qual := "Log.__init__", params := defArgs s_Log_init, body := defBody s_Log_init, scope := defScope s_Log_init }
abbrev s_is_whole : Stmt := top 15
def d_is_whole : DefE := { at_ := .glo "is_whole", name := "is_whole", qual := "is_whole", params := defArgs s_is_whole, body := defBody s_is_whole, scope := defScope s_is_whole }
abbrev s_is_integer : Stmt := top 14
def d_is_integer : DefE := { at_ := .glo "is_integer", name := "is_integer", qual := "is_integer", params := defArgs s_is_integer, body := defBody s_is_integer, scope := defScope s_is_integer }
abbrev s_Event_init : Stmt := sub (top 17) 0
def d_Event_init : DefE := { at_ := .meth "Event" "__init__", name := "__init__", qual := "Event.__init__", params := defArgs s_Event_init, body := defBody s_Event_init, scope := defScope s_Event_init }
abbrev s_Fact_init : Stmt := sub (top 18) 1
def d_Fact_init : DefE := { at_ := .meth "Fact" "__init__", name := "__init__", qual := "Fact.__init__", params := defArgs s_Fact_init, body := defBody s_Fact_init, scope := defScope s_Fact_init }
abbrev s_After_init : Stmt := sub (top 19) 1
def d_After_init : DefE := { at_ := .meth "After" "__init__", name := "__init__", qual := "After.__init__", params := defArgs s_After_init, body := defBody s_After_init, scope := defScope s_After_init, sup := some ("After", "Fact") }
abbrev s_Close_init : Stmt := sub (top 21) 1
def d_Close_init : DefE := { at_ := .meth "Close" "__init__", name := "__init__", qual := "Close.__init__", params := defArgs s_Close_init, body := defBody s_Close_init, scope := defScope s_Close_init, sup := some ("Close", "Fact") }
abbrev s_Within_init : Stmt := sub (top 20) 1
def d_Within_init : DefE := { at_ := .meth "Within" "__init__", name := "__init__", qual := "Within.__init__", params := defArgs s_Within_init, body := defBody s_Within_init, scope := defScope s_Within_init, sup := some ("Within", "Fact") }
abbrev s__law_fact : Stmt := top 39
def d__law_fact : DefE := { at_ := .glo "_law_fact", name := "_law_fact", qual := "_law_fact", params := defArgs s__law_fact, body := defBody s__law_fact, scope := defScope s__law_fact }
abbrev s__law_whole : Stmt := top 40
def d__law_whole : DefE := { at_ := .glo "_law_whole", name := "_law_whole", qual := "_law_whole", params := defArgs s__law_whole, body := defBody s__law_whole, scope := defScope s__law_whole }
abbrev s_Log_len : Stmt := sub (top 25) 5
def d_Log_len : DefE := { at_ := .meth "Log" "__len__", name := "__len__", qual := "Log.__len__", params := defArgs s_Log_len, body := defBody s_Log_len, scope := defScope s_Log_len }
abbrev s__law_sets : Stmt := top 41
def d__law_sets : DefE := { at_ := .glo "_law_sets", name := "_law_sets", qual := "_law_sets", params := defArgs s__law_sets, body := defBody s__law_sets, scope := defScope s__law_sets }
abbrev s_check_fact : Stmt := top 28
def d_check_fact : DefE := { at_ := .glo "check_fact", name := "check_fact", qual := "check_fact", params := defArgs s_check_fact, body := defBody s_check_fact, scope := defScope s_check_fact }
abbrev s_Log_fact : Stmt := sub (top 25) 10
def d_Log_fact : DefE := { at_ := .meth "Log" "fact", name := "fact", qual := "Log.fact", params := defArgs s_Log_fact, body := defBody s_Log_fact, scope := defScope s_Log_fact }
abbrev s_are_offsets : Stmt := top 30
def d_are_offsets : DefE := { at_ := .glo "are_offsets", name := "are_offsets", qual := "are_offsets", params := defArgs s_are_offsets, body := defBody s_are_offsets, scope := defScope s_are_offsets }
abbrev s_check_offsets : Stmt := top 31
def d_check_offsets : DefE := { at_ := .glo "check_offsets", name := "check_offsets", qual := "check_offsets", params := defArgs s_check_offsets, body := defBody s_check_offsets, scope := defScope s_check_offsets }
abbrev s_times_of : Stmt := top 32
def d_times_of : DefE := { at_ := .glo "times_of", name := "times_of", qual := "times_of", params := defArgs s_times_of, body := defBody s_times_of, scope := defScope s_times_of }
abbrev s_Log_call : Stmt := sub (top 25) 9
def d_Log_call : DefE := { at_ := .meth "Log" "__call__", name := "__call__", qual := "Log.__call__", params := defArgs s_Log_call, body := defBody s_Log_call, scope := defScope s_Log_call }
abbrev s_Log_machines : Stmt := sub (top 25) 1
def d_Log_machines : DefE := { at_ := .prop "Log" "machines", name := "machines", qual := "Log.machines", params := defArgs s_Log_machines, body := defBody s_Log_machines, scope := defScope s_Log_machines }
abbrev s_Log_events : Stmt := sub (top 25) 2
def d_Log_events : DefE := { at_ := .prop "Log" "events", name := "events", qual := "Log.events", params := defArgs s_Log_events, body := defBody s_Log_events, scope := defScope s_Log_events }
abbrev s_Log_facts : Stmt := sub (top 25) 3
def d_Log_facts : DefE := { at_ := .prop "Log" "facts", name := "facts", qual := "Log.facts", params := defArgs s_Log_facts, body := defBody s_Log_facts, scope := defScope s_Log_facts }
abbrev s_longer : Stmt := top 26
def d_longer : DefE := { at_ := .glo "longer", name := "longer", qual := "longer", params := defArgs s_longer, body := defBody s_longer, scope := defScope s_longer }
abbrev s_Log_subsets : Stmt := sub (top 25) 11
def d_Log_subsets : DefE := { at_ := .meth "Log" "subsets", name := "subsets", qual := "Log.subsets", params := defArgs s_Log_subsets, body := defBody s_Log_subsets, scope := defScope s_Log_subsets }
abbrev s_Fact_eq : Stmt := sub (top 18) 4
def d_Fact_eq : DefE := { at_ := .meth "Fact" "__eq__", name := "__eq__", qual := "Fact.__eq__", params := defArgs s_Fact_eq, body := defBody s_Fact_eq, scope := defScope s_Fact_eq }
abbrev s_Event_machine : Stmt := sub (top 17) 1
def d_Event_machine : DefE := { at_ := .prop "Event" "machine", name := "machine", qual := "Event.machine", params := defArgs s_Event_machine, body := defBody s_Event_machine, scope := defScope s_Event_machine }
abbrev s_Event_time : Stmt := sub (top 17) 2
def d_Event_time : DefE := { at_ := .prop "Event" "time", name := "time", qual := "Event.time", params := defArgs s_Event_time, body := defBody s_Event_time, scope := defScope s_Event_time }
abbrev s_Fact_names : Stmt := sub (top 18) 2
def d_Fact_names : DefE := { at_ := .prop "Fact" "names", name := "names", qual := "Fact.names", params := defArgs s_Fact_names, body := defBody s_Fact_names, scope := defScope s_Fact_names }
abbrev s_Fact_numbers : Stmt := sub (top 18) 3
def d_Fact_numbers : DefE := { at_ := .prop "Fact" "numbers", name := "numbers", qual := "Fact.numbers", params := defArgs s_Fact_numbers, body := defBody s_Fact_numbers, scope := defScope s_Fact_numbers }
abbrev s__law_is_true : Stmt := top 42
def d__law_is_true : DefE := { at_ := .glo "_law_is_true", name := "_law_is_true", qual := "_law_is_true", params := defArgs s__law_is_true, body := defBody s__law_is_true, scope := defScope s__law_is_true }
abbrev s_check_log : Stmt := top 27
def d_check_log : DefE := { at_ := .glo "check_log", name := "check_log", qual := "check_log", params := defArgs s_check_log, body := defBody s_check_log, scope := defScope s_check_log }
abbrev s_check_set : Stmt := top 29
def d_check_set : DefE := { at_ := .glo "check_set", name := "check_set", qual := "check_set", params := defArgs s_check_set, body := defBody s_check_set, scope := defScope s_check_set }
abbrev s_rows_of : Stmt := top 33
def d_rows_of : DefE := { at_ := .glo "rows_of", name := "rows_of", qual := "rows_of", params := defArgs s_rows_of, body := defBody s_rows_of, scope := defScope s_rows_of }
abbrev s_are_fitting : Stmt := top 34
def d_are_fitting : DefE := { at_ := .glo "are_fitting", name := "are_fitting", qual := "are_fitting", params := defArgs s_are_fitting, body := defBody s_are_fitting, scope := defScope s_are_fitting }
abbrev s_fits : Stmt := top 35
def d_fits : DefE := { at_ := .glo "fits", name := "fits", qual := "fits", params := defArgs s_fits, body := defBody s_fits, scope := defScope s_fits }
abbrev s_Log_getitem : Stmt := sub (top 25) 6
def d_Log_getitem : DefE := { at_ := .meth "Log" "__getitem__", name := "__getitem__", qual := "Log.__getitem__", params := defArgs s_Log_getitem, body := defBody s_Log_getitem, scope := defScope s_Log_getitem }
abbrev s_law : Stmt := top 43
def d_law : DefE := { at_ := .glo "law", name := "law", qual := "law", params := defArgs s_law, body := defBody s_law, scope := defScope s_law }
def T0 : List (Tg × Bool) := [(.ty "NoneType", false), (.ty "bool", false), (.ty "int", false), (.ty "str", true), (.ty "tuple", false), (.ty "list", false), (.ty "dict", false), (.own "Event", false), (.own "After", false), (.own "Within", false), (.own "Close", false), (.own "Log", false)]
@[simp] theorem T0_non  : oIsi T0 (.non) = .ok (.bl false) := rfl
@[simp] theorem T0_bl {b : Bool} : oIsi T0 (.bl b) = .ok (.bl false) := rfl
@[simp] theorem T0_int {b : Int} : oIsi T0 (.int b) = .ok (.bl false) := rfl
@[simp] theorem T0_str {b : Str} : oIsi T0 (.str b) = .ok (.bl true) := rfl
@[simp] theorem T0_tup {b : List DV} : oIsi T0 (.tup b) = .ok (.bl false) := rfl
@[simp] theorem T0_lst {b : List DV} : oIsi T0 (.lst b) = .ok (.bl false) := rfl
@[simp] theorem T0_ro {b : List DV} : oIsi T0 (.ro b) = .ok (.bl false) := rfl
@[simp] theorem T0_dic {b : List (Key × DV)} : oIsi T0 (.dic b) = .ok (.bl false) := rfl
@[simp] theorem T0_Event {b : List (Str × DV)} : oIsi T0 (.obj "Event" b) = .ok (.bl false) := rfl
@[simp] theorem T0_After {b : List (Str × DV)} : oIsi T0 (.obj "After" b) = .ok (.bl false) := rfl
@[simp] theorem T0_Within {b : List (Str × DV)} : oIsi T0 (.obj "Within" b) = .ok (.bl false) := rfl
@[simp] theorem T0_Close {b : List (Str × DV)} : oIsi T0 (.obj "Close" b) = .ok (.bl false) := rfl
@[simp] theorem T0_Log {b : List (Str × DV)} : oIsi T0 (.obj "Log" b) = .ok (.bl false) := rfl
def T1 : List (Tg × Bool) := [(.ty "NoneType", false), (.ty "bool", false), (.ty "int", false), (.ty "str", false), (.ty "tuple", true), (.ty "list", false), (.ty "dict", false), (.own "Event", false), (.own "After", false), (.own "Within", false), (.own "Close", false), (.own "Log", false)]
@[simp] theorem T1_non  : oIsi T1 (.non) = .ok (.bl false) := rfl
@[simp] theorem T1_bl {b : Bool} : oIsi T1 (.bl b) = .ok (.bl false) := rfl
@[simp] theorem T1_int {b : Int} : oIsi T1 (.int b) = .ok (.bl false) := rfl
@[simp] theorem T1_str {b : Str} : oIsi T1 (.str b) = .ok (.bl false) := rfl
@[simp] theorem T1_tup {b : List DV} : oIsi T1 (.tup b) = .ok (.bl true) := rfl
@[simp] theorem T1_lst {b : List DV} : oIsi T1 (.lst b) = .ok (.bl false) := rfl
@[simp] theorem T1_ro {b : List DV} : oIsi T1 (.ro b) = .ok (.bl false) := rfl
@[simp] theorem T1_dic {b : List (Key × DV)} : oIsi T1 (.dic b) = .ok (.bl false) := rfl
@[simp] theorem T1_Event {b : List (Str × DV)} : oIsi T1 (.obj "Event" b) = .ok (.bl false) := rfl
@[simp] theorem T1_After {b : List (Str × DV)} : oIsi T1 (.obj "After" b) = .ok (.bl false) := rfl
@[simp] theorem T1_Within {b : List (Str × DV)} : oIsi T1 (.obj "Within" b) = .ok (.bl false) := rfl
@[simp] theorem T1_Close {b : List (Str × DV)} : oIsi T1 (.obj "Close" b) = .ok (.bl false) := rfl
@[simp] theorem T1_Log {b : List (Str × DV)} : oIsi T1 (.obj "Log" b) = .ok (.bl false) := rfl
def T2 : List (Tg × Bool) := [(.ty "NoneType", false), (.ty "bool", false), (.ty "int", false), (.ty "str", false), (.ty "tuple", false), (.ty "list", false), (.ty "dict", false), (.own "Event", true), (.own "After", false), (.own "Within", false), (.own "Close", false), (.own "Log", false)]
@[simp] theorem T2_non  : oIsi T2 (.non) = .ok (.bl false) := rfl
@[simp] theorem T2_bl {b : Bool} : oIsi T2 (.bl b) = .ok (.bl false) := rfl
@[simp] theorem T2_int {b : Int} : oIsi T2 (.int b) = .ok (.bl false) := rfl
@[simp] theorem T2_str {b : Str} : oIsi T2 (.str b) = .ok (.bl false) := rfl
@[simp] theorem T2_tup {b : List DV} : oIsi T2 (.tup b) = .ok (.bl false) := rfl
@[simp] theorem T2_lst {b : List DV} : oIsi T2 (.lst b) = .ok (.bl false) := rfl
@[simp] theorem T2_ro {b : List DV} : oIsi T2 (.ro b) = .ok (.bl false) := rfl
@[simp] theorem T2_dic {b : List (Key × DV)} : oIsi T2 (.dic b) = .ok (.bl false) := rfl
@[simp] theorem T2_Event {b : List (Str × DV)} : oIsi T2 (.obj "Event" b) = .ok (.bl true) := rfl
@[simp] theorem T2_After {b : List (Str × DV)} : oIsi T2 (.obj "After" b) = .ok (.bl false) := rfl
@[simp] theorem T2_Within {b : List (Str × DV)} : oIsi T2 (.obj "Within" b) = .ok (.bl false) := rfl
@[simp] theorem T2_Close {b : List (Str × DV)} : oIsi T2 (.obj "Close" b) = .ok (.bl false) := rfl
@[simp] theorem T2_Log {b : List (Str × DV)} : oIsi T2 (.obj "Log" b) = .ok (.bl false) := rfl
def T3 : List (Tg × Bool) := [(.ty "NoneType", false), (.ty "bool", false), (.ty "int", false), (.ty "str", false), (.ty "tuple", false), (.ty "list", false), (.ty "dict", false), (.own "Event", false), (.own "After", false), (.own "Within", false), (.own "Close", true), (.own "Log", false)]
@[simp] theorem T3_non  : oIsi T3 (.non) = .ok (.bl false) := rfl
@[simp] theorem T3_bl {b : Bool} : oIsi T3 (.bl b) = .ok (.bl false) := rfl
@[simp] theorem T3_int {b : Int} : oIsi T3 (.int b) = .ok (.bl false) := rfl
@[simp] theorem T3_str {b : Str} : oIsi T3 (.str b) = .ok (.bl false) := rfl
@[simp] theorem T3_tup {b : List DV} : oIsi T3 (.tup b) = .ok (.bl false) := rfl
@[simp] theorem T3_lst {b : List DV} : oIsi T3 (.lst b) = .ok (.bl false) := rfl
@[simp] theorem T3_ro {b : List DV} : oIsi T3 (.ro b) = .ok (.bl false) := rfl
@[simp] theorem T3_dic {b : List (Key × DV)} : oIsi T3 (.dic b) = .ok (.bl false) := rfl
@[simp] theorem T3_Event {b : List (Str × DV)} : oIsi T3 (.obj "Event" b) = .ok (.bl false) := rfl
@[simp] theorem T3_After {b : List (Str × DV)} : oIsi T3 (.obj "After" b) = .ok (.bl false) := rfl
@[simp] theorem T3_Within {b : List (Str × DV)} : oIsi T3 (.obj "Within" b) = .ok (.bl false) := rfl
@[simp] theorem T3_Close {b : List (Str × DV)} : oIsi T3 (.obj "Close" b) = .ok (.bl true) := rfl
@[simp] theorem T3_Log {b : List (Str × DV)} : oIsi T3 (.obj "Log" b) = .ok (.bl false) := rfl
def T4 : List (Tg × Bool) := [(.ty "NoneType", false), (.ty "bool", false), (.ty "int", false), (.ty "str", false), (.ty "tuple", false), (.ty "list", false), (.ty "dict", false), (.own "Event", false), (.own "After", true), (.own "Within", true), (.own "Close", false), (.own "Log", false)]
@[simp] theorem T4_non  : oIsi T4 (.non) = .ok (.bl false) := rfl
@[simp] theorem T4_bl {b : Bool} : oIsi T4 (.bl b) = .ok (.bl false) := rfl
@[simp] theorem T4_int {b : Int} : oIsi T4 (.int b) = .ok (.bl false) := rfl
@[simp] theorem T4_str {b : Str} : oIsi T4 (.str b) = .ok (.bl false) := rfl
@[simp] theorem T4_tup {b : List DV} : oIsi T4 (.tup b) = .ok (.bl false) := rfl
@[simp] theorem T4_lst {b : List DV} : oIsi T4 (.lst b) = .ok (.bl false) := rfl
@[simp] theorem T4_ro {b : List DV} : oIsi T4 (.ro b) = .ok (.bl false) := rfl
@[simp] theorem T4_dic {b : List (Key × DV)} : oIsi T4 (.dic b) = .ok (.bl false) := rfl
@[simp] theorem T4_Event {b : List (Str × DV)} : oIsi T4 (.obj "Event" b) = .ok (.bl false) := rfl
@[simp] theorem T4_After {b : List (Str × DV)} : oIsi T4 (.obj "After" b) = .ok (.bl true) := rfl
@[simp] theorem T4_Within {b : List (Str × DV)} : oIsi T4 (.obj "Within" b) = .ok (.bl true) := rfl
@[simp] theorem T4_Close {b : List (Str × DV)} : oIsi T4 (.obj "Close" b) = .ok (.bl false) := rfl
@[simp] theorem T4_Log {b : List (Str × DV)} : oIsi T4 (.obj "Log" b) = .ok (.bl false) := rfl
def T5 : List (Tg × Bool) := [(.ty "NoneType", false), (.ty "bool", false), (.ty "int", false), (.ty "str", false), (.ty "tuple", false), (.ty "list", false), (.ty "dict", true), (.own "Event", false), (.own "After", false), (.own "Within", false), (.own "Close", false), (.own "Log", false)]
@[simp] theorem T5_non  : oIsi T5 (.non) = .ok (.bl false) := rfl
@[simp] theorem T5_bl {b : Bool} : oIsi T5 (.bl b) = .ok (.bl false) := rfl
@[simp] theorem T5_int {b : Int} : oIsi T5 (.int b) = .ok (.bl false) := rfl
@[simp] theorem T5_str {b : Str} : oIsi T5 (.str b) = .ok (.bl false) := rfl
@[simp] theorem T5_tup {b : List DV} : oIsi T5 (.tup b) = .ok (.bl false) := rfl
@[simp] theorem T5_lst {b : List DV} : oIsi T5 (.lst b) = .ok (.bl false) := rfl
@[simp] theorem T5_ro {b : List DV} : oIsi T5 (.ro b) = .ok (.bl false) := rfl
@[simp] theorem T5_dic {b : List (Key × DV)} : oIsi T5 (.dic b) = .ok (.bl true) := rfl
@[simp] theorem T5_Event {b : List (Str × DV)} : oIsi T5 (.obj "Event" b) = .ok (.bl false) := rfl
@[simp] theorem T5_After {b : List (Str × DV)} : oIsi T5 (.obj "After" b) = .ok (.bl false) := rfl
@[simp] theorem T5_Within {b : List (Str × DV)} : oIsi T5 (.obj "Within" b) = .ok (.bl false) := rfl
@[simp] theorem T5_Close {b : List (Str × DV)} : oIsi T5 (.obj "Close" b) = .ok (.bl false) := rfl
@[simp] theorem T5_Log {b : List (Str × DV)} : oIsi T5 (.obj "Log" b) = .ok (.bl false) := rfl
def T6 : List (Tg × Bool) := [(.ty "NoneType", false), (.ty "bool", true), (.ty "int", true), (.ty "str", false), (.ty "tuple", false), (.ty "list", false), (.ty "dict", false), (.own "Event", false), (.own "After", false), (.own "Within", false), (.own "Close", false), (.own "Log", false)]
@[simp] theorem T6_non  : oIsi T6 (.non) = .ok (.bl false) := rfl
@[simp] theorem T6_bl {b : Bool} : oIsi T6 (.bl b) = .ok (.bl true) := rfl
@[simp] theorem T6_int {b : Int} : oIsi T6 (.int b) = .ok (.bl true) := rfl
@[simp] theorem T6_str {b : Str} : oIsi T6 (.str b) = .ok (.bl false) := rfl
@[simp] theorem T6_tup {b : List DV} : oIsi T6 (.tup b) = .ok (.bl false) := rfl
@[simp] theorem T6_lst {b : List DV} : oIsi T6 (.lst b) = .ok (.bl false) := rfl
@[simp] theorem T6_ro {b : List DV} : oIsi T6 (.ro b) = .ok (.bl false) := rfl
@[simp] theorem T6_dic {b : List (Key × DV)} : oIsi T6 (.dic b) = .ok (.bl false) := rfl
@[simp] theorem T6_Event {b : List (Str × DV)} : oIsi T6 (.obj "Event" b) = .ok (.bl false) := rfl
@[simp] theorem T6_After {b : List (Str × DV)} : oIsi T6 (.obj "After" b) = .ok (.bl false) := rfl
@[simp] theorem T6_Within {b : List (Str × DV)} : oIsi T6 (.obj "Within" b) = .ok (.bl false) := rfl
@[simp] theorem T6_Close {b : List (Str × DV)} : oIsi T6 (.obj "Close" b) = .ok (.bl false) := rfl
@[simp] theorem T6_Log {b : List (Str × DV)} : oIsi T6 (.obj "Log" b) = .ok (.bl false) := rfl
def T7 : List (Tg × Bool) := [(.ty "NoneType", false), (.ty "bool", true), (.ty "int", false), (.ty "str", false), (.ty "tuple", false), (.ty "list", false), (.ty "dict", false), (.own "Event", false), (.own "After", false), (.own "Within", false), (.own "Close", false), (.own "Log", false)]
@[simp] theorem T7_non  : oIsi T7 (.non) = .ok (.bl false) := rfl
@[simp] theorem T7_bl {b : Bool} : oIsi T7 (.bl b) = .ok (.bl true) := rfl
@[simp] theorem T7_int {b : Int} : oIsi T7 (.int b) = .ok (.bl false) := rfl
@[simp] theorem T7_str {b : Str} : oIsi T7 (.str b) = .ok (.bl false) := rfl
@[simp] theorem T7_tup {b : List DV} : oIsi T7 (.tup b) = .ok (.bl false) := rfl
@[simp] theorem T7_lst {b : List DV} : oIsi T7 (.lst b) = .ok (.bl false) := rfl
@[simp] theorem T7_ro {b : List DV} : oIsi T7 (.ro b) = .ok (.bl false) := rfl
@[simp] theorem T7_dic {b : List (Key × DV)} : oIsi T7 (.dic b) = .ok (.bl false) := rfl
@[simp] theorem T7_Event {b : List (Str × DV)} : oIsi T7 (.obj "Event" b) = .ok (.bl false) := rfl
@[simp] theorem T7_After {b : List (Str × DV)} : oIsi T7 (.obj "After" b) = .ok (.bl false) := rfl
@[simp] theorem T7_Within {b : List (Str × DV)} : oIsi T7 (.obj "Within" b) = .ok (.bl false) := rfl
@[simp] theorem T7_Close {b : List (Str × DV)} : oIsi T7 (.obj "Close" b) = .ok (.bl false) := rfl
@[simp] theorem T7_Log {b : List (Str × DV)} : oIsi T7 (.obj "Log" b) = .ok (.bl false) := rfl
def T8 : List (Tg × Bool) := [(.ty "NoneType", false), (.ty "bool", false), (.ty "int", false), (.ty "str", false), (.ty "tuple", false), (.ty "list", false), (.ty "dict", false), (.own "Event", false), (.own "After", true), (.own "Within", true), (.own "Close", true), (.own "Log", false)]
@[simp] theorem T8_non  : oIsi T8 (.non) = .ok (.bl false) := rfl
@[simp] theorem T8_bl {b : Bool} : oIsi T8 (.bl b) = .ok (.bl false) := rfl
@[simp] theorem T8_int {b : Int} : oIsi T8 (.int b) = .ok (.bl false) := rfl
@[simp] theorem T8_str {b : Str} : oIsi T8 (.str b) = .ok (.bl false) := rfl
@[simp] theorem T8_tup {b : List DV} : oIsi T8 (.tup b) = .ok (.bl false) := rfl
@[simp] theorem T8_lst {b : List DV} : oIsi T8 (.lst b) = .ok (.bl false) := rfl
@[simp] theorem T8_ro {b : List DV} : oIsi T8 (.ro b) = .ok (.bl false) := rfl
@[simp] theorem T8_dic {b : List (Key × DV)} : oIsi T8 (.dic b) = .ok (.bl false) := rfl
@[simp] theorem T8_Event {b : List (Str × DV)} : oIsi T8 (.obj "Event" b) = .ok (.bl false) := rfl
@[simp] theorem T8_After {b : List (Str × DV)} : oIsi T8 (.obj "After" b) = .ok (.bl true) := rfl
@[simp] theorem T8_Within {b : List (Str × DV)} : oIsi T8 (.obj "Within" b) = .ok (.bl true) := rfl
@[simp] theorem T8_Close {b : List (Str × DV)} : oIsi T8 (.obj "Close" b) = .ok (.bl true) := rfl
@[simp] theorem T8_Log {b : List (Str × DV)} : oIsi T8 (.obj "Log" b) = .ok (.bl false) := rfl
def T9 : List (Tg × Bool) := [(.ty "NoneType", false), (.ty "bool", false), (.ty "int", false), (.ty "str", false), (.ty "tuple", false), (.ty "list", false), (.ty "dict", false), (.own "Event", false), (.own "After", false), (.own "Within", false), (.own "Close", false), (.own "Log", true)]
@[simp] theorem T9_non  : oIsi T9 (.non) = .ok (.bl false) := rfl
@[simp] theorem T9_bl {b : Bool} : oIsi T9 (.bl b) = .ok (.bl false) := rfl
@[simp] theorem T9_int {b : Int} : oIsi T9 (.int b) = .ok (.bl false) := rfl
@[simp] theorem T9_str {b : Str} : oIsi T9 (.str b) = .ok (.bl false) := rfl
@[simp] theorem T9_tup {b : List DV} : oIsi T9 (.tup b) = .ok (.bl false) := rfl
@[simp] theorem T9_lst {b : List DV} : oIsi T9 (.lst b) = .ok (.bl false) := rfl
@[simp] theorem T9_ro {b : List DV} : oIsi T9 (.ro b) = .ok (.bl false) := rfl
@[simp] theorem T9_dic {b : List (Key × DV)} : oIsi T9 (.dic b) = .ok (.bl false) := rfl
@[simp] theorem T9_Event {b : List (Str × DV)} : oIsi T9 (.obj "Event" b) = .ok (.bl false) := rfl
@[simp] theorem T9_After {b : List (Str × DV)} : oIsi T9 (.obj "After" b) = .ok (.bl false) := rfl
@[simp] theorem T9_Within {b : List (Str × DV)} : oIsi T9 (.obj "Within" b) = .ok (.bl false) := rfl
@[simp] theorem T9_Close {b : List (Str × DV)} : oIsi T9 (.obj "Close" b) = .ok (.bl false) := rfl
@[simp] theorem T9_Log {b : List (Str × DV)} : oIsi T9 (.obj "Log" b) = .ok (.bl true) := rfl
def T10 : List (Tg × Bool) := [(.ty "NoneType", false), (.ty "bool", false), (.ty "int", false), (.ty "str", false), (.ty "tuple", false), (.ty "list", false), (.ty "dict", false), (.own "Event", false), (.own "After", false), (.own "Within", true), (.own "Close", false), (.own "Log", false)]
@[simp] theorem T10_non  : oIsi T10 (.non) = .ok (.bl false) := rfl
@[simp] theorem T10_bl {b : Bool} : oIsi T10 (.bl b) = .ok (.bl false) := rfl
@[simp] theorem T10_int {b : Int} : oIsi T10 (.int b) = .ok (.bl false) := rfl
@[simp] theorem T10_str {b : Str} : oIsi T10 (.str b) = .ok (.bl false) := rfl
@[simp] theorem T10_tup {b : List DV} : oIsi T10 (.tup b) = .ok (.bl false) := rfl
@[simp] theorem T10_lst {b : List DV} : oIsi T10 (.lst b) = .ok (.bl false) := rfl
@[simp] theorem T10_ro {b : List DV} : oIsi T10 (.ro b) = .ok (.bl false) := rfl
@[simp] theorem T10_dic {b : List (Key × DV)} : oIsi T10 (.dic b) = .ok (.bl false) := rfl
@[simp] theorem T10_Event {b : List (Str × DV)} : oIsi T10 (.obj "Event" b) = .ok (.bl false) := rfl
@[simp] theorem T10_After {b : List (Str × DV)} : oIsi T10 (.obj "After" b) = .ok (.bl false) := rfl
@[simp] theorem T10_Within {b : List (Str × DV)} : oIsi T10 (.obj "Within" b) = .ok (.bl true) := rfl
@[simp] theorem T10_Close {b : List (Str × DV)} : oIsi T10 (.obj "Close" b) = .ok (.bl false) := rfl
@[simp] theorem T10_Log {b : List (Str × DV)} : oIsi T10 (.obj "Log" b) = .ok (.bl false) := rfl
def fa : List Fk := [
  frB "len",
  glB "_law_cell_at",
  kpB "_law_cell_at",
  frB "range",
  fldB ["Log"] "known",
  frB "str",
  isB T0 [(.ty "str")],
  frB "isinstance",
  itB "MAX_NAME" 8,
  stB "LETTERS" "abcdefghijklmnopqrstuvwxyz",
  frB "all",
  frB "tuple",
  isB T1 [(.ty "tuple")],
  glB "is_name",
  kpB "is_name",
  frB "set",
  glB "Event",
  isB T2 [(.own "Event")],
  fldB ["Event"] "host",
  glB "Close",
  isB T3 [(.own "Close")],
  fldB ["After", "Within", "Close"] "pair",
  glB "After",
  glB "Within",
  isB T4 [(.own "After"), (.own "Within")],
  glB "are_names",
  kpB "are_names",
  itB "MAX_MACHINES" 4,
  frB "dict",
  isB T5 [(.ty "dict")],
  itB "MAX_EVENTS" 6,
  glB "is_event_of",
  kpB "is_event_of",
  itB "MAX_FACTS" 6,
  glB "is_fact_of",
  kpB "is_fact_of",
  fldB ["Log"] "hosts",
  fldB ["Log"] "places",
  frB "int",
  isB T6 [(.ty "int")],
  frB "bool",
  isB T7 [(.ty "bool")],
  glB "is_whole",
  kpB "is_whole",
  itB "MAX_TIME" 999,
  glB "is_integer",
  kpB "is_integer",
  glB "InvalidEvent",
  ecB "InvalidEvent",
  fldB ["Event"] "clock",
  glB "InvalidFact",
  ecB "InvalidFact",
  fldB ["After", "Within", "Close"] "bounds",
  frB "super",
  mkB "After",
  mkB "Close",
  mkB "Within",
  mkB "Event",
  glB "_law_fact",
  kpB "_law_fact",
  glB "Log",
  mkB "Log",
  glB "InvalidName",
  ecB "InvalidName",
  glB "check_fact",
  kpB "check_fact",
  glB "are_offsets",
  kpB "are_offsets",
  glB "check_offsets",
  kpB "check_offsets",
  glB "times_of",
  kpB "times_of",
  frB "list",
  glB "longer",
  kpB "longer",
  glB "Fact",
  isB T8 [(.own "Fact")],
  cnB [("After", .str "after"), ("Within", .str "within"), ("Close", .str "close")] "WORD",
  isB T9 [(.own "Log")],
  glB "InvalidSet",
  ecB "InvalidSet",
  isB T10 [(.own "Within")],
  glB "rows_of",
  kpB "rows_of",
  glB "check_log",
  kpB "check_log",
  glB "check_set",
  kpB "check_set",
  glB "are_fitting",
  kpB "are_fitting",
  glB "_law_log",
  kpB "_law_log",
  glB "_law_whole",
  kpB "_law_whole",
  ppsB ["Log"] "facts" "Log",
  ppsB ["Log"] "events" "Log",
  ppsB ["Log"] "machines" "Log",
  ownB "Log" "__len__",
  mtB "Log" "subsets",
  glB "_law_sets",
  kpB "_law_sets",
  ownB "Log" "__getitem__",
  ppsB ["Event"] "time" "Event",
  ppsB ["Event"] "machine" "Event",
  mtB "Log" "fact",
  nwB ["After", "Within", "Close"] "Fact",
  ppsB ["After", "Within", "Close"] "names" "Fact",
  ppsB ["After", "Within", "Close"] "numbers" "Fact",
  ownB "Log" "__contains__",
  frB "zip",
  ownB "Log" "__call__",
  glB "_law_is_true",
  kpB "_law_is_true",
  glB "fits",
  kpB "fits",
  glB "law"]
def fn : List DefE := [d__law_cell_at, d__law_log, d_Log_contains, d_is_name, d_are_names, d_is_event_of, d_is_fact_of, d_Log_init, d_is_whole, d_is_integer, d_Event_init, d_Fact_init, d_After_init, d_Close_init, d_Within_init, d__law_fact, d__law_whole, d_Log_len, d__law_sets, d_check_fact, d_Log_fact, d_are_offsets, d_check_offsets, d_times_of, d_Log_call, d_Log_machines, d_Log_events, d_Log_facts, d_longer, d_Log_subsets, d_Fact_eq, d_Event_machine, d_Event_time, d_Fact_names, d_Fact_numbers, d__law_is_true, d_check_log, d_check_set, d_rows_of, d_are_fitting, d_fits, d_Log_getitem, d_law]
abbrev N__law_cell_at : List Str := ["_law_script", "_law_k"]
def F__law_cell_at : Ev → SR := sSeq (sIf (xTest (xOp oLt (xVar 1) (xCB oLenU (xCons (xVar 0) (xNil))))) (sRet (xOp oIxU (xVar 0) (xVar 1))) (sNx)) (sSeq (sIf (xTest (xOp oEq (xVar 0) (xLst (xNil)))) (sRet (xOp oMul (xVar 1) (xC (.int 48271)))) (sNx)) (sRet (xOp oMod (xOp oMul (xOp oAdd (xOp oIxU (xVar 0) (xOp oMod (xVar 1) (xCB oLenU (xCons (xVar 0) (xNil))))) (xVar 1)) (xC (.int 48271))) (xC (.int 2147483647)))))
theorem sc__law_cell_at : FnScope N__law_cell_at ["_law_script", "_law_k"] (defScope s__law_cell_at) := ⟨rfl, rfl, rfl, by decide +kernel, rfl, by decide +kernel, by decide +kernel⟩
def m__law_cell_at : Mir := mir 2 2 F__law_cell_at
theorem ok__law_cell_at {w : World} {K : PySem.W.Frag} {mg : Str → Option Value} {base : Heap} (x : Fx PP fa fn K mg) : FO PP w K mg base 1 (He.ga K "_law_cell_at") ["_law_script", "_law_k"] (spD K m__law_cell_at) := by
  obtain ⟨fd, D⟩ := x.c.def_ 0 (d := d__law_cell_at)
  have hN := sc__law_cell_at.nd
  exact fn_k D sc__law_cell_at (by decide) (FunD.bindsN D fun _ _ _ _ _ _ us hl => match us, hl with | [_, _], _ => rfl) fun cdv A outer s H E hr tk po => dss_cons (ds_if (dt_cmp op_lt od_lt (d_var 1) (d_callB call_lenU cb_lenU (x.fr (x.f 0)) (by decide +kernel) (da_cons (d_var 0) (da_nil)))) (dss_one (ds_ret (d_ixU hr (d_var 0) (d_var 1)))) (dss_nil)) (dss_cons (ds_if (dt_cmp (op_eqD hr.units) od_eq (d_var 0) (d_lst (da_nil))) (dss_one (ds_ret (d_op op_mul od_mul (d_var 1) (d_int)))) (dss_nil)) (dss_one (ds_ret (d_op op_mod od_mod (d_op op_mul od_mul (d_op op_addA od_add (d_ixU hr (d_var 0) (d_op op_mod od_mod (d_var 1) (d_callB call_lenU cb_lenU (x.fr (x.f 0)) (by decide +kernel) (da_cons (d_var 0) (da_nil))))) (d_var 1)) (d_int)) (d_int)))))
abbrev N__law_log : List Str := ["_law_script", "_law_at", "_law_most", "_law_machines", "_law_events", "_law_facts", "_law_place", "_law_draw", "_law_names", "_law_one", "_law_other", "_law_low", "_law_name", "_law_event"]
def B__law_log_1 : Ev → SR := sSeq (sSet 7 (xCall m__law_cell_at (xCons (xVar 0) (xCons (xOp oAdd (xOp oAdd (xVar 1) (xC (.int 2))) (xVar 6)) (xNil))))) (sApp 4 (xTup (xCons (xOp oIxU (xLst (xCons (xC (.str "e")) (xCons (xC (.str "x")) (xCons (xC (.str "ee")) (xCons (xC (.str "a")) (xCons (xC (.str "z")) (xCons (xC (.str "y")) (xNil)))))))) (xVar 6)) (xCons (xOp oIxU (xVar 3) (xOp oMod (xVar 7) (xCB oLenU (xCons (xVar 3) (xNil))))) (xCons (xOp oMod (xOp oDiv (xVar 7) (xC (.int 4))) (xC (.int 12))) (xNil))))))
def B__law_log_2 : Ev → SR := sSeq (sPar 7 12 (xCall m__law_cell_at (xCons (xVar 0) (xCons (xOp oAdd (xOp oAdd (xVar 1) (xC (.int 9))) (xVar 6)) (xNil)))) (xOp oIxU (xLst (xCons (xC (.str "f")) (xCons (xC (.str "e")) (xCons (xC (.str "h")) (xCons (xC (.str "b")) (xCons (xC (.str "k")) (xCons (xC (.str "m")) (xNil)))))))) (xVar 6))) (sSeq (sSet 8 (xIf (xAnd (xTest (xOp oEq (xOp oMod (xVar 7) (xC (.int 4))) (xC (.int 0)))) (xTest (xOp oGt (xCB oLenU (xCons (xVar 3) (xNil))) (xC (.int 1))))) (xVar 3) (xLc [13] (xSrc asAnyU (xVar 4)) (gN 13) (xYes) (xOp oIxU (xVar 13) (xC (.int 0)))))) (sSeq (sSet 9 (xOp oIxU (xVar 8) (xOp oMod (xOp oDiv (xVar 7) (xC (.int 4))) (xCB oLenU (xCons (xVar 8) (xNil)))))) (sSeq (sSet 10 (xOp oIxU (xVar 8) (xOp oMod (xOp oAdd (xOp oAdd (xOp oDiv (xVar 7) (xC (.int 4))) (xC (.int 1))) (xOp oMod (xOp oDiv (xVar 7) (xC (.int 24))) (xOp oSub (xCB oLenU (xCons (xVar 8) (xNil))) (xC (.int 1))))) (xCB oLenU (xCons (xVar 8) (xNil)))))) (sSeq (sSet 11 (xOp oSub (xOp oMod (xOp oDiv (xVar 7) (xC (.int 144))) (xC (.int 15))) (xC (.int 8)))) (sIf (xTest (xOp oEq (xVar 8) (xVar 3))) (sApp 5 (xTup (xCons (xVar 12) (xCons (xC (.str "close")) (xCons (xVar 9) (xCons (xVar 10) (xCons (xLst (xCons (xOp oMod (xOp oDiv (xVar 7) (xC (.int 144))) (xC (.int 9))) (xNil))) (xNil)))))))) (sIf (xTest (xOp oEq (xOp oMod (xOp oDiv (xVar 7) (xC (.int 2160))) (xC (.int 2))) (xC (.int 0)))) (sApp 5 (xTup (xCons (xVar 12) (xCons (xC (.str "after")) (xCons (xVar 9) (xCons (xVar 10) (xCons (xLst (xCons (xVar 11) (xNil))) (xNil)))))))) (sApp 5 (xTup (xCons (xVar 12) (xCons (xC (.str "within")) (xCons (xVar 9) (xCons (xVar 10) (xCons (xLst (xCons (xVar 11) (xCons (xOp oAdd (xVar 11) (xOp oMod (xOp oDiv (xVar 7) (xC (.int 4320))) (xC (.int 12)))) (xNil)))) (xNil))))))))))))))
def F__law_log : Ev → SR := sSeq (sSet 3 (xSl (xLst (xCons (xC (.str "b")) (xCons (xC (.str "a")) (xCons (xC (.str "dd")) (xCons (xC (.str "c")) (xNil)))))) (xNo) (xPart (xOp oAdd (xC (.int 1)) (xOp oMod (xCall m__law_cell_at (xCons (xVar 0) (xCons (xVar 1) (xNil)))) (xC (.int 4))))))) (sSeq (sParLL 4 5) (sSeq (sFor (xIt asRange1 (xCons (xOp oAdd (xC (.int 2)) (xOp oMod (xCall m__law_cell_at (xCons (xVar 0) (xCons (xOp oAdd (xVar 1) (xC (.int 1))) (xNil)))) (xC (.int 4)))) (xNil))) (gN 6) (B__law_log_1)) (sFz 4 (sSeq (sFor (xIt asRange1 (xCons (xOp oMod (xCall m__law_cell_at (xCons (xVar 0) (xCons (xOp oAdd (xVar 1) (xC (.int 8))) (xNil)))) (xOp oAdd (xVar 2) (xC (.int 1)))) (xNil))) (gN 6) (B__law_log_2)) (sFz 5 (sRet (xTup (xCons (xVar 3) (xCons (xVar 4) (xCons (xVar 5) (xNil)))))))))))
theorem sc__law_log : FnScope N__law_log ["_law_script", "_law_at", "_law_most"] (defScope s__law_log) := ⟨rfl, rfl, rfl, by decide +kernel, rfl, by decide +kernel, by decide +kernel⟩
def m__law_log : Mir := mir 14 3 F__law_log
theorem ok__law_log {w : World} {K : PySem.W.Frag} {mg : Str → Option Value} {base : Heap} (x : Fx PP fa fn K mg) : FO PP w K mg base 2 (He.ga K "_law_log") ["_law_script", "_law_at", "_law_most"] (spD K m__law_log) := by
  obtain ⟨fd, D⟩ := x.c.def_ 1 (d := d__law_log)
  have hN := sc__law_log.nd
  exact fn_k D sc__law_log (by decide) (FunD.bindsN D fun _ _ _ _ _ _ us hl => match us, hl with | [_, _, _], _ => rfl) fun cdv A outer s H E hr tk po => dss_cons (ds_set 3 hN (d_slice (d_lst (da_cons (d_str) (da_cons (d_str) (da_cons (d_str) (da_cons (d_str) (da_nil)))))) (do_none) (do_some (d_op op_addA od_add (d_int) (d_op op_mod od_mod (k_call tk (ok__law_cell_at x) hr (by decide) (x.gl (x.f 1)) (x.f 2) (da_cons (d_var 0) (da_cons (d_var 1) (da_nil)))) (d_int)))))) (dss_cons (ds_parLL 4 5 rfl hN) (dss_cons (ds_for po rfl (di_range1 (x.fr (x.f 3)) (da_cons (d_op op_addA od_add (d_int) (d_op op_mod od_mod (k_call tk (ok__law_cell_at x) hr (by decide) (x.gl (x.f 1)) (x.f 2) (da_cons (d_var 0) (da_cons (d_op op_addA od_add (d_var 1) (d_int)) (da_nil)))) (d_int))) (da_nil))) (dg_name 6 hN) (dss_cons (ds_set 7 hN (k_call tk (ok__law_cell_at x) hr (by decide) (x.gl (x.f 1)) (x.f 2) (da_cons (d_var 0) (da_cons (d_op op_addA od_add (d_op op_addA od_add (d_var 1) (d_int)) (d_var 6)) (da_nil))))) (dss_one (ds_app 4 (d_tup (da_cons (d_ixU hr (d_lst (da_cons (d_str) (da_cons (d_str) (da_cons (d_str) (da_cons (d_str) (da_cons (d_str) (da_cons (d_str) (da_nil)))))))) (d_var 6)) (da_cons (d_ixU hr (d_var 3) (d_op op_mod od_mod (d_var 7) (d_callB call_lenU cb_lenU (x.fr (x.f 0)) (by decide +kernel) (da_cons (d_var 3) (da_nil))))) (da_cons (d_op op_mod od_mod (d_op op_fdiv od_div (d_var 7) (d_int)) (d_int)) (da_nil))))))))) (dss_frz 4 (dss_cons (ds_for po rfl (di_range1 (x.fr (x.f 3)) (da_cons (d_op op_mod od_mod (k_call tk (ok__law_cell_at x) hr (by decide) (x.gl (x.f 1)) (x.f 2) (da_cons (d_var 0) (da_cons (d_op op_addA od_add (d_var 1) (d_int)) (da_nil)))) (d_op op_addA od_add (d_var 2) (d_int))) (da_nil))) (dg_name 6 hN) (dss_cons (ds_par 7 12 rfl hN (k_call tk (ok__law_cell_at x) hr (by decide) (x.gl (x.f 1)) (x.f 2) (da_cons (d_var 0) (da_cons (d_op op_addA od_add (d_op op_addA od_add (d_var 1) (d_int)) (d_var 6)) (da_nil)))) (d_ixU hr (d_lst (da_cons (d_str) (da_cons (d_str) (da_cons (d_str) (da_cons (d_str) (da_cons (d_str) (da_cons (d_str) (da_nil)))))))) (d_var 6))) (dss_cons (ds_set 8 hN (d_if (dw_pt (dw_and (dt_cmp (op_eqD hr.units) od_eq (d_op op_mod od_mod (d_var 7) (d_int)) (d_int)) (dw_and1 (dt_cmp op_gt od_gt (d_callB call_lenU cb_lenU (x.fr (x.f 0)) (by decide +kernel) (da_cons (d_var 3) (da_nil))) (d_int))))) (d_var 3) (d_lc (own := [("_law_event", 13)]) rfl hN (blkOk_by (by kernel_rfl)) (by decide) (di_anyU (d_var 4)) (fun _ _ _ _ _ => dg_name 13 hN) (fun _ _ _ _ _ => dts_nil) (fun _ _ _ _ _ => d_ixU hr (d_var 13) (d_int))))) (dss_cons (ds_set 9 hN (d_ixU hr (d_var 8) (d_op op_mod od_mod (d_op op_fdiv od_div (d_var 7) (d_int)) (d_callB call_lenU cb_lenU (x.fr (x.f 0)) (by decide +kernel) (da_cons (d_var 8) (da_nil)))))) (dss_cons (ds_set 10 hN (d_ixU hr (d_var 8) (d_op op_mod od_mod (d_op op_addA od_add (d_op op_addA od_add (d_op op_fdiv od_div (d_var 7) (d_int)) (d_int)) (d_op op_mod od_mod (d_op op_fdiv od_div (d_var 7) (d_int)) (d_op op_sub od_sub (d_callB call_lenU cb_lenU (x.fr (x.f 0)) (by decide +kernel) (da_cons (d_var 8) (da_nil))) (d_int)))) (d_callB call_lenU cb_lenU (x.fr (x.f 0)) (by decide +kernel) (da_cons (d_var 8) (da_nil)))))) (dss_cons (ds_set 11 hN (d_op op_sub od_sub (d_op op_mod od_mod (d_op op_fdiv od_div (d_var 7) (d_int)) (d_int)) (d_int))) (dss_one (ds_if (dt_cmp (op_eqD hr.units) od_eq (d_var 8) (d_var 3)) (dss_one (ds_app 5 (d_tup (da_cons (d_var 12) (da_cons (d_str) (da_cons (d_var 9) (da_cons (d_var 10) (da_cons (d_lst (da_cons (d_op op_mod od_mod (d_op op_fdiv od_div (d_var 7) (d_int)) (d_int)) (da_nil))) (da_nil))))))))) (dss_one (ds_if (dt_cmp (op_eqD hr.units) od_eq (d_op op_mod od_mod (d_op op_fdiv od_div (d_var 7) (d_int)) (d_int)) (d_int)) (dss_one (ds_app 5 (d_tup (da_cons (d_var 12) (da_cons (d_str) (da_cons (d_var 9) (da_cons (d_var 10) (da_cons (d_lst (da_cons (d_var 11) (da_nil))) (da_nil))))))))) (dss_one (ds_app 5 (d_tup (da_cons (d_var 12) (da_cons (d_str) (da_cons (d_var 9) (da_cons (d_var 10) (da_cons (d_lst (da_cons (d_var 11) (da_cons (d_op op_addA od_add (d_var 11) (d_op op_mod od_mod (d_op op_fdiv od_div (d_var 7) (d_int)) (d_int))) (da_nil)))) (da_nil))))))))))))))))))) (dss_frz 5 (dss_one (ds_ret (d_tup (da_cons (d_var 3) (da_cons (d_var 4) (da_cons (d_var 5) (da_nil))))))))))))
abbrev N_Log_contains : List Str := ["self", "name"]
def F_Log_contains : Ev → SR := sRet (xOp (oInU false) (xVar 1) (xFld ["Log"] "known" (xVar 0)))
theorem sc_Log_contains : FnScope N_Log_contains ["self", "name"] (defScope s_Log_contains) := ⟨rfl, rfl, rfl, by decide +kernel, rfl, by decide +kernel, by decide +kernel⟩
def m_Log_contains : Mir := mir 2 2 F_Log_contains
theorem ok_Log_contains {w : World} {K : PySem.W.Frag} {mg : Str → Option Value} {base : Heap} (x : Fx PP fa fn K mg) : FO PP w K mg base 1 (He.ma K (He.ga K "Log") "__contains__") ["self", "name"] (spD K m_Log_contains) := by
  obtain ⟨fd, D⟩ := x.c.def_ 2 (d := d_Log_contains)
  have hN := sc_Log_contains.nd
  exact fn_k D sc_Log_contains (by decide) (FunD.bindsN D fun _ _ _ _ _ _ us hl => match us, hl with | [_, _], _ => rfl) fun cdv A outer s H E hr tk po => dss_one (ds_ret (d_cmp (or_in hr) od_inU (d_var 1) (k_fld (x.f 4) (d_var 0))))
abbrev N_is_name : List Str := ["value", "letter"]
def F_is_name : Ev → SR := sRet (xAndV (xIsi T0 (xVar 0)) (xAndV (xChain oLe oLe (xC (.int 1)) (xCB oLenU (xCons (xVar 0) (xNil))) (xC (.int 8))) (xCB oAll (xCons (xLc [1] (xSrc asAnyU (xVar 0)) (gN 1) (xYes) (xOp (oInU false) (xVar 1) (xC (.str "abcdefghijklmnopqrstuvwxyz")))) (xNil)))))
theorem sc_is_name : FnScope N_is_name ["value"] (defScope s_is_name) := ⟨rfl, rfl, rfl, by decide +kernel, rfl, by decide +kernel, by decide +kernel⟩
def m_is_name : Mir := mir 2 1 F_is_name
theorem ok_is_name {w : World} {K : PySem.W.Frag} {mg : Str → Option Value} {base : Heap} (x : Fx PP fa fn K mg) : FO PP w K mg base 1 (He.ga K "is_name") ["value"] (spD K m_is_name) := by
  obtain ⟨fd, D⟩ := x.c.def_ 3 (d := d_is_name)
  have hN := sc_is_name.nd
  exact fn_k D sc_is_name (by decide) (FunD.bindsN D fun _ _ _ _ _ _ us hl => match us, hl with | [_], _ => rfl) fun cdv A outer s H E hr tk po => dss_one (ds_ret (d_and (k_isi (x.f 6) (x.fr (x.f 7)) (d_var 0) (cl_ty (x.fr (x.f 5)) (by decide +kernel))) (d_and (d_chain op_le op_le od_le od_le (d_int) (d_callB call_lenU cb_lenU (x.fr (x.f 0)) (by decide +kernel) (da_cons (d_var 0) (da_nil))) (d_gint (x.it (x.f 8)))) (d_one (d_callB (cr_all rfl) cb_all (x.fr (x.f 10)) (by decide +kernel) (da_cons (d_lc (own := [("letter", 1)]) rfl hN (blkOk_by (by kernel_rfl)) (by decide) (di_anyU (d_var 0)) (fun _ _ _ _ _ => dg_name 1 hN) (fun _ _ _ _ _ => dts_nil) (fun _ _ _ _ _ => d_cmp (or_in hr) od_inU (d_var 1) (d_gstr (x.st (x.f 9))))) (da_nil)))))))
abbrev N_are_names : List Str := ["value", "name"]
def F_are_names : Ev → SR := sRet (xAndV (xIsi T1 (xVar 0)) (xAndV (xCB oAll (xCons (xLc [1] (xSrc asAnyU (xVar 0)) (gN 1) (xYes) (xCall m_is_name (xCons (xVar 1) (xNil)))) (xNil))) (xOp oEq (xUn oLenSet (xVar 0)) (xCB oLenU (xCons (xVar 0) (xNil))))))
theorem sc_are_names : FnScope N_are_names ["value"] (defScope s_are_names) := ⟨rfl, rfl, rfl, by decide +kernel, rfl, by decide +kernel, by decide +kernel⟩
def m_are_names : Mir := mir 2 1 F_are_names
theorem ok_are_names {w : World} {K : PySem.W.Frag} {mg : Str → Option Value} {base : Heap} (x : Fx PP fa fn K mg) : FO PP w K mg base 2 (He.ga K "are_names") ["value"] (spD K m_are_names) := by
  obtain ⟨fd, D⟩ := x.c.def_ 4 (d := d_are_names)
  have hN := sc_are_names.nd
  exact fn_k D sc_are_names (by decide) (FunD.bindsN D fun _ _ _ _ _ _ us hl => match us, hl with | [_], _ => rfl) fun cdv A outer s H E hr tk po => dss_one (ds_ret (d_and (k_isi (x.f 12) (x.fr (x.f 7)) (d_var 0) (cl_ty (x.fr (x.f 11)) (by decide +kernel))) (d_and (d_callB (cr_all rfl) cb_all (x.fr (x.f 10)) (by decide +kernel) (da_cons (d_lc (own := [("name", 1)]) rfl hN (blkOk_by (by kernel_rfl)) (by decide) (di_anyU (d_var 0)) (fun _ _ _ _ _ => dg_name 1 hN) (fun _ _ _ _ _ => dts_nil) (fun _ _ _ _ _ => k_call tk0 (ok_is_name x) hr (by decide) (x.gl (x.f 13)) (x.f 14) (da_cons (d_var 1) (da_nil)))) (da_nil))) (d_one (d_cmp (op_eqD hr.units) od_eq (d_lenSet rfl (x.fr (x.f 0)) (x.fr (x.f 15)) (d_var 0)) (d_callB call_lenU cb_lenU (x.fr (x.f 0)) (by decide +kernel) (da_cons (d_var 0) (da_nil))))))))
abbrev N_is_event_of : List Str := ["value", "machines"]
def F_is_event_of : Ev → SR := sRet (xAndV (xIsi T2 (xVar 0)) (xOp (oInU false) (xFld ["Event"] "host" (xVar 0)) (xVar 1)))
theorem sc_is_event_of : FnScope N_is_event_of ["value", "machines"] (defScope s_is_event_of) := ⟨rfl, rfl, rfl, by decide +kernel, rfl, by decide +kernel, by decide +kernel⟩
def m_is_event_of : Mir := mir 2 2 F_is_event_of
theorem ok_is_event_of {w : World} {K : PySem.W.Frag} {mg : Str → Option Value} {base : Heap} (x : Fx PP fa fn K mg) : FO PP w K mg base 1 (He.ga K "is_event_of") ["value", "machines"] (spD K m_is_event_of) := by
  obtain ⟨fd, D⟩ := x.c.def_ 5 (d := d_is_event_of)
  have hN := sc_is_event_of.nd
  exact fn_k D sc_is_event_of (by decide) (FunD.bindsN D fun _ _ _ _ _ _ us hl => match us, hl with | [_, _], _ => rfl) fun cdv A outer s H E hr tk po => dss_one (ds_ret (d_and (k_isi (x.f 17) (x.fr (x.f 7)) (d_var 0) (cl_own (x.gl (x.f 16)))) (d_one (d_cmp (or_in hr) od_inU (k_fld (x.f 18) (d_var 0)) (d_var 1)))))
abbrev N_is_fact_of : List Str := ["value", "machines", "events", "name"]
def F_is_fact_of : Ev → SR := sSeq (sIf (xTest (xIsi T3 (xVar 0))) (sRet (xCB oAll (xCons (xLc [3] (xSrc asAnyU (xFld ["After", "Within", "Close"] "pair" (xVar 0))) (gN 3) (xYes) (xOp (oInU false) (xVar 3) (xVar 1))) (xNil)))) (sNx)) (sRet (xAndV (xIsi T4 (xVar 0)) (xCB oAll (xCons (xLc [3] (xSrc asAnyU (xFld ["After", "Within", "Close"] "pair" (xVar 0))) (gN 3) (xYes) (xOp (oInU false) (xVar 3) (xVar 2))) (xNil)))))
theorem sc_is_fact_of : FnScope N_is_fact_of ["value", "machines", "events"] (defScope s_is_fact_of) := ⟨rfl, rfl, rfl, by decide +kernel, rfl, by decide +kernel, by decide +kernel⟩
def m_is_fact_of : Mir := mir 4 3 F_is_fact_of
theorem ok_is_fact_of {w : World} {K : PySem.W.Frag} {mg : Str → Option Value} {base : Heap} (x : Fx PP fa fn K mg) : FO PP w K mg base 1 (He.ga K "is_fact_of") ["value", "machines", "events"] (spD K m_is_fact_of) := by
  obtain ⟨fd, D⟩ := x.c.def_ 6 (d := d_is_fact_of)
  have hN := sc_is_fact_of.nd
  exact fn_k D sc_is_fact_of (by decide) (FunD.bindsN D fun _ _ _ _ _ _ us hl => match us, hl with | [_, _, _], _ => rfl) fun cdv A outer s H E hr tk po => dss_cons (ds_if (dt_val (k_isi (x.f 20) (x.fr (x.f 7)) (d_var 0) (cl_own (x.gl (x.f 19))))) (dss_one (ds_ret (d_callB (cr_all rfl) cb_all (x.fr (x.f 10)) (by decide +kernel) (da_cons (d_lc (own := [("name", 3)]) rfl hN (blkOk_by (by kernel_rfl)) (by decide) (di_anyU (k_fld (x.f 21) (d_var 0))) (fun _ _ _ _ _ => dg_name 3 hN) (fun _ _ _ _ _ => dts_nil) (fun _ _ _ _ _ => d_cmp (or_in hr) od_inU (d_var 3) (d_var 1))) (da_nil))))) (dss_nil)) (dss_one (ds_ret (d_and (k_isiT (x.f 24) (by decide) (x.fr (x.f 7)) (d_var 0) (cls_cons (cl_own (x.gl (x.f 22))) (cls_cons (cl_own (x.gl (x.f 23))) (cls_nil)))) (d_one (d_callB (cr_all rfl) cb_all (x.fr (x.f 10)) (by decide +kernel) (da_cons (d_lc (own := [("name", 3)]) rfl hN (blkOk_by (by kernel_rfl)) (by decide) (di_anyU (k_fld (x.f 21) (d_var 0))) (fun _ _ _ _ _ => dg_name 3 hN) (fun _ _ _ _ _ => dts_nil) (fun _ _ _ _ _ => d_cmp (or_in hr) od_inU (d_var 3) (d_var 2))) (da_nil)))))))
abbrev N_Log_init : List Str := ["self", "machines", "events", "facts", "name", "event", "fact"]
def B_Log_init_1 : Ev → SR := sIf (xOr (xNot (xTest (xCall m_is_name (xCons (xVar 4) (xNil))))) (xNot (xTest (xCall m_is_event_of (xCons (xVar 5) (xCons (xVar 1) (xNil))))))) (sBad) (sNx)
def B_Log_init_2 : Ev → SR := sIf (xOr (xNot (xTest (xCall m_is_name (xCons (xVar 4) (xNil))))) (xNot (xTest (xCall m_is_fact_of (xCons (xVar 6) (xCons (xVar 1) (xCons (xVar 2) (xNil)))))))) (sBad) (sNx)
def F_Log_init : Ev → SR := sSeq (sIf (xOr (xNot (xTest (xCall m_are_names (xCons (xVar 1) (xNil))))) (xNot (xTest (xChain oLe oLe (xC (.int 1)) (xCB oLenU (xCons (xVar 1) (xNil))) (xC (.int 4)))))) (sBad) (sNx)) (sSeq (sIf (xOr (xNot (xTest (xIsi T5 (xVar 2)))) (xNot (xTest (xChain oLe oLe (xC (.int 2)) (xCB oLenU (xCons (xVar 2) (xNil))) (xC (.int 6)))))) (sBad) (sNx)) (sSeq (sFor (xSrc asDicI (xVar 2)) (gT 2 (gsCons (gN 4) (gsCons (gN 5) (gsNil)))) (B_Log_init_1)) (sSeq (sIf (xOr (xNot (xTest (xIsi T5 (xVar 3)))) (xTest (xOp oGt (xCB oLenU (xCons (xVar 3) (xNil))) (xC (.int 6))))) (sBad) (sNx)) (sSeq (sFor (xSrc asDicI (xVar 3)) (gT 2 (gsCons (gN 4) (gsCons (gN 6) (gsNil)))) (B_Log_init_2)) (sSeq (sFldD ["Log"] 0 "hosts" (xVar 1)) (sSeq (sFldD ["Log"] 0 "places" (xDic (xDict (xCons (xVar 2) (xNil))))) (sFldD ["Log"] 0 "known" (xDic (xDict (xCons (xVar 3) (xNil)))))))))))
theorem sc_Log_init : FnScope N_Log_init ["self", "machines", "events", "facts"] (defScope s_Log_init) := ⟨rfl, rfl, rfl, by decide +kernel, rfl, by decide +kernel, by decide +kernel⟩
def m_Log_init : Imi := imi 7 3 F_Log_init
theorem ok_Log_init {w : World} {K : PySem.W.Frag} {mg : Str → Option Value} {base : Heap} (x : Fx PP fa fn K mg) : FO PP w K mg base 3 (He.ma K (He.ga K "Log") "__init__") ["self", "machines", "events", "facts"] (spI K 3 m_Log_init) := by
  obtain ⟨fd, D⟩ := x.c.def_ 7 (d := d_Log_init)
  have hN := sc_Log_init.nd
  exact fn_ki D sc_Log_init rfl (by decide) (FunD.bindsN D fun _ _ _ _ _ _ us hl => match us, hl with | [_, _, _, _], _ => rfl) fun cdv A outer s H E hr tk po => dss_cons (ds_if (dw_pt (dw_or (dt_not (dt_val (k_call tk (ok_are_names x) hr (by decide) (x.gl (x.f 25)) (x.f 26) (da_cons (d_var 1) (da_nil))))) (dw_or1 (dt_not (dt_chain op_le op_le od_le od_le (d_int) (d_callB call_lenU cb_lenU (x.fr (x.f 0)) (by decide +kernel) (da_cons (d_var 1) (da_nil))) (d_gint (x.it (x.f 27)))))))) (dss_one (ds_bad)) (dss_nil)) (dss_cons (ds_if (dw_pt (dw_or (dt_not (dt_val (k_isi (x.f 29) (x.fr (x.f 7)) (d_var 2) (cl_ty (x.fr (x.f 28)) (by decide +kernel))))) (dw_or1 (dt_not (dt_chain op_le op_le od_le od_le (d_int) (d_callB call_lenU cb_lenU (x.fr (x.f 0)) (by decide +kernel) (da_cons (d_var 2) (da_nil))) (d_gint (x.it (x.f 30)))))))) (dss_one (ds_bad)) (dss_nil)) (dss_cons (ds_for po rfl (di_items (d_var 2)) (dg_tup rfl (dgs_cons (dg_name 4 hN) (dgs_cons (dg_name 5 hN) (dgs_nil)))) (dss_one (ds_if (dw_pt (dw_or (dt_not (dt_val (k_call tk (ok_is_name x) hr (by decide) (x.gl (x.f 13)) (x.f 14) (da_cons (d_var 4) (da_nil))))) (dw_or1 (dt_not (dt_val (k_call tk (ok_is_event_of x) hr (by decide) (x.gl (x.f 31)) (x.f 32) (da_cons (d_var 5) (da_cons (d_var 1) (da_nil))))))))) (dss_one (ds_bad)) (dss_nil)))) (dss_cons (ds_if (dw_pt (dw_or (dt_not (dt_val (k_isi (x.f 29) (x.fr (x.f 7)) (d_var 3) (cl_ty (x.fr (x.f 28)) (by decide +kernel))))) (dw_or1 (dt_cmp op_gt od_gt (d_callB call_lenU cb_lenU (x.fr (x.f 0)) (by decide +kernel) (da_cons (d_var 3) (da_nil))) (d_gint (x.it (x.f 33))))))) (dss_one (ds_bad)) (dss_nil)) (dss_cons (ds_for po rfl (di_items (d_var 3)) (dg_tup rfl (dgs_cons (dg_name 4 hN) (dgs_cons (dg_name 6 hN) (dgs_nil)))) (dss_one (ds_if (dw_pt (dw_or (dt_not (dt_val (k_call tk (ok_is_name x) hr (by decide) (x.gl (x.f 13)) (x.f 14) (da_cons (d_var 4) (da_nil))))) (dw_or1 (dt_not (dt_val (k_call tk (ok_is_fact_of x) hr (by decide) (x.gl (x.f 34)) (x.f 35) (da_cons (d_var 6) (da_cons (d_var 1) (da_cons (d_var 2) (da_nil)))))))))) (dss_one (ds_bad)) (dss_nil)))) (dss_cons (k_sfld 0 (x.f 36) (d_var 1)) (dss_cons (k_sfld 0 (x.f 37) (d_dic (dd_dict rfl (x.fr (x.f 28)) (da_cons (d_var 2) (da_nil))))) (dss_one (k_sfld 0 (x.f 4) (d_dic (dd_dict rfl (x.fr (x.f 28)) (da_cons (d_var 3) (da_nil))))))))))))
abbrev N_is_whole : List Str := ["value"]
def F_is_whole : Ev → SR := sRet (xAndV (xIsi T6 (xVar 0)) (xNotV (xIsi T7 (xVar 0))))
theorem sc_is_whole : FnScope N_is_whole ["value"] (defScope s_is_whole) := ⟨rfl, rfl, rfl, by decide +kernel, rfl, by decide +kernel, by decide +kernel⟩
def m_is_whole : Mir := mir 1 1 F_is_whole
theorem ok_is_whole {w : World} {K : PySem.W.Frag} {mg : Str → Option Value} {base : Heap} (x : Fx PP fa fn K mg) : FO PP w K mg base 1 (He.ga K "is_whole") ["value"] (spD K m_is_whole) := by
  obtain ⟨fd, D⟩ := x.c.def_ 8 (d := d_is_whole)
  have hN := sc_is_whole.nd
  exact fn_k D sc_is_whole (by decide) (FunD.bindsN D fun _ _ _ _ _ _ us hl => match us, hl with | [_], _ => rfl) fun cdv A outer s H E hr tk po => dss_one (ds_ret (d_and (k_isi (x.f 39) (x.fr (x.f 7)) (d_var 0) (cl_ty (x.fr (x.f 38)) (by decide +kernel))) (d_one (d_not (k_isi (x.f 41) (x.fr (x.f 7)) (d_var 0) (cl_ty (x.fr (x.f 40)) (by decide +kernel)))))))
abbrev N_is_integer : List Str := ["value", "low", "high"]
def F_is_integer : Ev → SR := sRet (xAndV (xCall m_is_whole (xCons (xVar 0) (xNil))) (xChain oLe oLe (xVar 1) (xVar 0) (xVar 2)))
theorem sc_is_integer : FnScope N_is_integer ["value", "low", "high"] (defScope s_is_integer) := ⟨rfl, rfl, rfl, by decide +kernel, rfl, by decide +kernel, by decide +kernel⟩
def m_is_integer : Mir := mir 3 3 F_is_integer
theorem ok_is_integer {w : World} {K : PySem.W.Frag} {mg : Str → Option Value} {base : Heap} (x : Fx PP fa fn K mg) : FO PP w K mg base 2 (He.ga K "is_integer") ["value", "low", "high"] (spD K m_is_integer) := by
  obtain ⟨fd, D⟩ := x.c.def_ 9 (d := d_is_integer)
  have hN := sc_is_integer.nd
  exact fn_k D sc_is_integer (by decide) (FunD.bindsN D fun _ _ _ _ _ _ us hl => match us, hl with | [_, _, _], _ => rfl) fun cdv A outer s H E hr tk po => dss_one (ds_ret (d_and (k_call tk (ok_is_whole x) hr (by decide) (x.gl (x.f 42)) (x.f 43) (da_cons (d_var 0) (da_nil))) (d_one (d_chain op_le op_le od_le od_le (d_var 1) (d_var 0) (d_var 2)))))
abbrev N_Event_init : List Str := ["self", "machine", "time"]
def F_Event_init : Ev → SR := sSeq (sIf (xOr (xNot (xTest (xCall m_is_name (xCons (xVar 1) (xNil))))) (xNot (xTest (xCall m_is_integer (xCons (xVar 2) (xCons (xC (.int 0)) (xCons (xC (.int 999)) (xNil)))))))) (sRaise "InvalidEvent" (fun _ => .ok [])) (sNx)) (sSeq (sFldD ["Event"] 0 "host" (xVar 1)) (sFldD ["Event"] 0 "clock" (xVar 2)))
theorem sc_Event_init : FnScope N_Event_init ["self", "machine", "time"] (defScope s_Event_init) := ⟨rfl, rfl, rfl, by decide +kernel, rfl, by decide +kernel, by decide +kernel⟩
def m_Event_init : Imi := imi 3 2 F_Event_init
theorem ok_Event_init {w : World} {K : PySem.W.Frag} {mg : Str → Option Value} {base : Heap} (x : Fx PP fa fn K mg) : FO PP w K mg base 3 (He.ma K (He.ga K "Event") "__init__") ["self", "machine", "time"] (spI K 2 m_Event_init) := by
  obtain ⟨fd, D⟩ := x.c.def_ 10 (d := d_Event_init)
  have hN := sc_Event_init.nd
  exact fn_ki D sc_Event_init rfl (by decide) (FunD.bindsN D fun _ _ _ _ _ _ us hl => match us, hl with | [_, _, _], _ => rfl) fun cdv A outer s H E hr tk po => dss_cons (ds_if (dw_pt (dw_or (dt_not (dt_val (k_call tk (ok_is_name x) hr (by decide) (x.gl (x.f 13)) (x.f 14) (da_cons (d_var 1) (da_nil))))) (dw_or1 (dt_not (dt_val (k_call tk (ok_is_integer x) hr (by decide) (x.gl (x.f 45)) (x.f 46) (da_cons (d_var 2) (da_cons (d_int) (da_cons (d_gint (x.it (x.f 44))) (da_nil)))))))))) (dss_one (k_raise rfl tk (x.gl (x.f 47)) (x.f 48))) (dss_nil)) (dss_cons (k_sfld 0 (x.f 18) (d_var 1)) (dss_one (k_sfld 0 (x.f 49) (d_var 2))))
abbrev N_Fact_init : List Str := ["self", "one", "other", "numbers", "low", "number"]
def F_Fact_init : Ev → SR := sSeq (sIf (xOr (xNot (xTest (xCall m_is_name (xCons (xVar 1) (xNil))))) (xOr (xNot (xTest (xCall m_is_name (xCons (xVar 2) (xNil))))) (xTest (xOp oEq (xVar 1) (xVar 2))))) (sRaise "InvalidFact" (fun _ => .ok [])) (sNx)) (sSeq (sIf (xNot (xTest (xCB oAll (xCons (xLc [5] (xSrc asAnyU (xVar 3)) (gN 5) (xYes) (xCall m_is_integer (xCons (xVar 5) (xCons (xVar 4) (xCons (xC (.int 999)) (xNil)))))) (xNil))))) (sRaise "InvalidFact" (fun _ => .ok [])) (sNx)) (sSeq (sFldD ["After", "Within", "Close"] 0 "pair" (xTup (xCons (xVar 1) (xCons (xVar 2) (xNil))))) (sFldD ["After", "Within", "Close"] 0 "bounds" (xVar 3))))
theorem sc_Fact_init : FnScope N_Fact_init ["self", "one", "other", "numbers", "low"] (defScope s_Fact_init) := ⟨rfl, rfl, rfl, by decide +kernel, rfl, by decide +kernel, by decide +kernel⟩
def m_Fact_init : Imi := imi 6 4 F_Fact_init
theorem ok_Fact_init {w : World} {K : PySem.W.Frag} {mg : Str → Option Value} {base : Heap} (x : Fx PP fa fn K mg) : FO PP w K mg base 3 (He.ma K (He.ga K "Fact") "__init__") ["self", "one", "other", "numbers", "low"] (spI K 4 m_Fact_init) := by
  obtain ⟨fd, D⟩ := x.c.def_ 11 (d := d_Fact_init)
  have hN := sc_Fact_init.nd
  exact fn_ki D sc_Fact_init rfl (by decide) (FunD.bindsN D fun _ _ _ _ _ _ us hl => match us, hl with | [_, _, _, _, _], _ => rfl) fun cdv A outer s H E hr tk po => dss_cons (ds_if (dw_pt (dw_or (dt_not (dt_val (k_call tk (ok_is_name x) hr (by decide) (x.gl (x.f 13)) (x.f 14) (da_cons (d_var 1) (da_nil))))) (dw_or (dt_not (dt_val (k_call tk (ok_is_name x) hr (by decide) (x.gl (x.f 13)) (x.f 14) (da_cons (d_var 2) (da_nil))))) (dw_or1 (dt_cmp (op_eqD hr.units) od_eq (d_var 1) (d_var 2)))))) (dss_one (k_raise rfl tk (x.gl (x.f 50)) (x.f 51))) (dss_nil)) (dss_cons (ds_if (dt_not (dt_val (d_callB (cr_all rfl) cb_all (x.fr (x.f 10)) (by decide +kernel) (da_cons (d_lc (own := [("number", 5)]) rfl hN (blkOk_by (by kernel_rfl)) (by decide) (di_anyU (d_var 3)) (fun _ _ _ _ _ => dg_name 5 hN) (fun _ _ _ _ _ => dts_nil) (fun _ _ _ _ _ => k_call tk0 (ok_is_integer x) hr (by decide) (x.gl (x.f 45)) (x.f 46) (da_cons (d_var 5) (da_cons (d_var 4) (da_cons (d_gint (x.it (x.f 44))) (da_nil)))))) (da_nil))))) (dss_one (k_raise rfl tk (x.gl (x.f 50)) (x.f 51))) (dss_nil)) (dss_cons (k_sfld 0 (x.f 21) (d_tup (da_cons (d_var 1) (da_cons (d_var 2) (da_nil))))) (dss_one (k_sfld 0 (x.f 52) (d_var 3)))))
abbrev N_After_init : List Str := ["self", "one", "other", "least", "__class__"]
def A_After_init : Ev → R (List DV) := xCons (xVar 1) (xCons (xVar 2) (xCons (xTup (xCons (xVar 3) (xNil))) (xCons (xUn oNeg (xC (.int 999))) (xNil))))
def F_After_init : Ev → SR := sNx
def m_After_init : Imi := imS "After" 5 3 A_After_init m_Fact_init 4 F_After_init
theorem sc_After_init : NdefX.NScope N_After_init ["self", "one", "other", "least"] ["__class__"] (defScope s_After_init) := NdefX.nscope_by (by kernel_rfl)
theorem ok_After_init {w : World} {K : PySem.W.Frag} {mg : Str → Option Value} {base : Heap} (x : Fx PP fa fn K mg) : FO PP w K mg base 5 (He.ma K (He.ga K "After") "__init__") ["self", "one", "other", "least"] (spI K 3 m_After_init) := by
  obtain ⟨fd, D⟩ := x.c.sup_ 12 (d := d_After_init)
  have hN := sc_After_init.nd
  exact fn_ks D sc_After_init rfl rfl rfl rfl (by rfl) (by rfl) (x.fr (x.f 53)) (D.bindsN fun _ _ _ _ _ _ _ us hl => match us, hl with | [_, _, _, _], _ => rfl) ((ok_Fact_init x).mono (by decide)) (fun NF A outer s H E h1 h2 hr tk => by
    cases NF; cases h1; cases h2
    exact da_cons (d_var 1) (da_cons (d_var 2) (da_cons (d_tup (da_cons (d_var 3) (da_nil))) (da_cons (d_un un_neg (fun s r h => od_neg s r h) (d_gint (x.it (x.f 44)))) (da_nil))))) (fun NF A outer s H E h1 h2 hr tk => by
    cases NF; cases h1; cases h2
    exact dss_nil)
abbrev N_Close_init : List Str := ["self", "machine", "other", "most", "__class__"]
def A_Close_init : Ev → R (List DV) := xCons (xVar 1) (xCons (xVar 2) (xCons (xTup (xCons (xVar 3) (xNil))) (xCons (xC (.int 0)) (xNil))))
def F_Close_init : Ev → SR := sNx
def m_Close_init : Imi := imS "Close" 5 3 A_Close_init m_Fact_init 4 F_Close_init
theorem sc_Close_init : NdefX.NScope N_Close_init ["self", "machine", "other", "most"] ["__class__"] (defScope s_Close_init) := NdefX.nscope_by (by kernel_rfl)
theorem ok_Close_init {w : World} {K : PySem.W.Frag} {mg : Str → Option Value} {base : Heap} (x : Fx PP fa fn K mg) : FO PP w K mg base 5 (He.ma K (He.ga K "Close") "__init__") ["self", "machine", "other", "most"] (spI K 3 m_Close_init) := by
  obtain ⟨fd, D⟩ := x.c.sup_ 13 (d := d_Close_init)
  have hN := sc_Close_init.nd
  exact fn_ks D sc_Close_init rfl rfl rfl rfl (by rfl) (by rfl) (x.fr (x.f 53)) (D.bindsN fun _ _ _ _ _ _ _ us hl => match us, hl with | [_, _, _, _], _ => rfl) ((ok_Fact_init x).mono (by decide)) (fun NF A outer s H E h1 h2 hr tk => by
    cases NF; cases h1; cases h2
    exact da_cons (d_var 1) (da_cons (d_var 2) (da_cons (d_tup (da_cons (d_var 3) (da_nil))) (da_cons (d_int) (da_nil))))) (fun NF A outer s H E h1 h2 hr tk => by
    cases NF; cases h1; cases h2
    exact dss_nil)
abbrev N_Within_init : List Str := ["self", "one", "other", "least", "most", "__class__"]
def A_Within_init : Ev → R (List DV) := xCons (xVar 1) (xCons (xVar 2) (xCons (xTup (xCons (xVar 3) (xCons (xVar 4) (xNil)))) (xCons (xUn oNeg (xC (.int 999))) (xNil))))
def F_Within_init : Ev → SR := sIf (xTest (xOp oGt (xVar 3) (xVar 4))) (sRaise "InvalidFact" (fun _ => .ok [])) (sNx)
def m_Within_init : Imi := imS "Within" 6 4 A_Within_init m_Fact_init 4 F_Within_init
theorem sc_Within_init : NdefX.NScope N_Within_init ["self", "one", "other", "least", "most"] ["__class__"] (defScope s_Within_init) := NdefX.nscope_by (by kernel_rfl)
theorem ok_Within_init {w : World} {K : PySem.W.Frag} {mg : Str → Option Value} {base : Heap} (x : Fx PP fa fn K mg) : FO PP w K mg base 5 (He.ma K (He.ga K "Within") "__init__") ["self", "one", "other", "least", "most"] (spI K 4 m_Within_init) := by
  obtain ⟨fd, D⟩ := x.c.sup_ 14 (d := d_Within_init)
  have hN := sc_Within_init.nd
  exact fn_ks D sc_Within_init rfl rfl rfl rfl (by rfl) (by rfl) (x.fr (x.f 53)) (D.bindsN fun _ _ _ _ _ _ _ us hl => match us, hl with | [_, _, _, _, _], _ => rfl) ((ok_Fact_init x).mono (by decide)) (fun NF A outer s H E h1 h2 hr tk => by
    cases NF; cases h1; cases h2
    exact da_cons (d_var 1) (da_cons (d_var 2) (da_cons (d_tup (da_cons (d_var 3) (da_cons (d_var 4) (da_nil)))) (da_cons (d_un un_neg (fun s r h => od_neg s r h) (d_gint (x.it (x.f 44)))) (da_nil))))) (fun NF A outer s H E h1 h2 hr tk => by
    cases NF; cases h1; cases h2
    exact dss_one (ds_if (dt_cmp op_gt od_gt (d_var 3) (d_var 4)) (dss_one (k_raise rfl tk (x.gl (x.f 50)) (x.f 51))) (dss_nil)))
abbrev N__law_fact : List Str := ["_law_fact_here", "_law_name", "_law_word", "_law_one", "_law_other", "_law_numbers"]
def F__law_fact : Ev → SR := sSeq (sAsg (xVar 0) (gT 5 (gsCons (gN 1) (gsCons (gN 2) (gsCons (gN 3) (gsCons (gN 4) (gsCons (gN 5) (gsNil)))))))) (sSeq (sIf (xTest (xOp oEq (xVar 2) (xC (.str "after")))) (sRet (xMake "After" 3 m_After_init (xCons (xVar 3) (xCons (xVar 4) (xCons (xOp oIxU (xVar 5) (xC (.int 0))) (xNil)))))) (sNx)) (sRet (xIf (xTest (xOp oEq (xVar 2) (xC (.str "close")))) (xMake "Close" 3 m_Close_init (xCons (xVar 3) (xCons (xVar 4) (xCons (xOp oIxU (xVar 5) (xC (.int 0))) (xNil))))) (xMake "Within" 4 m_Within_init (xCons (xVar 3) (xCons (xVar 4) (xCons (xOp oIxU (xVar 5) (xC (.int 0))) (xCons (xOp oIxU (xVar 5) (xC (.int 1))) (xNil)))))))))
theorem sc__law_fact : FnScope N__law_fact ["_law_fact_here"] (defScope s__law_fact) := ⟨rfl, rfl, rfl, by decide +kernel, rfl, by decide +kernel, by decide +kernel⟩
def m__law_fact : Mir := mir 6 1 F__law_fact
theorem ok__law_fact {w : World} {K : PySem.W.Frag} {mg : Str → Option Value} {base : Heap} (x : Fx PP fa fn K mg) : FO PP w K mg base 7 (He.ga K "_law_fact") ["_law_fact_here"] (spD K m__law_fact) := by
  obtain ⟨fd, D⟩ := x.c.def_ 15 (d := d__law_fact)
  have hN := sc__law_fact.nd
  exact fn_k D sc__law_fact (by decide) (FunD.bindsN D fun _ _ _ _ _ _ us hl => match us, hl with | [_], _ => rfl) fun cdv A outer s H E hr tk po => dss_cons (ds_asg (d_var 0) (dg_tup rfl (dgs_cons (dg_name 1 hN) (dgs_cons (dg_name 2 hN) (dgs_cons (dg_name 3 hN) (dgs_cons (dg_name 4 hN) (dgs_cons (dg_name 5 hN) (dgs_nil)))))))) (dss_cons (ds_if (dt_cmp (op_eqD hr.units) od_eq (d_var 2) (d_str)) (dss_one (ds_ret (k_make tk (ok_After_init x) hr (by decide) (x.gl (x.f 22)) (x.f 54) (da_cons (d_var 3) (da_cons (d_var 4) (da_cons (d_ixU hr (d_var 5) (d_int)) (da_nil))))))) (dss_nil)) (dss_one (ds_ret (d_if (dt_cmp (op_eqD hr.units) od_eq (d_var 2) (d_str)) (k_make tk (ok_Close_init x) hr (by decide) (x.gl (x.f 19)) (x.f 55) (da_cons (d_var 3) (da_cons (d_var 4) (da_cons (d_ixU hr (d_var 5) (d_int)) (da_nil))))) (k_make tk (ok_Within_init x) hr (by decide) (x.gl (x.f 23)) (x.f 56) (da_cons (d_var 3) (da_cons (d_var 4) (da_cons (d_ixU hr (d_var 5) (d_int)) (da_cons (d_ixU hr (d_var 5) (d_int)) (da_nil))))))))))
abbrev N__law_whole : List Str := ["_law_log_here", "_law_machines", "_law_events", "_law_facts", "_law_places", "_law_name", "_law_host", "_law_clock", "_law_fact_here"]
def F__law_whole : Ev → SR := sSeq (sAsg (xVar 0) (gT 3 (gsCons (gN 1) (gsCons (gN 2) (gsCons (gN 3) (gsNil)))))) (sSeq (sSet 4 (xDic (xDict (xCons (xLc [5, 6, 7] (xSrc asAnyU (xVar 2)) (gT 3 (gsCons (gN 5) (gsCons (gN 6) (gsCons (gN 7) (gsNil))))) (xYes) (xTup (xCons (xVar 5) (xCons (xMake "Event" 2 m_Event_init (xCons (xVar 6) (xCons (xVar 7) (xNil)))) (xNil))))) (xNil))))) (sRet (xMake "Log" 3 m_Log_init (xCons (xCB oTuple (xCons (xVar 1) (xNil))) (xCons (xVar 4) (xCons (xDic (xDict (xCons (xLc [8] (xSrc asAnyU (xVar 3)) (gN 8) (xYes) (xTup (xCons (xOp oIxU (xVar 8) (xC (.int 0))) (xCons (xCall m__law_fact (xCons (xVar 8) (xNil))) (xNil))))) (xNil)))) (xNil)))))))
theorem sc__law_whole : FnScope N__law_whole ["_law_log_here"] (defScope s__law_whole) := ⟨rfl, rfl, rfl, by decide +kernel, rfl, by decide +kernel, by decide +kernel⟩
def m__law_whole : Mir := mir 9 1 F__law_whole
theorem ok__law_whole {w : World} {K : PySem.W.Frag} {mg : Str → Option Value} {base : Heap} (x : Fx PP fa fn K mg) : FO PP w K mg base 8 (He.ga K "_law_whole") ["_law_log_here"] (spD K m__law_whole) := by
  obtain ⟨fd, D⟩ := x.c.def_ 16 (d := d__law_whole)
  have hN := sc__law_whole.nd
  exact fn_k D sc__law_whole (by decide) (FunD.bindsN D fun _ _ _ _ _ _ us hl => match us, hl with | [_], _ => rfl) fun cdv A outer s H E hr tk po => dss_cons (ds_asg (d_var 0) (dg_tup rfl (dgs_cons (dg_name 1 hN) (dgs_cons (dg_name 2 hN) (dgs_cons (dg_name 3 hN) (dgs_nil)))))) (dss_cons (ds_set 4 hN (d_dic (dd_dict rfl (x.fr (x.f 28)) (da_cons (d_lc (own := [("_law_name", 5), ("_law_host", 6), ("_law_clock", 7)]) rfl hN (blkOk_by (by kernel_rfl)) (by decide) (di_anyU (d_var 2)) (fun _ _ _ _ _ => dg_tup rfl (dgs_cons (dg_name 5 hN) (dgs_cons (dg_name 6 hN) (dgs_cons (dg_name 7 hN) (dgs_nil))))) (fun _ _ _ _ _ => dts_nil) (fun _ _ _ _ _ => d_tup (da_cons (d_var 5) (da_cons (k_make tk0 (ok_Event_init x) hr (by decide) (x.gl (x.f 16)) (x.f 57) (da_cons (d_var 6) (da_cons (d_var 7) (da_nil)))) (da_nil))))) (da_nil))))) (dss_one (ds_ret (k_make tk (ok_Log_init x) hr (by decide) (x.gl (x.f 60)) (x.f 61) (da_cons (d_callTy call_tuple_of cb_tuple (x.fr (x.f 11)) (by decide +kernel) (da_cons (d_var 1) (da_nil))) (da_cons (d_var 4) (da_cons (d_dic (dd_dict rfl (x.fr (x.f 28)) (da_cons (d_lc (own := [("_law_fact_here", 8)]) rfl hN (blkOk_by (by kernel_rfl)) (by decide) (di_anyU (d_var 3)) (fun _ _ _ _ _ => dg_name 8 hN) (fun _ _ _ _ _ => dts_nil) (fun _ _ _ _ _ => d_tup (da_cons (d_ixU hr (d_var 8) (d_int)) (da_cons (k_call tk0 (ok__law_fact x) hr (by decide) (x.gl (x.f 58)) (x.f 59) (da_cons (d_var 8) (da_nil))) (da_nil))))) (da_nil)))) (da_nil))))))))
abbrev N_Log_len : List Str := ["self"]
def F_Log_len : Ev → SR := sRet (xCB oLenU (xCons (xFld ["Log"] "places" (xVar 0)) (xNil)))
theorem sc_Log_len : FnScope N_Log_len ["self"] (defScope s_Log_len) := ⟨rfl, rfl, rfl, by decide +kernel, rfl, by decide +kernel, by decide +kernel⟩
def m_Log_len : Mir := mir 1 1 F_Log_len
theorem ok_Log_len {w : World} {K : PySem.W.Frag} {mg : Str → Option Value} {base : Heap} (x : Fx PP fa fn K mg) : FO PP w K mg base 1 (He.ma K (He.ga K "Log") "__len__") ["self"] (spD K m_Log_len) := by
  obtain ⟨fd, D⟩ := x.c.def_ 17 (d := d_Log_len)
  have hN := sc_Log_len.nd
  exact fn_k D sc_Log_len (by decide) (FunD.bindsN D fun _ _ _ _ _ _ us hl => match us, hl with | [_], _ => rfl) fun cdv A outer s H E hr tk po => dss_one (ds_ret (d_callB call_lenU cb_lenU (x.fr (x.f 0)) (by decide +kernel) (da_cons (k_fld (x.f 37) (d_var 0)) (da_nil))))
abbrev N__law_sets : List Str := ["_law_log_here", "_law_names", "_law_found", "_law_layer", "_law_fact_here", "_law_some", "_law_later", "_law_begin", "_law_name"]
def B__law_sets_1 : Ev → SR := sSeq (sSet 7 (xIf (xTest (xOp oNe (xVar 5) (xTup (xNil)))) (xOp oAdd (xIdx (xVar 1) (xOp oIxU (xVar 5) (xUn oNeg (xC (.int 1))))) (xC (.int 1))) (xC (.int 0)))) (sSet 6 (xOp oAdd (xVar 6) (xLc [8] (xSrc asAnyU (xSl (xVar 1) (xPart (xVar 7)) (xNo))) (gN 8) (xYes) (xOp oAdd (xVar 5) (xTup (xCons (xVar 8) (xNil)))))))
def B__law_sets_2 : Ev → SR := sSeq (sPar 2 6 (xOp oAdd (xVar 2) (xVar 3)) (xLst (xNil))) (sSeq (sFor (xSrc asAnyU (xVar 3)) (gN 5) (B__law_sets_1)) (sSet 3 (xVar 6)))
def F__law_sets : Ev → SR := sSeq (sPar3 1 2 3 (xLc [4] (xSrc asAnyU (xOp oIxU (xVar 0) (xC (.int 2)))) (gN 4) (xYes) (xOp oIxU (xVar 4) (xC (.int 0)))) (xLst (xNil)) (xLst (xCons (xTup (xNil)) (xNil)))) (sSeq (sWhile 32 (xTest (xOp oNe (xVar 3) (xLst (xNil)))) B__law_sets_2) (sRet (xVar 2)))
theorem sc__law_sets : FnScope N__law_sets ["_law_log_here"] (defScope s__law_sets) := ⟨rfl, rfl, rfl, by decide +kernel, rfl, by decide +kernel, by decide +kernel⟩
def m__law_sets : Mir := mir 9 1 F__law_sets
theorem ok__law_sets {w : World} {K : PySem.W.Frag} {mg : Str → Option Value} {base : Heap} (x : Fx PP fa fn K mg) : FO PP w K mg base 1 (He.ga K "_law_sets") ["_law_log_here"] (spD K m__law_sets) := by
  obtain ⟨fd, D⟩ := x.c.def_ 18 (d := d__law_sets)
  have hN := sc__law_sets.nd
  exact fn_k D sc__law_sets (by decide) (FunD.bindsN D fun _ _ _ _ _ _ us hl => match us, hl with | [_], _ => rfl) fun cdv A outer s H E hr tk po => dss_cons (ds_par3 1 2 3 rfl hN (d_lc (own := [("_law_fact_here", 4)]) rfl hN (blkOk_by (by kernel_rfl)) (by decide) (di_anyU (d_ixU hr (d_var 0) (d_int))) (fun _ _ _ _ _ => dg_name 4 hN) (fun _ _ _ _ _ => dts_nil) (fun _ _ _ _ _ => d_ixU hr (d_var 4) (d_int))) (d_lst (da_nil)) (d_lst (da_cons (d_tup (da_nil)) (da_nil)))) (dss_cons (ds_while 32 po (dt_cmp (op_neD hr.units) od_ne (d_var 3) (d_lst (da_nil))) (dss_cons (ds_par 2 6 rfl hN (d_op op_addA od_add (d_var 2) (d_var 3)) (d_lst (da_nil))) (dss_cons (ds_for po rfl (di_anyU (d_var 3)) (dg_name 5 hN) (dss_cons (ds_set 7 hN (d_if (dt_cmp (op_neD hr.units) od_ne (d_var 5) (d_tup (da_nil))) (d_op op_addA od_add (d_index (d_var 1) (d_ixU hr (d_var 5) (d_un un_neg (fun s r h => od_neg s r h) (d_int)))) (d_int)) (d_int))) (dss_one (ds_set 6 hN (d_op op_addA od_add (d_var 6) (d_lc (own := [("_law_name", 8)]) rfl hN (blkOk_by (by kernel_rfl)) (by decide) (di_anyU (d_slice (d_var 1) (do_some (d_var 7)) (do_none))) (fun _ _ _ _ _ => dg_name 8 hN) (fun _ _ _ _ _ => dts_nil) (fun _ _ _ _ _ => d_op op_addA od_add (d_var 5) (d_tup (da_cons (d_var 8) (da_nil)))))))))) (dss_one (ds_set 3 hN (d_var 6)))))) (dss_one (ds_ret (d_var 2))))
abbrev N_check_fact : List Str := ["log", "name"]
def F_check_fact : Ev → SR := sIf (xOr (xNot (xTest (xIsi T0 (xVar 1)))) (xTest (xOp (oInU true) (xVar 1) (xFld ["Log"] "known" (xVar 0))))) (sRaise "InvalidName" (fun _ => .ok [])) (sNx)
theorem sc_check_fact : FnScope N_check_fact ["log", "name"] (defScope s_check_fact) := ⟨rfl, rfl, rfl, by decide +kernel, rfl, by decide +kernel, by decide +kernel⟩
def m_check_fact : Mir := mir 2 2 F_check_fact
theorem ok_check_fact {w : World} {K : PySem.W.Frag} {mg : Str → Option Value} {base : Heap} (x : Fx PP fa fn K mg) : FO PP w K mg base 1 (He.ga K "check_fact") ["log", "name"] (spD K m_check_fact) := by
  obtain ⟨fd, D⟩ := x.c.def_ 19 (d := d_check_fact)
  have hN := sc_check_fact.nd
  exact fn_k D sc_check_fact (by decide) (FunD.bindsN D fun _ _ _ _ _ _ us hl => match us, hl with | [_, _], _ => rfl) fun cdv A outer s H E hr tk po => dss_one (ds_if (dw_pt (dw_or (dt_not (dt_val (k_isi (x.f 6) (x.fr (x.f 7)) (d_var 1) (cl_ty (x.fr (x.f 5)) (by decide +kernel))))) (dw_or1 (dt_cmp (or_notin hr) od_inU (d_var 1) (k_fld (x.f 4) (d_var 0)))))) (dss_one (k_raise rfl tk (x.gl (x.f 62)) (x.f 63))) (dss_nil))
abbrev N_Log_fact : List Str := ["self", "name"]
def F_Log_fact : Ev → SR := sSeq (sDrop (xCall m_check_fact (xCons (xVar 0) (xCons (xVar 1) (xNil))))) (sRet (xOp oIxU (xFld ["Log"] "known" (xVar 0)) (xVar 1)))
theorem sc_Log_fact : FnScope N_Log_fact ["self", "name"] (defScope s_Log_fact) := ⟨rfl, rfl, rfl, by decide +kernel, rfl, by decide +kernel, by decide +kernel⟩
def m_Log_fact : Mir := mir 2 2 F_Log_fact
theorem ok_Log_fact {w : World} {K : PySem.W.Frag} {mg : Str → Option Value} {base : Heap} (x : Fx PP fa fn K mg) : FO PP w K mg base 2 (He.ma K (He.ga K "Log") "fact") ["self", "name"] (spD K m_Log_fact) := by
  obtain ⟨fd, D⟩ := x.c.def_ 20 (d := d_Log_fact)
  have hN := sc_Log_fact.nd
  exact fn_k D sc_Log_fact (by decide) (FunD.bindsN D fun _ _ _ _ _ _ us hl => match us, hl with | [_, _], _ => rfl) fun cdv A outer s H E hr tk po => dss_cons (ds_drop (k_call tk (ok_check_fact x) hr (by decide) (x.gl (x.f 64)) (x.f 65) (da_cons (d_var 0) (da_cons (d_var 1) (da_nil))))) (dss_one (ds_ret (d_ixU hr (k_fld (x.f 4) (d_var 0)) (d_var 1))))
abbrev N_are_offsets : List Str := ["log", "value", "name"]
def F_are_offsets : Ev → SR := sSeq (sIf (xOr (xNot (xTest (xIsi T5 (xVar 1)))) (xTest (xOp oNe (xCB oLenU (xCons (xVar 1) (xNil))) (xCB oLenU (xCons (xFld ["Log"] "hosts" (xVar 0)) (xNil)))))) (sRet (xC (.bl false))) (sNx)) (sRet (xAndV (xCB oAll (xCons (xLc [2] (xSrc asAnyU (xFld ["Log"] "hosts" (xVar 0))) (gN 2) (xYes) (xAndV (xOp (oInU false) (xVar 2) (xVar 1)) (xCall m_is_whole (xCons (xOp oIxU (xVar 1) (xVar 2)) (xNil))))) (xNil))) (xOp oEq (xOp oIxU (xVar 1) (xOp oIxU (xFld ["Log"] "hosts" (xVar 0)) (xC (.int 0)))) (xC (.int 0)))))
theorem sc_are_offsets : FnScope N_are_offsets ["log", "value"] (defScope s_are_offsets) := ⟨rfl, rfl, rfl, by decide +kernel, rfl, by decide +kernel, by decide +kernel⟩
def m_are_offsets : Mir := mir 3 2 F_are_offsets
theorem ok_are_offsets {w : World} {K : PySem.W.Frag} {mg : Str → Option Value} {base : Heap} (x : Fx PP fa fn K mg) : FO PP w K mg base 2 (He.ga K "are_offsets") ["log", "value"] (spD K m_are_offsets) := by
  obtain ⟨fd, D⟩ := x.c.def_ 21 (d := d_are_offsets)
  have hN := sc_are_offsets.nd
  exact fn_k D sc_are_offsets (by decide) (FunD.bindsN D fun _ _ _ _ _ _ us hl => match us, hl with | [_, _], _ => rfl) fun cdv A outer s H E hr tk po => dss_cons (ds_if (dw_pt (dw_or (dt_not (dt_val (k_isi (x.f 29) (x.fr (x.f 7)) (d_var 1) (cl_ty (x.fr (x.f 28)) (by decide +kernel))))) (dw_or1 (dt_cmp (op_neD hr.units) od_ne (d_callB call_lenU cb_lenU (x.fr (x.f 0)) (by decide +kernel) (da_cons (d_var 1) (da_nil))) (d_callB call_lenU cb_lenU (x.fr (x.f 0)) (by decide +kernel) (da_cons (k_fld (x.f 36) (d_var 0)) (da_nil))))))) (dss_one (ds_ret (d_bl))) (dss_nil)) (dss_one (ds_ret (d_and (d_callB (cr_all rfl) cb_all (x.fr (x.f 10)) (by decide +kernel) (da_cons (d_lc (own := [("name", 2)]) rfl hN (blkOk_by (by kernel_rfl)) (by decide) (di_anyU (k_fld (x.f 36) (d_var 0))) (fun _ _ _ _ _ => dg_name 2 hN) (fun _ _ _ _ _ => dts_nil) (fun _ _ _ _ _ => d_and (d_cmp (or_in hr) od_inU (d_var 2) (d_var 1)) (d_one (k_call tk0 (ok_is_whole x) hr (by decide) (x.gl (x.f 42)) (x.f 43) (da_cons (d_ixU hr (d_var 1) (d_var 2)) (da_nil)))))) (da_nil))) (d_one (d_cmp (op_eqD hr.units) od_eq (d_ixU hr (d_var 1) (d_ixU hr (k_fld (x.f 36) (d_var 0)) (d_int))) (d_int))))))
abbrev N_check_offsets : List Str := ["log", "offsets"]
def F_check_offsets : Ev → SR := sIf (xNot (xTest (xCall m_are_offsets (xCons (xVar 0) (xCons (xVar 1) (xNil)))))) (sRaise "InvalidName" (fun _ => .ok [])) (sNx)
theorem sc_check_offsets : FnScope N_check_offsets ["log", "offsets"] (defScope s_check_offsets) := ⟨rfl, rfl, rfl, by decide +kernel, rfl, by decide +kernel, by decide +kernel⟩
def m_check_offsets : Mir := mir 2 2 F_check_offsets
theorem ok_check_offsets {w : World} {K : PySem.W.Frag} {mg : Str → Option Value} {base : Heap} (x : Fx PP fa fn K mg) : FO PP w K mg base 3 (He.ga K "check_offsets") ["log", "offsets"] (spD K m_check_offsets) := by
  obtain ⟨fd, D⟩ := x.c.def_ 22 (d := d_check_offsets)
  have hN := sc_check_offsets.nd
  exact fn_k D sc_check_offsets (by decide) (FunD.bindsN D fun _ _ _ _ _ _ us hl => match us, hl with | [_, _], _ => rfl) fun cdv A outer s H E hr tk po => dss_one (ds_if (dt_not (dt_val (k_call tk (ok_are_offsets x) hr (by decide) (x.gl (x.f 66)) (x.f 67) (da_cons (d_var 0) (da_cons (d_var 1) (da_nil)))))) (dss_one (k_raise rfl tk (x.gl (x.f 62)) (x.f 63))) (dss_nil))
abbrev N_times_of : List Str := ["log", "offsets", "name", "event"]
def F_times_of : Ev → SR := sRet (xDic (xDcs [2, 3] (xSrc asDicI (xFld ["Log"] "places" (xVar 0))) (gT 2 (gsCons (gN 2) (gsCons (gN 3) (gsNil)))) (xYes) (xVar 2) (xOp oAdd (xFld ["Event"] "clock" (xVar 3)) (xOp oIxU (xVar 1) (xFld ["Event"] "host" (xVar 3))))))
theorem sc_times_of : FnScope N_times_of ["log", "offsets"] (defScope s_times_of) := ⟨rfl, rfl, rfl, by decide +kernel, rfl, by decide +kernel, by decide +kernel⟩
def m_times_of : Mir := mir 4 2 F_times_of
theorem ok_times_of {w : World} {K : PySem.W.Frag} {mg : Str → Option Value} {base : Heap} (x : Fx PP fa fn K mg) : FO PP w K mg base 1 (He.ga K "times_of") ["log", "offsets"] (spD K m_times_of) := by
  obtain ⟨fd, D⟩ := x.c.def_ 23 (d := d_times_of)
  have hN := sc_times_of.nd
  exact fn_k D sc_times_of (by decide) (FunD.bindsN D fun _ _ _ _ _ _ us hl => match us, hl with | [_, _], _ => rfl) fun cdv A outer s H E hr tk po => dss_one (ds_ret (d_dic (dd_dc (own := [("name", 2), ("event", 3)]) rfl hN (blkOk_by (by kernel_rfl)) (by decide) (di_items (k_fld (x.f 37) (d_var 0))) (fun _ _ _ _ _ => dg_tup rfl (dgs_cons (dg_name 2 hN) (dgs_cons (dg_name 3 hN) (dgs_nil)))) (fun _ _ _ _ _ => dts_nil) (fun _ _ _ _ _ => d_var 2) (fun _ _ _ _ _ => d_op op_addA od_add (k_fld (x.f 49) (d_var 3)) (d_ixU hr (d_var 1) (k_fld (x.f 18) (d_var 3)))))))
abbrev N_Log_call : List Str := ["self", "offsets"]
def F_Log_call : Ev → SR := sSeq (sDrop (xCall m_check_offsets (xCons (xVar 0) (xCons (xVar 1) (xNil))))) (sRet (xCall m_times_of (xCons (xVar 0) (xCons (xVar 1) (xNil)))))
theorem sc_Log_call : FnScope N_Log_call ["self", "offsets"] (defScope s_Log_call) := ⟨rfl, rfl, rfl, by decide +kernel, rfl, by decide +kernel, by decide +kernel⟩
def m_Log_call : Mir := mir 2 2 F_Log_call
theorem ok_Log_call {w : World} {K : PySem.W.Frag} {mg : Str → Option Value} {base : Heap} (x : Fx PP fa fn K mg) : FO PP w K mg base 4 (He.ma K (He.ga K "Log") "__call__") ["self", "offsets"] (spD K m_Log_call) := by
  obtain ⟨fd, D⟩ := x.c.def_ 24 (d := d_Log_call)
  have hN := sc_Log_call.nd
  exact fn_k D sc_Log_call (by decide) (FunD.bindsN D fun _ _ _ _ _ _ us hl => match us, hl with | [_, _], _ => rfl) fun cdv A outer s H E hr tk po => dss_cons (ds_drop (k_call tk (ok_check_offsets x) hr (by decide) (x.gl (x.f 68)) (x.f 69) (da_cons (d_var 0) (da_cons (d_var 1) (da_nil))))) (dss_one (ds_ret (k_call tk (ok_times_of x) hr (by decide) (x.gl (x.f 70)) (x.f 71) (da_cons (d_var 0) (da_cons (d_var 1) (da_nil))))))
abbrev N_Log_machines : List Str := ["self"]
def F_Log_machines : Ev → SR := sRet (xFld ["Log"] "hosts" (xVar 0))
theorem sc_Log_machines : FnScope N_Log_machines ["self"] (defScope s_Log_machines) := ⟨rfl, rfl, rfl, by decide +kernel, rfl, by decide +kernel, by decide +kernel⟩
def m_Log_machines : Mir := mir 1 1 F_Log_machines
theorem ok_Log_machines {w : World} {K : PySem.W.Frag} {mg : Str → Option Value} {base : Heap} (x : Fx PP fa fn K mg) : FO PP w K mg base 1 ((Wh.prop "Log" "machines").adr K) ["self"] (spD K m_Log_machines) := by
  obtain ⟨fd, D⟩ := x.c.def_ 25 (d := d_Log_machines)
  have hN := sc_Log_machines.nd
  exact fn_k D sc_Log_machines (by decide) (FunD.bindsN D fun _ _ _ _ _ _ us hl => match us, hl with | [_], _ => rfl) fun cdv A outer s H E hr tk po => dss_one (ds_ret (k_fld (x.f 36) (d_var 0)))
abbrev N_Log_events : List Str := ["self"]
def F_Log_events : Ev → SR := sRet (xCB oListU (xCons (xFld ["Log"] "places" (xVar 0)) (xNil)))
theorem sc_Log_events : FnScope N_Log_events ["self"] (defScope s_Log_events) := ⟨rfl, rfl, rfl, by decide +kernel, rfl, by decide +kernel, by decide +kernel⟩
def m_Log_events : Mir := mir 1 1 F_Log_events
theorem ok_Log_events {w : World} {K : PySem.W.Frag} {mg : Str → Option Value} {base : Heap} (x : Fx PP fa fn K mg) : FO PP w K mg base 1 ((Wh.prop "Log" "events").adr K) ["self"] (spD K m_Log_events) := by
  obtain ⟨fd, D⟩ := x.c.def_ 26 (d := d_Log_events)
  have hN := sc_Log_events.nd
  exact fn_k D sc_Log_events (by decide) (FunD.bindsN D fun _ _ _ _ _ _ us hl => match us, hl with | [_], _ => rfl) fun cdv A outer s H E hr tk po => dss_one (ds_ret (d_callTy (call_listU rfl) cb_listU (x.fr (x.f 72)) (by decide +kernel) (da_cons (k_fld (x.f 37) (d_var 0)) (da_nil))))
abbrev N_Log_facts : List Str := ["self"]
def F_Log_facts : Ev → SR := sRet (xCB oListU (xCons (xFld ["Log"] "known" (xVar 0)) (xNil)))
theorem sc_Log_facts : FnScope N_Log_facts ["self"] (defScope s_Log_facts) := ⟨rfl, rfl, rfl, by decide +kernel, rfl, by decide +kernel, by decide +kernel⟩
def m_Log_facts : Mir := mir 1 1 F_Log_facts
theorem ok_Log_facts {w : World} {K : PySem.W.Frag} {mg : Str → Option Value} {base : Heap} (x : Fx PP fa fn K mg) : FO PP w K mg base 1 ((Wh.prop "Log" "facts").adr K) ["self"] (spD K m_Log_facts) := by
  obtain ⟨fd, D⟩ := x.c.def_ 27 (d := d_Log_facts)
  have hN := sc_Log_facts.nd
  exact fn_k D sc_Log_facts (by decide) (FunD.bindsN D fun _ _ _ _ _ _ us hl => match us, hl with | [_], _ => rfl) fun cdv A outer s H E hr tk po => dss_one (ds_ret (d_callTy (call_listU rfl) cb_listU (x.fr (x.f 72)) (by decide +kernel) (da_cons (k_fld (x.f 4) (d_var 0)) (da_nil))))
abbrev N_longer : List Str := ["layer", "names", "found", "some", "begin", "name"]
def B_longer_1 : Ev → SR := sSeq (sSet 4 (xIf (xTest (xOp oNe (xVar 3) (xTup (xNil)))) (xOp oAdd (xIdx (xVar 1) (xOp oIxU (xVar 3) (xUn oNeg (xC (.int 1))))) (xC (.int 1))) (xC (.int 0)))) (sExt 2 (xLc [5] (xSrc asAnyU (xSl (xVar 1) (xPart (xVar 4)) (xNo))) (gN 5) (xYes) (xTup (xStar (xVar 3) (xCons (xVar 5) (xNil))))))
def F_longer : Ev → SR := sSeq (sNewL 2 (xNil)) (sSeq (sFor (xSrc asAnyU (xVar 0)) (gN 3) (B_longer_1)) (sFz 2 (sRet (xVar 2))))
theorem sc_longer : FnScope N_longer ["layer", "names"] (defScope s_longer) := ⟨rfl, rfl, rfl, by decide +kernel, rfl, by decide +kernel, by decide +kernel⟩
def m_longer : Mir := mir 6 2 F_longer
theorem ok_longer {w : World} {K : PySem.W.Frag} {mg : Str → Option Value} {base : Heap} (x : Fx PP fa fn K mg) : FO PP w K mg base 1 (He.ga K "longer") ["layer", "names"] (spD K m_longer) := by
  obtain ⟨fd, D⟩ := x.c.def_ 28 (d := d_longer)
  have hN := sc_longer.nd
  exact fn_k D sc_longer (by decide) (FunD.bindsN D fun _ _ _ _ _ _ us hl => match us, hl with | [_, _], _ => rfl) fun cdv A outer s H E hr tk po => dss_cons (ds_newL 2 hN (da_nil)) (dss_cons (ds_for po rfl (di_anyU (d_var 0)) (dg_name 3 hN) (dss_cons (ds_set 4 hN (d_if (dt_cmp (op_neD hr.units) od_ne (d_var 3) (d_tup (da_nil))) (d_op op_addA od_add (d_index (d_var 1) (d_ixU hr (d_var 3) (d_un un_neg (fun s r h => od_neg s r h) (d_int)))) (d_int)) (d_int))) (dss_one (ds_ext 2 (d_lc (own := [("name", 5)]) rfl hN (blkOk_by (by kernel_rfl)) (by decide) (di_anyU (d_slice (d_var 1) (do_some (d_var 4)) (do_none))) (fun _ _ _ _ _ => dg_name 5 hN) (fun _ _ _ _ _ => dts_nil) (fun _ _ _ _ _ => d_tup (da_star (d_var 3) (da_cons (d_var 5) (da_nil))))))))) (dss_frz 2 (dss_one (ds_ret (d_var 2)))))
abbrev N_Log_subsets : List Str := ["self", "names", "layer", "some"]
def F1_Log_subsets : Ev → SR := sPar 1 2 (xCB oListU (xCons (xFld ["Log"] "known" (xVar 0)) (xNil))) (xLst (xCons (xTup (xNil)) (xNil)))
def F2_Log_subsets : Ev → R Bool := xTest (xOp oNe (xVar 2) (xLst (xNil)))
def F3_Log_subsets : Ev → SR := sSet 2 (xCall m_longer (xCons (xVar 2) (xCons (xVar 1) (xNil))))
def m_Log_subsets : List DV → R (List DV) := gmir 4 1 F1_Log_subsets F2_Log_subsets F3_Log_subsets 3 2
theorem sc_Log_subsets : GScope N_Log_subsets ["self"] (defScope s_Log_subsets) := ⟨rfl, rfl, rfl, by decide +kernel, rfl, by decide +kernel, by decide +kernel⟩
theorem ok_Log_subsets {w : World} {K : PySem.W.Frag} {mg : Str → Option Value} {base : Heap} (x : Fx PP fa fn K mg) : GO PP w K mg base 2 (He.ma K (He.ga K "Log") "subsets") ["self"] m_Log_subsets := by
  obtain ⟨fd, D⟩ := x.c.def_ 29 (d := d_Log_subsets)
  have hN := sc_Log_subsets.nd
  exact gfn_k 3 2 D sc_Log_subsets (by decide) (by decide +kernel) (FunD.bindsN D fun _ _ _ _ _ _ us hl => match us, hl with | [_], _ => rfl) (fun cdv L A outer s0 Hk hr => ds_par 1 2 rfl hN (d_callTy (call_listU rfl) cb_listU (x.fr (x.f 72)) (by decide +kernel) (da_cons (k_fld (x.f 4) (d_var 0)) (da_nil))) (d_lst (da_cons (d_tup (da_nil)) (da_nil)))) (fun cdv L A outer s0 Hk => dg_name 3 hN) (fun cdv L A outer s0 Hk => d_var 3) (fun cdv L A outer s0 Hk => d_var 2) (fun cdv L A outer s0 Hk hr => dt_cmp (op_neD hr.units) od_ne (d_var 2) (d_lst (da_nil))) (fun cdv L A outer s0 Hk hr => ds_set 2 hN (k_call tk0 (ok_longer x) hr (by decide) (x.gl (x.f 73)) (x.f 74) (da_cons (d_var 2) (da_cons (d_var 1) (da_nil)))))
abbrev N_Fact_eq : List Str := ["self", "other"]
def F_Fact_eq : Ev → SR := sSeq (sIf (xOr (xNot (xTest (xIsi T8 (xVar 1)))) (xTest (xOp oNe (xCon [("After", .str "after"), ("Within", .str "within"), ("Close", .str "close")] "WORD" (xVar 0)) (xCon [("After", .str "after"), ("Within", .str "within"), ("Close", .str "close")] "WORD" (xVar 1))))) (sRet (xC (.bl false))) (sNx)) (sRet (xAndV (xOp oEq (xFld ["After", "Within", "Close"] "pair" (xVar 0)) (xFld ["After", "Within", "Close"] "pair" (xVar 1))) (xOp oEq (xFld ["After", "Within", "Close"] "bounds" (xVar 0)) (xFld ["After", "Within", "Close"] "bounds" (xVar 1)))))
theorem sc_Fact_eq : FnScope N_Fact_eq ["self", "other"] (defScope s_Fact_eq) := ⟨rfl, rfl, rfl, by decide +kernel, rfl, by decide +kernel, by decide +kernel⟩
def m_Fact_eq : Mir := mir 2 2 F_Fact_eq
theorem ok_Fact_eq {w : World} {K : PySem.W.Frag} {mg : Str → Option Value} {base : Heap} (x : Fx PP fa fn K mg) : FO PP w K mg base 1 (He.ma K (He.ga K "Fact") "__eq__") ["self", "other"] (spD K m_Fact_eq) := by
  obtain ⟨fd, D⟩ := x.c.def_ 30 (d := d_Fact_eq)
  have hN := sc_Fact_eq.nd
  exact fn_k D sc_Fact_eq (by decide) (FunD.bindsN D fun _ _ _ _ _ _ us hl => match us, hl with | [_, _], _ => rfl) fun cdv A outer s H E hr tk po => dss_cons (ds_if (dw_pt (dw_or (dt_not (dt_val (k_isi (x.f 76) (x.fr (x.f 7)) (d_var 1) (cl_own (x.gl (x.f 75)))))) (dw_or1 (dt_cmp (op_neD hr.units) od_ne (k_con (x.f 77) (d_var 0)) (k_con (x.f 77) (d_var 1)))))) (dss_one (ds_ret (d_bl))) (dss_nil)) (dss_one (ds_ret (d_and (d_cmp (op_eqD hr.units) od_eq (k_fld (x.f 21) (d_var 0)) (k_fld (x.f 21) (d_var 1))) (d_one (d_cmp (op_eqD hr.units) od_eq (k_fld (x.f 52) (d_var 0)) (k_fld (x.f 52) (d_var 1)))))))
abbrev N_Event_machine : List Str := ["self"]
def F_Event_machine : Ev → SR := sRet (xFld ["Event"] "host" (xVar 0))
theorem sc_Event_machine : FnScope N_Event_machine ["self"] (defScope s_Event_machine) := ⟨rfl, rfl, rfl, by decide +kernel, rfl, by decide +kernel, by decide +kernel⟩
def m_Event_machine : Mir := mir 1 1 F_Event_machine
theorem ok_Event_machine {w : World} {K : PySem.W.Frag} {mg : Str → Option Value} {base : Heap} (x : Fx PP fa fn K mg) : FO PP w K mg base 1 ((Wh.prop "Event" "machine").adr K) ["self"] (spD K m_Event_machine) := by
  obtain ⟨fd, D⟩ := x.c.def_ 31 (d := d_Event_machine)
  have hN := sc_Event_machine.nd
  exact fn_k D sc_Event_machine (by decide) (FunD.bindsN D fun _ _ _ _ _ _ us hl => match us, hl with | [_], _ => rfl) fun cdv A outer s H E hr tk po => dss_one (ds_ret (k_fld (x.f 18) (d_var 0)))
abbrev N_Event_time : List Str := ["self"]
def F_Event_time : Ev → SR := sRet (xFld ["Event"] "clock" (xVar 0))
theorem sc_Event_time : FnScope N_Event_time ["self"] (defScope s_Event_time) := ⟨rfl, rfl, rfl, by decide +kernel, rfl, by decide +kernel, by decide +kernel⟩
def m_Event_time : Mir := mir 1 1 F_Event_time
theorem ok_Event_time {w : World} {K : PySem.W.Frag} {mg : Str → Option Value} {base : Heap} (x : Fx PP fa fn K mg) : FO PP w K mg base 1 ((Wh.prop "Event" "time").adr K) ["self"] (spD K m_Event_time) := by
  obtain ⟨fd, D⟩ := x.c.def_ 32 (d := d_Event_time)
  have hN := sc_Event_time.nd
  exact fn_k D sc_Event_time (by decide) (FunD.bindsN D fun _ _ _ _ _ _ us hl => match us, hl with | [_], _ => rfl) fun cdv A outer s H E hr tk po => dss_one (ds_ret (k_fld (x.f 49) (d_var 0)))
abbrev N_Fact_names : List Str := ["self"]
def F_Fact_names : Ev → SR := sRet (xFld ["After", "Within", "Close"] "pair" (xVar 0))
theorem sc_Fact_names : FnScope N_Fact_names ["self"] (defScope s_Fact_names) := ⟨rfl, rfl, rfl, by decide +kernel, rfl, by decide +kernel, by decide +kernel⟩
def m_Fact_names : Mir := mir 1 1 F_Fact_names
theorem ok_Fact_names {w : World} {K : PySem.W.Frag} {mg : Str → Option Value} {base : Heap} (x : Fx PP fa fn K mg) : FO PP w K mg base 1 ((Wh.prop "Fact" "names").adr K) ["self"] (spD K m_Fact_names) := by
  obtain ⟨fd, D⟩ := x.c.def_ 33 (d := d_Fact_names)
  have hN := sc_Fact_names.nd
  exact fn_k D sc_Fact_names (by decide) (FunD.bindsN D fun _ _ _ _ _ _ us hl => match us, hl with | [_], _ => rfl) fun cdv A outer s H E hr tk po => dss_one (ds_ret (k_fld (x.f 21) (d_var 0)))
abbrev N_Fact_numbers : List Str := ["self"]
def F_Fact_numbers : Ev → SR := sRet (xFld ["After", "Within", "Close"] "bounds" (xVar 0))
theorem sc_Fact_numbers : FnScope N_Fact_numbers ["self"] (defScope s_Fact_numbers) := ⟨rfl, rfl, rfl, by decide +kernel, rfl, by decide +kernel, by decide +kernel⟩
def m_Fact_numbers : Mir := mir 1 1 F_Fact_numbers
theorem ok_Fact_numbers {w : World} {K : PySem.W.Frag} {mg : Str → Option Value} {base : Heap} (x : Fx PP fa fn K mg) : FO PP w K mg base 1 ((Wh.prop "Fact" "numbers").adr K) ["self"] (spD K m_Fact_numbers) := by
  obtain ⟨fd, D⟩ := x.c.def_ 34 (d := d_Fact_numbers)
  have hN := sc_Fact_numbers.nd
  exact fn_k D sc_Fact_numbers (by decide) (FunD.bindsN D fun _ _ _ _ _ _ us hl => match us, hl with | [_], _ => rfl) fun cdv A outer s H E hr tk po => dss_one (ds_ret (k_fld (x.f 52) (d_var 0)))
abbrev N__law_is_true : List Str := ["_law_fact_here", "_law_times", "_law_offsets", "_law_name", "_law_word", "_law_one", "_law_other", "_law_numbers", "_law_gap"]
def F__law_is_true : Ev → SR := sSeq (sAsg (xVar 0) (gT 5 (gsCons (gN 3) (gsCons (gN 4) (gsCons (gN 5) (gsCons (gN 6) (gsCons (gN 7) (gsNil)))))))) (sSeq (sIf (xTest (xOp oEq (xVar 4) (xC (.str "close")))) (sRet (xChain oLe oLe (xUn oNeg (xOp oIxU (xVar 7) (xC (.int 0)))) (xOp oSub (xOp oIxU (xVar 2) (xVar 5)) (xOp oIxU (xVar 2) (xVar 6))) (xOp oIxU (xVar 7) (xC (.int 0))))) (sNx)) (sSeq (sSet 8 (xOp oSub (xOp oIxU (xVar 1) (xVar 5)) (xOp oIxU (xVar 1) (xVar 6)))) (sRet (xAndV (xOp oLe (xOp oIxU (xVar 7) (xC (.int 0))) (xVar 8)) (xOrV (xOp oEq (xVar 4) (xC (.str "after"))) (xOp oLe (xVar 8) (xOp oIxU (xVar 7) (xC (.int 1)))))))))
theorem sc__law_is_true : FnScope N__law_is_true ["_law_fact_here", "_law_times", "_law_offsets"] (defScope s__law_is_true) := ⟨rfl, rfl, rfl, by decide +kernel, rfl, by decide +kernel, by decide +kernel⟩
def m__law_is_true : Mir := mir 9 3 F__law_is_true
theorem ok__law_is_true {w : World} {K : PySem.W.Frag} {mg : Str → Option Value} {base : Heap} (x : Fx PP fa fn K mg) : FO PP w K mg base 1 (He.ga K "_law_is_true") ["_law_fact_here", "_law_times", "_law_offsets"] (spD K m__law_is_true) := by
  obtain ⟨fd, D⟩ := x.c.def_ 35 (d := d__law_is_true)
  have hN := sc__law_is_true.nd
  exact fn_k D sc__law_is_true (by decide) (FunD.bindsN D fun _ _ _ _ _ _ us hl => match us, hl with | [_, _, _], _ => rfl) fun cdv A outer s H E hr tk po => dss_cons (ds_asg (d_var 0) (dg_tup rfl (dgs_cons (dg_name 3 hN) (dgs_cons (dg_name 4 hN) (dgs_cons (dg_name 5 hN) (dgs_cons (dg_name 6 hN) (dgs_cons (dg_name 7 hN) (dgs_nil)))))))) (dss_cons (ds_if (dt_cmp (op_eqD hr.units) od_eq (d_var 4) (d_str)) (dss_one (ds_ret (d_chain op_le op_le od_le od_le (d_un un_neg (fun s r h => od_neg s r h) (d_ixU hr (d_var 7) (d_int))) (d_op op_sub od_sub (d_ixU hr (d_var 2) (d_var 5)) (d_ixU hr (d_var 2) (d_var 6))) (d_ixU hr (d_var 7) (d_int))))) (dss_nil)) (dss_cons (ds_set 8 hN (d_op op_sub od_sub (d_ixU hr (d_var 1) (d_var 5)) (d_ixU hr (d_var 1) (d_var 6)))) (dss_one (ds_ret (d_and (d_cmp op_le od_le (d_ixU hr (d_var 7) (d_int)) (d_var 8)) (d_one (d_or (d_cmp (op_eqD hr.units) od_eq (d_var 4) (d_str)) (d_one (d_cmp op_le od_le (d_var 8) (d_ixU hr (d_var 7) (d_int)))))))))))
abbrev N_check_log : List Str := ["log"]
def F_check_log : Ev → SR := sIf (xNot (xTest (xIsi T9 (xVar 0)))) (sBad) (sNx)
theorem sc_check_log : FnScope N_check_log ["log"] (defScope s_check_log) := ⟨rfl, rfl, rfl, by decide +kernel, rfl, by decide +kernel, by decide +kernel⟩
def m_check_log : Mir := mir 1 1 F_check_log
theorem ok_check_log {w : World} {K : PySem.W.Frag} {mg : Str → Option Value} {base : Heap} (x : Fx PP fa fn K mg) : FO PP w K mg base 1 (He.ga K "check_log") ["log"] (spD K m_check_log) := by
  obtain ⟨fd, D⟩ := x.c.def_ 36 (d := d_check_log)
  have hN := sc_check_log.nd
  exact fn_k D sc_check_log (by decide) (FunD.bindsN D fun _ _ _ _ _ _ us hl => match us, hl with | [_], _ => rfl) fun cdv A outer s H E hr tk po => dss_one (ds_if (dt_not (dt_val (k_isi (x.f 78) (x.fr (x.f 7)) (d_var 0) (cl_own (x.gl (x.f 60)))))) (dss_one (ds_bad)) (dss_nil))
abbrev N_check_set : List Str := ["log", "some", "name"]
def F_check_set : Ev → SR := sSeq (sIf (xOr (xNot (xTest (xIsi T1 (xVar 1)))) (xNot (xTest (xCB oAll (xCons (xLc [2] (xSrc asAnyU (xVar 1)) (gN 2) (xYes) (xIsi T0 (xVar 2))) (xNil)))))) (sRaise "InvalidSet" (fun _ => .ok [])) (sNx)) (sIf (xTest (xOp oNe (xCB oListU (xCons (xVar 1) (xNil))) (xLc [2] (xSrc asAnyU (xFld ["Log"] "known" (xVar 0))) (gN 2) (xTest (xOp (oInU false) (xVar 2) (xVar 1))) (xVar 2)))) (sRaise "InvalidSet" (fun _ => .ok [])) (sNx))
theorem sc_check_set : FnScope N_check_set ["log", "some"] (defScope s_check_set) := ⟨rfl, rfl, rfl, by decide +kernel, rfl, by decide +kernel, by decide +kernel⟩
def m_check_set : Mir := mir 3 2 F_check_set
theorem ok_check_set {w : World} {K : PySem.W.Frag} {mg : Str → Option Value} {base : Heap} (x : Fx PP fa fn K mg) : FO PP w K mg base 1 (He.ga K "check_set") ["log", "some"] (spD K m_check_set) := by
  obtain ⟨fd, D⟩ := x.c.def_ 37 (d := d_check_set)
  have hN := sc_check_set.nd
  exact fn_k D sc_check_set (by decide) (FunD.bindsN D fun _ _ _ _ _ _ us hl => match us, hl with | [_, _], _ => rfl) fun cdv A outer s H E hr tk po => dss_cons (ds_if (dw_pt (dw_or (dt_not (dt_val (k_isi (x.f 12) (x.fr (x.f 7)) (d_var 1) (cl_ty (x.fr (x.f 11)) (by decide +kernel))))) (dw_or1 (dt_not (dt_val (d_callB (cr_all rfl) cb_all (x.fr (x.f 10)) (by decide +kernel) (da_cons (d_lc (own := [("name", 2)]) rfl hN (blkOk_by (by kernel_rfl)) (by decide) (di_anyU (d_var 1)) (fun _ _ _ _ _ => dg_name 2 hN) (fun _ _ _ _ _ => dts_nil) (fun _ _ _ _ _ => k_isi (x.f 6) (x.fr (x.f 7)) (d_var 2) (cl_ty (x.fr (x.f 5)) (by decide +kernel)))) (da_nil)))))))) (dss_one (k_raise rfl tk (x.gl (x.f 79)) (x.f 80))) (dss_nil)) (dss_one (ds_if (dt_cmp (op_neD hr.units) od_ne (d_callTy (call_listU rfl) cb_listU (x.fr (x.f 72)) (by decide +kernel) (da_cons (d_var 1) (da_nil))) (d_lc (own := [("name", 2)]) rfl hN (blkOk_by (by kernel_rfl)) (by decide) (di_anyU (k_fld (x.f 4) (d_var 0))) (fun _ _ _ _ _ => dg_name 2 hN) (fun _ _ _ _ _ => dts_one (dt_cmp (or_in hr) od_inU (d_var 2) (d_var 1))) (fun _ _ _ _ _ => d_var 2))) (dss_one (k_raise rfl tk (x.gl (x.f 79)) (x.f 80))) (dss_nil)))
abbrev N_rows_of : List Str := ["log", "some", "found", "name", "fact", "one", "other", "early", "late"]
def B_rows_of_1 : Ev → SR := sSeq (sSet 4 (xOp oIxU (xFld ["Log"] "known" (xVar 0)) (xVar 3))) (sSeq (sAsg (xFld ["After", "Within", "Close"] "pair" (xVar 4)) (gT 2 (gsCons (gN 5) (gsCons (gN 6) (gsNil))))) (sIf (xTest (xIsi T3 (xVar 4))) (sExt 2 (xLst (xCons (xTup (xCons (xVar 3) (xCons (xVar 6) (xCons (xVar 5) (xCons (xUn oNeg (xOp oIxU (xFld ["After", "Within", "Close"] "bounds" (xVar 4)) (xC (.int 0)))) (xNil)))))) (xCons (xTup (xCons (xVar 3) (xCons (xVar 5) (xCons (xVar 6) (xCons (xUn oNeg (xOp oIxU (xFld ["After", "Within", "Close"] "bounds" (xVar 4)) (xC (.int 0)))) (xNil)))))) (xNil))))) (sSeq (sPar 7 8 (xOp oIxU (xFld ["Log"] "places" (xVar 0)) (xVar 6)) (xOp oIxU (xFld ["Log"] "places" (xVar 0)) (xVar 5))) (sSeq (sApp 2 (xTup (xCons (xVar 3) (xCons (xFld ["Event"] "host" (xVar 7)) (xCons (xFld ["Event"] "host" (xVar 8)) (xCons (xOp oAdd (xOp oSub (xOp oIxU (xFld ["After", "Within", "Close"] "bounds" (xVar 4)) (xC (.int 0))) (xFld ["Event"] "clock" (xVar 8))) (xFld ["Event"] "clock" (xVar 7))) (xNil))))))) (sIf (xTest (xIsi T10 (xVar 4))) (sApp 2 (xTup (xCons (xVar 3) (xCons (xFld ["Event"] "host" (xVar 8)) (xCons (xFld ["Event"] "host" (xVar 7)) (xCons (xOp oSub (xOp oSub (xFld ["Event"] "clock" (xVar 8)) (xFld ["Event"] "clock" (xVar 7))) (xOp oIxU (xFld ["After", "Within", "Close"] "bounds" (xVar 4)) (xC (.int 1)))) (xNil))))))) (sNx))))))
def F_rows_of : Ev → SR := sSeq (sNewL 2 (xNil)) (sSeq (sFor (xSrc asAnyU (xVar 1)) (gN 3) (B_rows_of_1)) (sFz 2 (sRet (xVar 2))))
theorem sc_rows_of : FnScope N_rows_of ["log", "some"] (defScope s_rows_of) := ⟨rfl, rfl, rfl, by decide +kernel, rfl, by decide +kernel, by decide +kernel⟩
def m_rows_of : Mir := mir 9 2 F_rows_of
theorem ok_rows_of {w : World} {K : PySem.W.Frag} {mg : Str → Option Value} {base : Heap} (x : Fx PP fa fn K mg) : FO PP w K mg base 1 (He.ga K "rows_of") ["log", "some"] (spD K m_rows_of) := by
  obtain ⟨fd, D⟩ := x.c.def_ 38 (d := d_rows_of)
  have hN := sc_rows_of.nd
  exact fn_k D sc_rows_of (by decide) (FunD.bindsN D fun _ _ _ _ _ _ us hl => match us, hl with | [_, _], _ => rfl) fun cdv A outer s H E hr tk po => dss_cons (ds_newL 2 hN (da_nil)) (dss_cons (ds_for po rfl (di_anyU (d_var 1)) (dg_name 3 hN) (dss_cons (ds_set 4 hN (d_ixU hr (k_fld (x.f 4) (d_var 0)) (d_var 3))) (dss_cons (ds_asg (k_fld (x.f 21) (d_var 4)) (dg_tup rfl (dgs_cons (dg_name 5 hN) (dgs_cons (dg_name 6 hN) (dgs_nil))))) (dss_one (ds_if (dt_val (k_isi (x.f 20) (x.fr (x.f 7)) (d_var 4) (cl_own (x.gl (x.f 19))))) (dss_one (ds_ext 2 (d_lst (da_cons (d_tup (da_cons (d_var 3) (da_cons (d_var 6) (da_cons (d_var 5) (da_cons (d_un un_neg (fun s r h => od_neg s r h) (d_ixU hr (k_fld (x.f 52) (d_var 4)) (d_int))) (da_nil)))))) (da_cons (d_tup (da_cons (d_var 3) (da_cons (d_var 5) (da_cons (d_var 6) (da_cons (d_un un_neg (fun s r h => od_neg s r h) (d_ixU hr (k_fld (x.f 52) (d_var 4)) (d_int))) (da_nil)))))) (da_nil)))))) (dss_cons (ds_par 7 8 rfl hN (d_ixU hr (k_fld (x.f 37) (d_var 0)) (d_var 6)) (d_ixU hr (k_fld (x.f 37) (d_var 0)) (d_var 5))) (dss_cons (ds_app 2 (d_tup (da_cons (d_var 3) (da_cons (k_fld (x.f 18) (d_var 7)) (da_cons (k_fld (x.f 18) (d_var 8)) (da_cons (d_op op_addA od_add (d_op op_sub od_sub (d_ixU hr (k_fld (x.f 52) (d_var 4)) (d_int)) (k_fld (x.f 49) (d_var 8))) (k_fld (x.f 49) (d_var 7))) (da_nil))))))) (dss_one (ds_if (dt_val (k_isi (x.f 81) (x.fr (x.f 7)) (d_var 4) (cl_own (x.gl (x.f 23))))) (dss_one (ds_app 2 (d_tup (da_cons (d_var 3) (da_cons (k_fld (x.f 18) (d_var 8)) (da_cons (k_fld (x.f 18) (d_var 7)) (da_cons (d_op op_sub od_sub (d_op op_sub od_sub (k_fld (x.f 49) (d_var 8)) (k_fld (x.f 49) (d_var 7))) (d_ixU hr (k_fld (x.f 52) (d_var 4)) (d_int))) (da_nil)))))))) (dss_nil)))))))))) (dss_frz 2 (dss_one (ds_ret (d_var 2)))))
abbrev N_are_fitting : List Str := ["log", "some", "offsets", "name", "early", "late", "least"]
def F_are_fitting : Ev → SR := sRet (xCB oAll (xCons (xLc [3, 4, 5, 6] (xSrc asAnyU (xCall m_rows_of (xCons (xVar 0) (xCons (xVar 1) (xNil))))) (gT 4 (gsCons (gN 3) (gsCons (gN 4) (gsCons (gN 5) (gsCons (gN 6) (gsNil)))))) (xYes) (xOp oGe (xOp oSub (xOp oIxU (xVar 2) (xVar 5)) (xOp oIxU (xVar 2) (xVar 4))) (xVar 6))) (xNil)))
theorem sc_are_fitting : FnScope N_are_fitting ["log", "some", "offsets"] (defScope s_are_fitting) := ⟨rfl, rfl, rfl, by decide +kernel, rfl, by decide +kernel, by decide +kernel⟩
def m_are_fitting : Mir := mir 7 3 F_are_fitting
theorem ok_are_fitting {w : World} {K : PySem.W.Frag} {mg : Str → Option Value} {base : Heap} (x : Fx PP fa fn K mg) : FO PP w K mg base 2 (He.ga K "are_fitting") ["log", "some", "offsets"] (spD K m_are_fitting) := by
  obtain ⟨fd, D⟩ := x.c.def_ 39 (d := d_are_fitting)
  have hN := sc_are_fitting.nd
  exact fn_k D sc_are_fitting (by decide) (FunD.bindsN D fun _ _ _ _ _ _ us hl => match us, hl with | [_, _, _], _ => rfl) fun cdv A outer s H E hr tk po => dss_one (ds_ret (d_callB (cr_all rfl) cb_all (x.fr (x.f 10)) (by decide +kernel) (da_cons (d_lc (own := [("name", 3), ("early", 4), ("late", 5), ("least", 6)]) rfl hN (blkOk_by (by kernel_rfl)) (by decide) (di_anyU (k_call tk (ok_rows_of x) hr (by decide) (x.gl (x.f 82)) (x.f 83) (da_cons (d_var 0) (da_cons (d_var 1) (da_nil))))) (fun _ _ _ _ _ => dg_tup rfl (dgs_cons (dg_name 3 hN) (dgs_cons (dg_name 4 hN) (dgs_cons (dg_name 5 hN) (dgs_cons (dg_name 6 hN) (dgs_nil)))))) (fun _ _ _ _ _ => dts_nil) (fun _ _ _ _ _ => d_cmp op_ge od_ge (d_op op_sub od_sub (d_ixU hr (d_var 2) (d_var 5)) (d_ixU hr (d_var 2) (d_var 4))) (d_var 6))) (da_nil))))
abbrev N_fits : List Str := ["log", "some", "offsets"]
def F_fits : Ev → SR := sSeq (sDrop (xCall m_check_log (xCons (xVar 0) (xNil)))) (sSeq (sDrop (xCall m_check_set (xCons (xVar 0) (xCons (xVar 1) (xNil))))) (sSeq (sDrop (xCall m_check_offsets (xCons (xVar 0) (xCons (xVar 2) (xNil))))) (sRet (xCall m_are_fitting (xCons (xVar 0) (xCons (xVar 1) (xCons (xVar 2) (xNil))))))))
theorem sc_fits : FnScope N_fits ["log", "some", "offsets"] (defScope s_fits) := ⟨rfl, rfl, rfl, by decide +kernel, rfl, by decide +kernel, by decide +kernel⟩
def m_fits : Mir := mir 3 3 F_fits
theorem ok_fits {w : World} {K : PySem.W.Frag} {mg : Str → Option Value} {base : Heap} (x : Fx PP fa fn K mg) : FO PP w K mg base 4 (He.ga K "fits") ["log", "some", "offsets"] (spD K m_fits) := by
  obtain ⟨fd, D⟩ := x.c.def_ 40 (d := d_fits)
  have hN := sc_fits.nd
  exact fn_k D sc_fits (by decide) (FunD.bindsN D fun _ _ _ _ _ _ us hl => match us, hl with | [_, _, _], _ => rfl) fun cdv A outer s H E hr tk po => dss_cons (ds_drop (k_call tk (ok_check_log x) hr (by decide) (x.gl (x.f 84)) (x.f 85) (da_cons (d_var 0) (da_nil)))) (dss_cons (ds_drop (k_call tk (ok_check_set x) hr (by decide) (x.gl (x.f 86)) (x.f 87) (da_cons (d_var 0) (da_cons (d_var 1) (da_nil))))) (dss_cons (ds_drop (k_call tk (ok_check_offsets x) hr (by decide) (x.gl (x.f 68)) (x.f 69) (da_cons (d_var 0) (da_cons (d_var 2) (da_nil))))) (dss_one (ds_ret (k_call tk (ok_are_fitting x) hr (by decide) (x.gl (x.f 88)) (x.f 89) (da_cons (d_var 0) (da_cons (d_var 1) (da_cons (d_var 2) (da_nil)))))))))
abbrev N_Log_getitem : List Str := ["self", "name"]
def F_Log_getitem : Ev → SR := sSeq (sIf (xOr (xNot (xTest (xIsi T0 (xVar 1)))) (xTest (xOp (oInU true) (xVar 1) (xFld ["Log"] "places" (xVar 0))))) (sRaise "InvalidName" (fun _ => .ok [])) (sNx)) (sRet (xOp oIxU (xFld ["Log"] "places" (xVar 0)) (xVar 1)))
theorem sc_Log_getitem : FnScope N_Log_getitem ["self", "name"] (defScope s_Log_getitem) := ⟨rfl, rfl, rfl, by decide +kernel, rfl, by decide +kernel, by decide +kernel⟩
def m_Log_getitem : Mir := mir 2 2 F_Log_getitem
theorem ok_Log_getitem {w : World} {K : PySem.W.Frag} {mg : Str → Option Value} {base : Heap} (x : Fx PP fa fn K mg) : FO PP w K mg base 1 (He.ma K (He.ga K "Log") "__getitem__") ["self", "name"] (spD K m_Log_getitem) := by
  obtain ⟨fd, D⟩ := x.c.def_ 41 (d := d_Log_getitem)
  have hN := sc_Log_getitem.nd
  exact fn_k D sc_Log_getitem (by decide) (FunD.bindsN D fun _ _ _ _ _ _ us hl => match us, hl with | [_, _], _ => rfl) fun cdv A outer s H E hr tk po => dss_cons (ds_if (dw_pt (dw_or (dt_not (dt_val (k_isi (x.f 6) (x.fr (x.f 7)) (d_var 1) (cl_ty (x.fr (x.f 5)) (by decide +kernel))))) (dw_or1 (dt_cmp (or_notin hr) od_inU (d_var 1) (k_fld (x.f 37) (d_var 0)))))) (dss_one (k_raise rfl tk (x.gl (x.f 62)) (x.f 63))) (dss_nil)) (dss_one (ds_ret (d_ixU hr (k_fld (x.f 37) (d_var 0)) (d_var 1))))
abbrev N_law : List Str := ["_law_script", "_law_log_here", "_law_whole_here", "_law_names", "_law_row", "_law_fact_here", "_law_sets_here", "_law_some", "_law_name", "_law_one", "_law_turn", "_law_draws", "_law_offsets", "_law_times", "_law_found", "_law_good", "_law_place", "_law_host", "_law_draw", "_law_clock"]
def B_law_1 : Ev → SR := sSeq (sSet 9 (xMeth "Log" "fact" m_Log_fact (xVar 2) (xCons (xOp oIxU (xVar 5) (xC (.int 0))) (xNil)))) (sIf (xOr (xTest (xOp (oNeO ["After", "Within", "Close"] m_Fact_eq) (xVar 9) (xCall m__law_fact (xCons (xVar 5) (xNil))))) (xOr (xTest (xOp oNe (xProps ["After", "Within", "Close"] m_Fact_names (xVar 9)) (xSl (xVar 5) (xPart (xC (.int 2))) (xPart (xC (.int 4)))))) (xOr (xTest (xOp oNe (xProps ["After", "Within", "Close"] m_Fact_numbers (xVar 9)) (xCB oTuple (xCons (xOp oIxU (xVar 5) (xC (.int 4))) (xNil))))) (xTest (xOp (oInV true "Log" m_Log_contains) (xOp oIxU (xVar 5) (xC (.int 0))) (xVar 2)))))) (sRet (xC (.bl false))) (sNx))
def B_law_2 : Ev → SR := sIf (xTest (xOp oNe (xCall m_fits (xCons (xVar 2) (xCons (xVar 7) (xCons (xVar 12) (xNil))))) (xCB oAll (xCons (xLc [8] (xSrc asAnyU (xVar 7)) (gN 8) (xYes) (xOp (oInU false) (xVar 8) (xVar 15))) (xNil))))) (sRet (xC (.bl false))) (sNx)
def B_law_3 : Ev → SR := sSeq (sSetLc 11 (xLcs [16] (xIt asRange1 (xCons (xC (.int 4)) (xNil))) (gN 16) (xYes) (xOp oSub (xOp oMod (xCall m__law_cell_at (xCons (xVar 0) (xCons (xOp oAdd (xOp oAdd (xC (.int 40)) (xOp oMul (xC (.int 4)) (xVar 10))) (xVar 16)) (xNil)))) (xC (.int 25))) (xC (.int 12))))) (sSeq (sSetD 12 (xDict (xCons (xLc [17, 18] (xIt asZip (xCons (xOp oIxU (xVar 1) (xC (.int 0))) (xCons (xVar 11) (xNil)))) (gT 2 (gsCons (gN 17) (gsCons (gN 18) (gsNil)))) (xYes) (xTup (xCons (xVar 17) (xCons (xVar 18) (xNil))))) (xNil)))) (sSeq (sPutD 12 (xC (.int 0)) (xOp oIxU (xOp oIxU (xVar 1) (xC (.int 0))) (xC (.int 0)))) (sFzD 12 (sSeq (sSet 13 (xDic (xDict (xCons (xLc [8, 17, 19] (xSrc asAnyU (xOp oIxU (xVar 1) (xC (.int 1)))) (gT 3 (gsCons (gN 8) (gsCons (gN 17) (gsCons (gN 19) (gsNil))))) (xYes) (xTup (xCons (xVar 8) (xCons (xOp oAdd (xVar 19) (xOp oIxU (xVar 12) (xVar 17))) (xNil))))) (xNil))))) (sSeq (sSet 14 (xCallO "Log" m_Log_call 2 (xCons (xVar 12) (xNil)))) (sSeq (sIf (xOr (xTest (xOp (oDicS true) (xVar 14) (xVar 13))) (xTest (xOp oNe (xCB oListU (xCons (xVar 14) (xNil))) (xVar 3)))) (sRet (xC (.bl false))) (sNx)) (sSeq (sSet 15 (xLc [5] (xSrc asAnyU (xOp oIxU (xVar 1) (xC (.int 2)))) (gN 5) (xTest (xCall m__law_is_true (xCons (xVar 5) (xCons (xVar 13) (xCons (xVar 12) (xNil)))))) (xOp oIxU (xVar 5) (xC (.int 0))))) (sFor (xSrc asAnyU (xVar 6)) (gN 7) (B_law_2)))))))))
def F_law : Ev → SR := sSeq (sSet 1 (xCall m__law_log (xCons (xVar 0) (xCons (xC (.int 0)) (xCons (xC (.int 6)) (xNil)))))) (sSeq (sAsg (xTup (xCons (xCall m__law_whole (xCons (xVar 1) (xNil))) (xCons (xLc [4] (xSrc asAnyU (xOp oIxU (xVar 1) (xC (.int 1)))) (gN 4) (xYes) (xOp oIxU (xVar 4) (xC (.int 0)))) (xNil)))) (gT 2 (gsCons (gN 2) (gsCons (gN 3) (gsNil))))) (sSeq (sIf (xTest (xOp oNe (xTup (xCons (xProps ["Log"] m_Log_machines (xVar 2)) (xCons (xProps ["Log"] m_Log_events (xVar 2)) (xCons (xProps ["Log"] m_Log_facts (xVar 2)) (xNil))))) (xTup (xCons (xCB oTuple (xCons (xOp oIxU (xVar 1) (xC (.int 0))) (xNil))) (xCons (xVar 3) (xCons (xLc [5] (xSrc asAnyU (xOp oIxU (xVar 1) (xC (.int 2)))) (gN 5) (xYes) (xOp oIxU (xVar 5) (xC (.int 0)))) (xNil))))))) (sRet (xC (.bl false))) (sNx)) (sSeq (sIf (xTest (xOp oNe (xCB (oLenV "Log" m_Log_len) (xCons (xVar 2) (xNil))) (xCB oLenU (xCons (xVar 3) (xNil))))) (sRet (xC (.bl false))) (sNx)) (sSeq (sSetLc 6 (xLcs [7] (xG (xGen0 "Log" "subsets" m_Log_subsets (xVar 2))) (gN 7) (xYes) (xVar 7))) (sSeq (sIf (xTest (xOp oNe (xVar 6) (xCall m__law_sets (xCons (xVar 1) (xNil))))) (sRet (xC (.bl false))) (sNx)) (sSeq (sIf (xTest (xOp oNe (xLc [8] (xSrc asAnyU (xVar 3)) (gN 8) (xYes) (xTup (xCons (xProps ["Event"] m_Event_machine (xMeth "Log" "__getitem__" m_Log_getitem (xVar 2) (xCons (xVar 8) xNil))) (xCons (xProps ["Event"] m_Event_time (xMeth "Log" "__getitem__" m_Log_getitem (xVar 2) (xCons (xVar 8) xNil))) (xNil))))) (xLc [4] (xSrc asAnyU (xOp oIxU (xVar 1) (xC (.int 1)))) (gN 4) (xYes) (xSl (xVar 4) (xPart (xC (.int 1))) (xNo))))) (sRet (xC (.bl false))) (sNx)) (sSeq (sFor (xSrc asAnyU (xOp oIxU (xVar 1) (xC (.int 2)))) (gN 5) (B_law_1)) (sSeq (sFor (xIt asRange1 (xCons (xC (.int 6)) (xNil))) (gN 10) (B_law_3)) (sRet (xOp (oInV true "Log" m_Log_contains) (xC (.str "nosuch")) (xVar 2)))))))))))
theorem sc_law : FnScope N_law ["_law_script"] (defScope s_law) := ⟨rfl, rfl, rfl, by decide +kernel, rfl, by decide +kernel, by decide +kernel⟩
def m_law : Mir := mir 20 1 F_law
theorem ok_law {w : World} {K : PySem.W.Frag} {mg : Str → Option Value} (x : Fx PP fa fn K mg) : FL PP w K mg 9 (He.ga K "law") "_law_script" m_law := by
  obtain ⟨fd, D⟩ := x.c.def_ 42 (d := d_law)
  have hN := sc_law.nd
  exact fn_kl D sc_law (by decide) (fun _ _ _ _ _ _ us hl => match us, hl with | [_], _ => rfl) fun base cdv A outer s H E hr tk po => dss_cons (ds_set 1 hN (k_call tk (ok__law_log x) hr (by decide) (x.gl (x.f 90)) (x.f 91) (da_cons (d_var 0) (da_cons (d_int) (da_cons (d_int) (da_nil)))))) (dss_cons (ds_asg (d_tup (da_cons (k_call tk (ok__law_whole x) hr (by decide) (x.gl (x.f 92)) (x.f 93) (da_cons (d_var 1) (da_nil))) (da_cons (d_lc (own := [("_law_row", 4)]) rfl hN (blkOk_by (by kernel_rfl)) (by decide) (di_anyU (d_ixU hr (d_var 1) (d_int))) (fun _ _ _ _ _ => dg_name 4 hN) (fun _ _ _ _ _ => dts_nil) (fun _ _ _ _ _ => d_ixU hr (d_var 4) (d_int))) (da_nil)))) (dg_tup rfl (dgs_cons (dg_name 2 hN) (dgs_cons (dg_name 3 hN) (dgs_nil))))) (dss_cons (ds_if (dt_cmp (op_neD hr.units) od_ne (d_tup (da_cons (k_props (x.f 96) (ok_Log_machines x) hr (by decide) (d_var 2)) (da_cons (k_props (x.f 95) (ok_Log_events x) hr (by decide) (d_var 2)) (da_cons (k_props (x.f 94) (ok_Log_facts x) hr (by decide) (d_var 2)) (da_nil))))) (d_tup (da_cons (d_callTy call_tuple_of cb_tuple (x.fr (x.f 11)) (by decide +kernel) (da_cons (d_ixU hr (d_var 1) (d_int)) (da_nil))) (da_cons (d_var 3) (da_cons (d_lc (own := [("_law_fact_here", 5)]) rfl hN (blkOk_by (by kernel_rfl)) (by decide) (di_anyU (d_ixU hr (d_var 1) (d_int))) (fun _ _ _ _ _ => dg_name 5 hN) (fun _ _ _ _ _ => dts_nil) (fun _ _ _ _ _ => d_ixU hr (d_var 5) (d_int))) (da_nil)))))) (dss_one (ds_ret (d_bl))) (dss_nil)) (dss_cons (ds_if (dt_cmp (op_neD hr.units) od_ne (d_callB (call_lenV (x.f 97) (ok_Log_len x) hr (by decide)) cb_lenV (x.fr (x.f 0)) (by decide +kernel) (da_cons (d_var 2) (da_nil))) (d_callB call_lenU cb_lenU (x.fr (x.f 0)) (by decide +kernel) (da_cons (d_var 3) (da_nil)))) (dss_one (ds_ret (d_bl))) (dss_nil)) (dss_cons (ds_setLcG 6 (own := [("_law_some", 7)]) rfl hN (hr.mono (by decide)) (blkOk_by (by kernel_rfl)) (by decide) (k_gen0 (x.f 98) (ok_Log_subsets x) hr (by decide) (d_var 2)) (fun _ _ _ _ _ => dg_name 7 hN) (fun _ _ _ _ _ => dts_nil) (fun _ _ _ _ _ => d_var 7)) (dss_cons (ds_if (dt_cmp (op_neD hr.units) od_ne (d_var 6) (k_call tk (ok__law_sets x) hr (by decide) (x.gl (x.f 99)) (x.f 100) (da_cons (d_var 1) (da_nil)))) (dss_one (ds_ret (d_bl))) (dss_nil)) (dss_cons (ds_if (dt_cmp (op_neD hr.units) od_ne (d_lc (own := [("_law_name", 8)]) rfl hN (blkOk_by (by kernel_rfl)) (by decide) (di_anyU (d_var 3)) (fun _ _ _ _ _ => dg_name 8 hN) (fun _ _ _ _ _ => dts_nil) (fun _ _ _ _ _ => d_tup (da_cons (k_props (x.f 103) (ok_Event_machine x) hr (by decide) (d_ixOwn tk0 (x.f 101) (ok_Log_getitem x) hr (by decide) (d_var 2) (d_var 8))) (da_cons (k_props (x.f 102) (ok_Event_time x) hr (by decide) (d_ixOwn tk0 (x.f 101) (ok_Log_getitem x) hr (by decide) (d_var 2) (d_var 8))) (da_nil))))) (d_lc (own := [("_law_row", 4)]) rfl hN (blkOk_by (by kernel_rfl)) (by decide) (di_anyU (d_ixU hr (d_var 1) (d_int))) (fun _ _ _ _ _ => dg_name 4 hN) (fun _ _ _ _ _ => dts_nil) (fun _ _ _ _ _ => d_slice (d_var 4) (do_some (d_int)) (do_none)))) (dss_one (ds_ret (d_bl))) (dss_nil)) (dss_cons (ds_for po rfl (di_anyU (d_ixU hr (d_var 1) (d_int))) (dg_name 5 hN) (dss_cons (ds_set 9 hN (k_meth tk (x.f 104) (ok_Log_fact x) hr (by decide) (d_var 2) (da_cons (d_ixU hr (d_var 5) (d_int)) (da_nil)))) (dss_one (ds_if (dw_pt (dw_or (kt_neO (x.f 105) (ok_Fact_eq x) hr (by decide) (d_var 9) (k_call tk (ok__law_fact x) hr (by decide) (x.gl (x.f 58)) (x.f 59) (da_cons (d_var 5) (da_nil)))) (dw_or (dt_cmp (op_neD hr.units) od_ne (k_props (x.f 106) (ok_Fact_names x) hr (by decide) (d_var 9)) (d_slice (d_var 5) (do_some (d_int)) (do_some (d_int)))) (dw_or (dt_cmp (op_neD hr.units) od_ne (k_props (x.f 107) (ok_Fact_numbers x) hr (by decide) (d_var 9)) (d_callTy call_tuple_of cb_tuple (x.fr (x.f 11)) (by decide +kernel) (da_cons (d_ixU hr (d_var 5) (d_int)) (da_nil)))) (dw_or1 (dt_cmp (or_inV (neg := true) (x.f 108) (ok_Log_contains x) hr (by decide)) od_inV (d_ixU hr (d_var 5) (d_int)) (d_var 2))))))) (dss_one (ds_ret (d_bl))) (dss_nil))))) (dss_cons (ds_for po rfl (di_range1 (x.fr (x.f 3)) (da_cons (d_int) (da_nil))) (dg_name 10 hN) (dss_cons (ds_setLc 11 (own := [("_law_place", 16)]) rfl hN (blkOk_by (by kernel_rfl)) (by decide) (di_range1 (x.fr (x.f 3)) (da_cons (d_int) (da_nil))) (fun _ _ _ _ _ => dg_name 16 hN) (fun _ _ _ _ _ => dts_nil) (fun _ _ _ _ _ => d_op op_sub od_sub (d_op op_mod od_mod (k_call tk0 (ok__law_cell_at x) hr (by decide) (x.gl (x.f 1)) (x.f 2) (da_cons (d_var 0) (da_cons (d_op op_addA od_add (d_op op_addA od_add (d_int) (d_op op_mul od_mul (d_int) (d_var 10))) (d_var 16)) (da_nil)))) (d_int)) (d_int))) (dss_cons (ds_setD 12 hN (dd_dict rfl (x.fr (x.f 28)) (da_cons (d_lc (own := [("_law_host", 17), ("_law_draw", 18)]) rfl hN (blkOk_by (by kernel_rfl)) (by decide) (di_zip (x.fr (x.f 109)) (da_cons (d_ixU hr (d_var 1) (d_int)) (da_cons (d_var 11) (da_nil)))) (fun _ _ _ _ _ => dg_tup rfl (dgs_cons (dg_name 17 hN) (dgs_cons (dg_name 18 hN) (dgs_nil)))) (fun _ _ _ _ _ => dts_nil) (fun _ _ _ _ _ => d_tup (da_cons (d_var 17) (da_cons (d_var 18) (da_nil))))) (da_nil)))) (dss_cons (ds_putD 12 hr (d_int) (d_ixU hr (d_ixU hr (d_var 1) (d_int)) (d_int))) (dss_frzD 12 (dss_cons (ds_set 13 hN (d_dic (dd_dict rfl (x.fr (x.f 28)) (da_cons (d_lc (own := [("_law_name", 8), ("_law_host", 17), ("_law_clock", 19)]) rfl hN (blkOk_by (by kernel_rfl)) (by decide) (di_anyU (d_ixU hr (d_var 1) (d_int))) (fun _ _ _ _ _ => dg_tup rfl (dgs_cons (dg_name 8 hN) (dgs_cons (dg_name 17 hN) (dgs_cons (dg_name 19 hN) (dgs_nil))))) (fun _ _ _ _ _ => dts_nil) (fun _ _ _ _ _ => d_tup (da_cons (d_var 8) (da_cons (d_op op_addA od_add (d_var 19) (d_ixU hr (d_var 12) (d_var 17))) (da_nil))))) (da_nil))))) (dss_cons (ds_set 14 hN (d_callO 2 tk (x.f 110) (ok_Log_call x) hr (by decide) (da_cons (d_var 12) (da_nil)))) (dss_cons (ds_if (dw_pt (dw_or (dt_cmp (or_dicNe hr.units0) od_dicS (d_var 14) (d_var 13)) (dw_or1 (dt_cmp (op_neD hr.units) od_ne (d_callTy (call_listU rfl) cb_listU (x.fr (x.f 72)) (by decide +kernel) (da_cons (d_var 14) (da_nil))) (d_var 3))))) (dss_one (ds_ret (d_bl))) (dss_nil)) (dss_cons (ds_set 15 hN (d_lc (own := [("_law_fact_here", 5)]) rfl hN (blkOk_by (by kernel_rfl)) (by decide) (di_anyU (d_ixU hr (d_var 1) (d_int))) (fun _ _ _ _ _ => dg_name 5 hN) (fun _ _ _ _ _ => dts_one (dt_val (k_call tk0 (ok__law_is_true x) hr (by decide) (x.gl (x.f 111)) (x.f 112) (da_cons (d_var 5) (da_cons (d_var 13) (da_cons (d_var 12) (da_nil))))))) (fun _ _ _ _ _ => d_ixU hr (d_var 5) (d_int)))) (dss_one (ds_for po rfl (di_anyU (d_var 6)) (dg_name 7 hN) (dss_one (ds_if (dt_cmp (op_neD hr.units) od_ne (k_call tk (ok_fits x) hr (by decide) (x.gl (x.f 113)) (x.f 114) (da_cons (d_var 2) (da_cons (d_var 7) (da_cons (d_var 12) (da_nil))))) (d_callB (cr_all rfl) cb_all (x.fr (x.f 10)) (by decide +kernel) (da_cons (d_lc (own := [("_law_name", 8)]) rfl hN (blkOk_by (by kernel_rfl)) (by decide) (di_anyU (d_var 7)) (fun _ _ _ _ _ => dg_name 8 hN) (fun _ _ _ _ _ => dts_nil) (fun _ _ _ _ _ => d_cmp (or_in hr) od_inU (d_var 8) (d_var 15))) (da_nil)))) (dss_one (ds_ret (d_bl))) (dss_nil)))))))))))))) (dss_one (ds_ret (d_cmp (or_inV (neg := true) (x.f 108) (ok_Log_contains x) hr (by decide)) od_inV (d_str) (d_var 2))))))))))))
abbrev lawIx : Nat := 43
abbrev lawDef : Nat := 42
abbrev lawFact : Nat := 115
abbrev loose : List Str := []
end G31

set_option maxHeartbeats 2000000
namespace G31
open PySem PySem.Spec PyProof.Rows L2 LD
abbrev scr (ns : List Int) : DV := .ro (ns.map DV.int)
theorem eq_nil (ns : List Int) : oEq (.ro (ns.map DV.int)) (.lst []) = .ok (.bl ns.isEmpty) := by
  have e1 : toPy (.ro (ns.map DV.int)) = some (.list (ns.map PyData.int)) := by
    show (toPys _).map _ = _
    rw [toPys_ints]; rfl
  have e2 : toPy (.lst []) = some (.list []) := rfl
  unfold oEq oEqW
  rw [e1, e2]
  dsimp only
  rw [shaped_ints, show SeqAt.shaped (.list []) = true from rfl]
  cases ns <;> rfl
theorem cell {ns : List Int} {i : Int} (h0 : 0 ≤ i) : ∃ c, m__law_cell_at [scr ns, .int i] = .ok (.int c) := by
  show ∃ c, outR (F__law_cell_at [.pu (scr ns), .pu (.int i)]) = _
  unfold F__law_cell_at
  simp only [e_sSeq, e_sIf, e_sSet, e_sPar, e_sAsg, e_sRaise, e_sFor, e_sFz, e_sDrop, e_sSetLc, e_xTest, e_xOp, e_xUn, e_xCB, e_xCall, e_xCons, e_xNil, e_xIf, e_xAnd, e_xOr, e_xNot, e_xAndV, e_xOrV, e_xNotV, e_xChain, e_xIsi, e_xSl, e_xPart, e_xNo, e_xSrc, e_xIt, e_xYes, e_lc, e_lcs, e_wn, e_wc, e_asI, e_v0, e_v1, e_v2, e_v3, e_v4, e_v5, e_v6, e_v7, e_v8, e_v9, e_vs, e_xC, R.bind_ok, R.bind_exc, e_asB, e_xS_ok, e_xS_exc, e_sNx, e_nx, e_rt, e_ex, e_sRet, e_xTup, e_xLst, small_ok, List.length_cons, List.length_nil, List.length_map, Nat.reduceAdd, Nat.reduceLeDiff, Nat.zero_le, if_true, if_false, Bool.false_eq_true, outR_nx, outR_rt, outR_ex, List.set_cons_succ, List.set_cons_zero, e_gT, e_gsCons, e_gsNil, e_gN, R.ofO, e_xFld, e_xProps, e_xCon, e_xDic, e_xDict, dictOf_d, Bool.not_true, Bool.not_false, o_int, o_neg, o_sub, o_add, o_gt, o_lt, o_le, o_ge, o_eqi, o_nei, o_eqb, o_neb, ixU_l, ixU_t, ixU_r, lenU_d, lenU_l, lenU_t, lenU_r, listU_N, anyU_N, anyU_l, anyU_t, dicI_N, in_dcN, in_lstN, in_tupN, dcN_len, o_tupl, o_listt, o_lastt]
  by_cases h : i < (ns.length : Int)
  · obtain ⟨x, hx, e⟩ := atI_at (ns.map DV.int) h0 (by simpa using h)
    obtain ⟨c, _, rfl⟩ := List.mem_map.mp hx
    refine ⟨c, ?_⟩
    rw [decide_eq_true h, if_pos rfl, e]
    rfl
  · rw [decide_eq_false h]
    simp only [e_sSeq, e_sIf, e_sSet, e_sPar, e_sAsg, e_sRaise, e_sFor, e_sFz, e_sDrop, e_sSetLc, e_xTest, e_xOp, e_xUn, e_xCB, e_xCall, e_xCons, e_xNil, e_xIf, e_xAnd, e_xOr, e_xNot, e_xAndV, e_xOrV, e_xNotV, e_xChain, e_xIsi, e_xSl, e_xPart, e_xNo, e_xSrc, e_xIt, e_xYes, e_lc, e_lcs, e_wn, e_wc, e_asI, e_v0, e_v1, e_v2, e_v3, e_v4, e_v5, e_v6, e_v7, e_v8, e_v9, e_vs, e_xC, R.bind_ok, R.bind_exc, e_asB, e_xS_ok, e_xS_exc, e_sNx, e_nx, e_rt, e_ex, e_sRet, e_xTup, e_xLst, small_ok, List.length_cons, List.length_nil, List.length_map, Nat.reduceAdd, Nat.reduceLeDiff, Nat.zero_le, if_true, if_false, Bool.false_eq_true, outR_nx, outR_rt, outR_ex, List.set_cons_succ, List.set_cons_zero, e_gT, e_gsCons, e_gsNil, e_gN, R.ofO, e_xFld, e_xProps, e_xCon, e_xDic, e_xDict, dictOf_d, Bool.not_true, Bool.not_false, o_int, o_neg, o_sub, o_add, o_gt, o_lt, o_le, o_ge, o_eqi, o_nei, o_eqb, o_neb, ixU_l, ixU_t, ixU_r, lenU_d, lenU_l, lenU_t, lenU_r, listU_N, anyU_N, anyU_l, anyU_t, dicI_N, in_dcN, in_lstN, in_tupN, dcN_len, o_tupl, o_listt, o_lastt, eq_nil]
    cases ns with
    | nil =>
      refine ⟨i * 48271, ?_⟩
      simp only [List.isEmpty_nil, e_sSeq, e_sIf, e_sSet, e_sPar, e_sAsg, e_sRaise, e_sFor, e_sFz, e_sDrop, e_sSetLc, e_xTest, e_xOp, e_xUn, e_xCB, e_xCall, e_xCons, e_xNil, e_xIf, e_xAnd, e_xOr, e_xNot, e_xAndV, e_xOrV, e_xNotV, e_xChain, e_xIsi, e_xSl, e_xPart, e_xNo, e_xSrc, e_xIt, e_xYes, e_lc, e_lcs, e_wn, e_wc, e_asI, e_v0, e_v1, e_v2, e_v3, e_v4, e_v5, e_v6, e_v7, e_v8, e_v9, e_vs, e_xC, R.bind_ok, R.bind_exc, e_asB, e_xS_ok, e_xS_exc, e_sNx, e_nx, e_rt, e_ex, e_sRet, e_xTup, e_xLst, small_ok, List.length_cons, List.length_nil, List.length_map, Nat.reduceAdd, Nat.reduceLeDiff, Nat.zero_le, if_true, if_false, Bool.false_eq_true, outR_nx, outR_rt, outR_ex, List.set_cons_succ, List.set_cons_zero, e_gT, e_gsCons, e_gsNil, e_gN, R.ofO, e_xFld, e_xProps, e_xCon, e_xDic, e_xDict, dictOf_d, Bool.not_true, Bool.not_false, o_mul2 (show inM 48271 = true from rfl)]
    | cons n r =>
      obtain ⟨x, hx, e⟩ := atI_mod ((n :: r).map DV.int) (by simp) i
      obtain ⟨c, _, rfl⟩ := List.mem_map.mp hx
      rw [List.length_map, List.length_cons] at e
      have hm : oMod (.int i) (.int ((r.length + 1 : Nat) : Int)) = .ok (.int (i % ((r.length + 1 : Nat) : Int))) := o_mod (by omega)
      refine ⟨(c + i) * 48271 % 2147483647, ?_⟩
      simp only [List.isEmpty_cons, e_sSeq, e_sIf, e_sSet, e_sPar, e_sAsg, e_sRaise, e_sFor, e_sFz, e_sDrop, e_sSetLc, e_xTest, e_xOp, e_xUn, e_xCB, e_xCall, e_xCons, e_xNil, e_xIf, e_xAnd, e_xOr, e_xNot, e_xAndV, e_xOrV, e_xNotV, e_xChain, e_xIsi, e_xSl, e_xPart, e_xNo, e_xSrc, e_xIt, e_xYes, e_lc, e_lcs, e_wn, e_wc, e_asI, e_v0, e_v1, e_v2, e_v3, e_v4, e_v5, e_v6, e_v7, e_v8, e_v9, e_vs, e_xC, R.bind_ok, R.bind_exc, e_asB, e_xS_ok, e_xS_exc, e_sNx, e_nx, e_rt, e_ex, e_sRet, e_xTup, e_xLst, small_ok, List.length_cons, List.length_nil, List.length_map, Nat.reduceAdd, Nat.reduceLeDiff, Nat.zero_le, if_true, if_false, Bool.false_eq_true, outR_nx, outR_rt, outR_ex, List.set_cons_succ, List.set_cons_zero, e_gT, e_gsCons, e_gsNil, e_gN, R.ofO, e_xFld, e_xProps, e_xCon, e_xDic, e_xDict, dictOf_d, Bool.not_true, Bool.not_false, o_int, o_neg, o_sub, o_add, o_gt, o_lt, o_le, o_ge, o_eqi, o_nei, o_eqb, o_neb, ixU_l, ixU_t, ixU_r, lenU_d, lenU_l, lenU_t, lenU_r, listU_N, anyU_N, anyU_l, anyU_t, dicI_N, in_dcN, in_lstN, in_tupN, dcN_len, o_tupl, o_listt, o_lastt, hm, e, o_mul2 (show inM 48271 = true from rfl), o_mod (show (0 : Int) < 2147483647 by decide)]
noncomputable def cv (ns : List Int) (i : Int) : Int := match m__law_cell_at [scr ns, .int i] with
  | .ok (.int c) => c
  | _ => 0
theorem cv_ok {ns : List Int} {i : Int} (h0 : 0 ≤ i) : m__law_cell_at [scr ns, .int i] = .ok (.int (cv ns i)) := by
  obtain ⟨c, e⟩ := cell (ns := ns) h0
  unfold cv
  rw [e]

/-! ### a log as plain data -/
structure Fc where
  w : Str
  one : Str
  other : Str
  nums : List Int
def Fc.cls (f : Fc) : Str := if f.w = "after" then "After" else if f.w = "close" then "Close" else "Within"
def Fc.row (n : Str) (f : Fc) : DV := .tup [.str n, .str f.w, .str f.one, .str f.other, .lst (f.nums.map DV.int)]
def Fc.obj (f : Fc) : DV := .obj f.cls [("pair", .tup [.str f.one, .str f.other]), ("bounds", .tup (f.nums.map DV.int))]
structure Lg where
  ms : List Str
  ens : List Str
  fns : List Str
  hst : Str → Str
  clk : Str → Int
  fct : Str → Fc
def MS : List (List Str) := [["b"], ["b", "a"], ["b", "a", "dd"], ["b", "a", "dd", "c"]]
def NS : List (List Str) := [["e", "x"], ["e", "x", "ee"], ["e", "x", "ee", "a"], ["e", "x", "ee", "a", "z"]]
def FS : List (List Str) := [[], ["f"], ["f", "e"], ["f", "e", "h"], ["f", "e", "h", "b"], ["f", "e", "h", "b", "k"], ["f", "e", "h", "b", "k", "m"]]
structure FOk (D : Lg) (f : Fc) : Prop where
  ne : f.one ≠ f.other
  c : (f.w = "close" ∧ f.one ∈ D.ms ∧ f.other ∈ D.ms ∧ ∃ k, 0 ≤ k ∧ k ≤ 999 ∧ f.nums = [k]) ∨
    (f.w = "after" ∧ f.one ∈ D.ens ∧ f.other ∈ D.ens ∧ ∃ k, -999 ≤ k ∧ k ≤ 999 ∧ f.nums = [k]) ∨
    (f.w = "within" ∧ f.one ∈ D.ens ∧ f.other ∈ D.ens ∧ ∃ k l, -999 ≤ k ∧ k ≤ l ∧ l ≤ 999 ∧ f.nums = [k, l])
structure LOk (D : Lg) : Prop where
  ms : D.ms ∈ MS
  ens : D.ens ∈ NS
  fns : D.fns ∈ FS
  ev : ∀ n ∈ D.ens, D.hst n ∈ D.ms ∧ 0 ≤ D.clk n ∧ D.clk n ≤ 999
  fc : ∀ n ∈ D.fns, FOk D (D.fct n)
def Lg.erow (D : Lg) (n : Str) : DV := .tup [.str n, .str (D.hst n), .int (D.clk n)]
def Lg.frow (D : Lg) (n : Str) : DV := (D.fct n).row n
def Lg.rows (D : Lg) : DV := .tup [.lst (D.ms.map DV.str), .lst (D.ens.map D.erow), .lst (D.fns.map D.frow)]
def Lg.eobj (D : Lg) (n : Str) : DV := .obj "Event" [("host", .str (D.hst n)), ("clock", .int (D.clk n))]
def Lg.fobj (D : Lg) (n : Str) : DV := (D.fct n).obj
def Lg.flds (D : Lg) : List (Str × DV) := [("hosts", .tup (D.ms.map DV.str)), ("places", .dic (dcN D.ens D.eobj)), ("known", .dic (dcN D.fns D.fobj))]
def Lg.obj (D : Lg) : DV := .obj "Log" D.flds
/-! ### names -/
def okB (r : R DV) (b : Bool) : Bool := match r with
  | .ok (.bl c) => c == b
  | _ => false
theorem okB_ok {r : R DV} {b : Bool} (h : okB r b = true) : r = .ok (.bl b) := by
  unfold okB at h
  split at h
  · rw [eq_of_beq h]
  · cases h
def allN : List Str := ["b", "a", "dd", "c", "e", "x", "ee", "z", "f", "h", "k", "m"]
theorem is_name_all : (allN.all fun n => okB (m_is_name [.str n]) true && PyData.canLay0 (.str n)) = true := by decide +kernel
theorem ms_all : (MS.all fun l => l.all fun n => decide (n ∈ allN)) = true := by decide +kernel
theorem ns_all : (NS.all fun l => l.all fun n => decide (n ∈ allN)) = true := by decide +kernel
theorem fs_all : (FS.all fun l => l.all fun n => decide (n ∈ allN)) = true := by decide +kernel
theorem sub_all {M : List (List Str)} (h : (M.all fun l => l.all fun n => decide (n ∈ allN)) = true) {l : List Str} (hl : l ∈ M) {n : Str} (hn : n ∈ l) : n ∈ allN := of_decide_eq_true (List.all_eq_true.mp (List.all_eq_true.mp h l hl) n hn)
theorem is_name {n : Str} (h : n ∈ allN) : m_is_name [.str n] = .ok (.bl true) := okB_ok (Bool.and_eq_true_iff.mp (List.all_eq_true.mp is_name_all n h)).1
theorem canL {n : Str} (h : n ∈ allN) : PyData.canLay0 (.str n) = true := (Bool.and_eq_true_iff.mp (List.all_eq_true.mp is_name_all n h)).2
section
variable {D : Lg} (o : LOk D)
include o
theorem mN {n : Str} (h : n ∈ D.ms) : n ∈ allN := sub_all ms_all o.ms h
theorem eN {n : Str} (h : n ∈ D.ens) : n ∈ allN := sub_all ns_all o.ens h
theorem fN {n : Str} (h : n ∈ D.fns) : n ∈ allN := sub_all fs_all o.fns h
theorem msLen : 1 ≤ D.ms.length ∧ D.ms.length ≤ 4 := by
  have : (MS.all fun l => decide (1 ≤ l.length ∧ l.length ≤ 4)) = true := by decide +kernel
  exact of_decide_eq_true (List.all_eq_true.mp this _ o.ms)
theorem ensLen : 2 ≤ D.ens.length ∧ D.ens.length ≤ 5 := by
  have : (NS.all fun l => decide (2 ≤ l.length ∧ l.length ≤ 5)) = true := by decide +kernel
  exact of_decide_eq_true (List.all_eq_true.mp this _ o.ens)
theorem fnsLen : D.fns.length ≤ 6 := by
  have : (FS.all fun l => decide (l.length ≤ 6)) = true := by decide +kernel
  exact of_decide_eq_true (List.all_eq_true.mp this _ o.fns)
theorem msNd : D.ms.Nodup := by
  have : (MS.all fun l => decide l.Nodup) = true := by decide +kernel
  exact of_decide_eq_true (List.all_eq_true.mp this _ o.ms)
theorem ensNd : D.ens.Nodup := by
  have : (NS.all fun l => decide l.Nodup) = true := by decide +kernel
  exact of_decide_eq_true (List.all_eq_true.mp this _ o.ens)
theorem fnsNd : D.fns.Nodup := by
  have : (FS.all fun l => decide l.Nodup) = true := by decide +kernel
  exact of_decide_eq_true (List.all_eq_true.mp this _ o.fns)
theorem FOk.nms {f : Fc} (h : FOk D f) : f.one ∈ allN ∧ f.other ∈ allN := by
  rcases h.c with ⟨_, a, b, _⟩ | ⟨_, a, b, _⟩ | ⟨_, a, b, _⟩
  · exact ⟨mN o a, mN o b⟩
  · exact ⟨eN o a, eN o b⟩
  · exact ⟨eN o a, eN o b⟩
end
end G31

set_option maxHeartbeats 2000000
namespace G31
open PySem PySem.Spec PyProof.Rows L2 LD
/-! ### the law's log -/
def M4 : List Str := ["b", "a", "dd", "c"]
def E6 : List Str := ["e", "x", "ee", "a", "z", "y"]
def F6 : List Str := ["f", "e", "h", "b", "k", "m"]
section
variable (ns : List Int)
noncomputable def mk_ms : List Str := cutD M4 none (some (1 + cv ns 0 % 4))
noncomputable def mk_ens : List Str := E6.take (2 + cv ns 1 % 4).toNat
noncomputable def mk_fns : List Str := F6.take (cv ns 8 % 7).toNat
noncomputable def mk_h (i : Int) : Str := (mk_ms ns).getD (cv ns (2 + i) % ((mk_ms ns).length : Int)).toNat ""
noncomputable def mk_c (i : Int) : Int := cv ns (2 + i) / 4 % 12
noncomputable def mk_nm (i : Int) : List Str := if cv ns (9 + i) % 4 = 0 ∧ 1 < (mk_ms ns).length then mk_ms ns else mk_ens ns
noncomputable def mk_o1 (i : Int) : Str := (mk_nm ns i).getD (cv ns (9 + i) / 4 % ((mk_nm ns i).length : Int)).toNat ""
noncomputable def mk_o2 (i : Int) : Str := (mk_nm ns i).getD ((cv ns (9 + i) / 4 + 1 + cv ns (9 + i) / 24 % (((mk_nm ns i).length : Int) - 1)) % ((mk_nm ns i).length : Int)).toNat ""
noncomputable def mk_lo (i : Int) : Int := cv ns (9 + i) / 144 % 15 - 8
noncomputable def mk_f (i : Int) : Fc := if cv ns (9 + i) % 4 = 0 ∧ 1 < (mk_ms ns).length then ⟨"close", mk_o1 ns i, mk_o2 ns i, [cv ns (9 + i) / 144 % 9]⟩
  else if cv ns (9 + i) / 2160 % 2 = 0 then ⟨"after", mk_o1 ns i, mk_o2 ns i, [mk_lo ns i]⟩
  else ⟨"within", mk_o1 ns i, mk_o2 ns i, [mk_lo ns i, mk_lo ns i + cv ns (9 + i) / 4320 % 12]⟩
noncomputable def mk : Lg := ⟨mk_ms ns, mk_ens ns, mk_fns ns, fun n => mk_h ns (E6.idxOf n), fun n => mk_c ns (E6.idxOf n), fun n => mk_f ns (F6.idxOf n)⟩
theorem mk_ms_in : mk_ms ns ∈ MS := by
  have h1 := Int.emod_nonneg (cv ns 0) (show (4 : Int) ≠ 0 by decide)
  have h2 := Int.emod_lt_of_pos (cv ns 0) (show (0 : Int) < 4 by decide)
  unfold mk_ms
  have : cv ns 0 % 4 = 0 ∨ cv ns 0 % 4 = 1 ∨ cv ns 0 % 4 = 2 ∨ cv ns 0 % 4 = 3 := by omega
  rcases this with h | h | h | h <;> (rw [h]; decide +kernel)
theorem mk_ens_in : mk_ens ns ∈ NS := by
  have h1 := Int.emod_nonneg (cv ns 1) (show (4 : Int) ≠ 0 by decide)
  have h2 := Int.emod_lt_of_pos (cv ns 1) (show (0 : Int) < 4 by decide)
  unfold mk_ens
  have : cv ns 1 % 4 = 0 ∨ cv ns 1 % 4 = 1 ∨ cv ns 1 % 4 = 2 ∨ cv ns 1 % 4 = 3 := by omega
  rcases this with h | h | h | h <;> (rw [h]; decide +kernel)
theorem mk_fns_in : mk_fns ns ∈ FS := by
  have h1 := Int.emod_nonneg (cv ns 8) (show (7 : Int) ≠ 0 by decide)
  have h2 := Int.emod_lt_of_pos (cv ns 8) (show (0 : Int) < 7 by decide)
  unfold mk_fns
  have : cv ns 8 % 7 = 0 ∨ cv ns 8 % 7 = 1 ∨ cv ns 8 % 7 = 2 ∨ cv ns 8 % 7 = 3 ∨ cv ns 8 % 7 = 4 ∨ cv ns 8 % 7 = 5 ∨ cv ns 8 % 7 = 6 := by omega
  rcases this with h | h | h | h | h | h | h <;> (rw [h]; decide +kernel)
theorem mk_msN : (mk_ms ns).Nodup ∧ 1 ≤ (mk_ms ns).length := by
  have : (MS.all fun l => decide (l.Nodup ∧ 1 ≤ l.length)) = true := by decide +kernel
  exact of_decide_eq_true (List.all_eq_true.mp this _ (mk_ms_in ns))
theorem mk_ensN : (mk_ens ns).Nodup ∧ 2 ≤ (mk_ens ns).length := by
  have : (NS.all fun l => decide (l.Nodup ∧ 2 ≤ l.length)) = true := by decide +kernel
  exact of_decide_eq_true (List.all_eq_true.mp this _ (mk_ens_in ns))
theorem mk_nmN (i : Int) : (mk_nm ns i).Nodup ∧ 2 ≤ (mk_nm ns i).length := by
  unfold mk_nm
  split
  · exact ⟨(mk_msN ns).1, by omega⟩
  · exact mk_ensN ns
theorem mk_o1_at (i : Int) : 0 ≤ cv ns (9 + i) / 4 % ((mk_nm ns i).length : Int) ∧ cv ns (9 + i) / 4 % ((mk_nm ns i).length : Int) < (mk_nm ns i).length := by
  have := (mk_nmN ns i).2
  exact ⟨Int.emod_nonneg _ (by omega), Int.emod_lt_of_pos _ (by omega)⟩
theorem mk_o2_at (i : Int) : 0 ≤ (cv ns (9 + i) / 4 + 1 + cv ns (9 + i) / 24 % (((mk_nm ns i).length : Int) - 1)) % ((mk_nm ns i).length : Int) ∧ (cv ns (9 + i) / 4 + 1 + cv ns (9 + i) / 24 % (((mk_nm ns i).length : Int) - 1)) % ((mk_nm ns i).length : Int) < (mk_nm ns i).length := by
  have := (mk_nmN ns i).2
  exact ⟨Int.emod_nonneg _ (by omega), Int.emod_lt_of_pos _ (by omega)⟩
theorem two_apart {q r L : Int} (hL : 2 ≤ L) (h0 : 0 ≤ r) (h1 : r < L - 1) : q % L ≠ (q + 1 + r) % L := by
  intro e
  have h : (q + 1 + r - q) % L = 0 := Int.emod_eq_zero_of_dvd ((Int.emod_eq_emod_iff_emod_sub_eq_zero.mp e.symm) |> Int.dvd_of_emod_eq_zero)
  have h2 : q + 1 + r - q = 1 + r := by omega
  rw [h2, Int.emod_eq_of_lt (by omega) (by omega)] at h
  omega
theorem mk_ne (i : Int) : mk_o1 ns i ≠ mk_o2 ns i := by
  have hN := mk_nmN ns i
  have h1 := mk_o1_at ns i
  have h2 := mk_o2_at ns i
  have hr0 := Int.emod_nonneg (cv ns (9 + i) / 24) (show (((mk_nm ns i).length : Int) - 1) ≠ 0 by omega)
  have hr1 := Int.emod_lt_of_pos (cv ns (9 + i) / 24) (show 0 < (((mk_nm ns i).length : Int) - 1) by omega)
  have := two_apart (q := cv ns (9 + i) / 4) (show (2 : Int) ≤ ((mk_nm ns i).length : Int) by omega) hr0 hr1
  exact getD_ne hN.1 (by omega) (by omega) (by omega)
theorem mk_ok : LOk (mk ns) where
  ms := mk_ms_in ns
  ens := mk_ens_in ns
  fns := mk_fns_in ns
  ev := fun n _ => by
    have h1 := (mk_msN ns).2
    have h2 := Int.emod_nonneg (cv ns (2 + (E6.idxOf n : Int))) (show ((mk_ms ns).length : Int) ≠ 0 by omega)
    have h3 := Int.emod_lt_of_pos (cv ns (2 + (E6.idxOf n : Int))) (show (0 : Int) < ((mk_ms ns).length : Int) by omega)
    have h4 : mk_h ns (E6.idxOf n) ∈ mk_ms ns := by unfold mk_h; exact getD_mem _ _ (by omega)
    refine ⟨h4, Int.emod_nonneg _ (by decide), ?_⟩
    have := Int.emod_lt_of_pos (cv ns (2 + (E6.idxOf n : Int)) / 4) (show (0 : Int) < 12 by decide)
    show cv ns (2 + (E6.idxOf n : Int)) / 4 % 12 ≤ 999
    omega
  fc := fun n _ => by
    generalize hi : (F6.idxOf n : Int) = i
    have e : (mk ns).fct n = mk_f ns i := by show mk_f ns _ = _; rw [hi]
    rw [e]
    have a1 := mk_o1_at ns i
    have a2 := mk_o2_at ns i
    have b1 : mk_o1 ns i ∈ mk_nm ns i := getD_mem _ _ (by omega)
    have b2 : mk_o2 ns i ∈ mk_nm ns i := getD_mem _ _ (by omega)
    have hl0 := Int.emod_nonneg (cv ns (9 + i) / 144) (show (15 : Int) ≠ 0 by decide)
    have hl1 := Int.emod_lt_of_pos (cv ns (9 + i) / 144) (show (0 : Int) < 15 by decide)
    have hc0 := Int.emod_nonneg (cv ns (9 + i) / 144) (show (9 : Int) ≠ 0 by decide)
    have hc1 := Int.emod_lt_of_pos (cv ns (9 + i) / 144) (show (0 : Int) < 9 by decide)
    have hw0 := Int.emod_nonneg (cv ns (9 + i) / 4320) (show (12 : Int) ≠ 0 by decide)
    have hw1 := Int.emod_lt_of_pos (cv ns (9 + i) / 4320) (show (0 : Int) < 12 by decide)
    unfold mk_f mk_nm at *
    split
    · rename_i hc
      rw [if_pos hc] at b1 b2
      exact ⟨mk_ne ns i, .inl ⟨rfl, b1, b2, _, hc0, by omega, rfl⟩⟩
    · rename_i hc
      rw [if_neg hc] at b1 b2
      split
      · exact ⟨mk_ne ns i, .inr (.inl ⟨rfl, b1, b2, _, by unfold mk_lo; omega, by unfold mk_lo; omega, rfl⟩)⟩
      · exact ⟨mk_ne ns i, .inr (.inr ⟨rfl, b1, b2, _, _, by unfold mk_lo; omega, by omega, by unfold mk_lo; omega, rfl⟩)⟩
end
end G31

set_option maxHeartbeats 2000000
namespace G31
open PySem PySem.Spec PyProof.Rows L2 LD
noncomputable def row1 (ns : List Int) (i : Nat) : DV := .tup [.str (E6.getD i ""), .str (mk_h ns i), .int (mk_c ns i)]
noncomputable def row2 (ns : List Int) (i : Nat) : DV := (mk_f ns i).row (F6.getD i "")
theorem at6 {xs : List Str} {i : Nat} (h : i < xs.length) : atI (xs.map DV.str) (i : Int) = some (.str (xs.getD i "")) := by
  rw [atI_map, atI_get xs "" (Int.natCast_nonneg i) (by omega)]
  rfl
theorem at_str {xs : List Str} {i : Int} (h0 : 0 ≤ i) (h : i < xs.length) : atI (xs.map DV.str) i = some (.str (xs.getD i.toNat "")) := by
  rw [atI_map, atI_get xs "" h0 h]; rfl
theorem turn1 {ns : List Int} {i : Nat} (hi : i < 6) {zs : List DV} (hz : zs.length < 16777216) {s7 : Sl} {r : Ev} : B__law_log_1 (.pu (scr ns) :: .pu (.int 0) :: .pu (.int 6) :: .pu (.lst ((mk_ms ns).map DV.str)) :: .ol zs :: .ol [] :: .pu (.int (0 + (i : Int))) :: s7 :: r) =
    .nx (.pu (scr ns) :: .pu (.int 0) :: .pu (.int 6) :: .pu (.lst ((mk_ms ns).map DV.str)) :: .ol (zs ++ [row1 ns i]) :: .ol [] :: .pu (.int (0 + (i : Int))) :: .pu (.int (cv ns (2 + i))) :: r) := by
  have hc := cv_ok (ns := ns) (i := 2 + (i : Int)) (by omega)
  have h1 : atI [DV.str "e", .str "x", .str "ee", .str "a", .str "z", .str "y"] (i : Int) = some (.str (E6.getD i "")) := at6 (xs := E6) hi
  have hm := (mk_msN ns).2
  have h2 : atI ((mk_ms ns).map DV.str) (cv ns (2 + i) % ((mk_ms ns).length : Int)) = some (.str (mk_h ns i)) := at_str (Int.emod_nonneg _ (by omega)) (Int.emod_lt_of_pos _ (by omega))
  have h3 : oMod (.int (cv ns (2 + i))) (.int ((mk_ms ns).length : Int)) = .ok (.int (cv ns (2 + i) % ((mk_ms ns).length : Int))) := o_mod (by omega)
  unfold B__law_log_1
  simp only [e_sSeq, e_sIf, e_sSet, e_sPar, e_sAsg, e_sRaise, e_sFor, e_sFz, e_sDrop, e_sSetLc, e_xTest, e_xOp, e_xUn, e_xCB, e_xCall, e_xCons, e_xNil, e_xIf, e_xAnd, e_xOr, e_xNot, e_xAndV, e_xOrV, e_xNotV, e_xChain, e_xIsi, e_xSl, e_xPart, e_xNo, e_xSrc, e_xIt, e_xYes, e_lc, e_lcs, e_wn, e_wc, e_asI, e_v0, e_v1, e_v2, e_v3, e_v4, e_v5, e_v6, e_v7, e_v8, e_v9, e_vs, e_xC, R.bind_ok, R.bind_exc, e_asB, e_xS_ok, e_xS_exc, e_sNx, e_nx, e_rt, e_ex, e_sRet, e_xTup, e_xLst, small_ok, List.length_cons, List.length_nil, List.length_map, Nat.reduceAdd, Nat.reduceLeDiff, Nat.zero_le, if_true, if_false, Bool.false_eq_true, outR_nx, outR_rt, outR_ex, List.set_cons_succ, List.set_cons_zero, e_gT, e_gsCons, e_gsNil, e_gN, R.ofO, e_xFld, e_xProps, e_xCon, e_xDic, e_xDict, dictOf_d, Bool.not_true, Bool.not_false, o_int, o_neg, o_sub, o_add, o_gt, o_lt, o_le, o_ge, o_eqi, o_nei, o_eqb, o_neb, ixU_l, ixU_t, ixU_r, lenU_d, lenU_l, lenU_t, lenU_r, listU_N, anyU_N, anyU_l, anyU_t, dicI_N, in_dcN, in_lstN, in_tupN, dcN_len, o_tupl, o_listt, o_lastt, Int.zero_add, hc, h1, h2, h3, o_div (show (0 : Int) < 4 by decide) (by decide), o_mod (show (0 : Int) < 12 by decide), e_sApp4, blt_ok hz]
  rfl
theorem ms_ens {ns : List Int} : oEq (.lst ((mk_ens ns).map DV.str)) (.lst ((mk_ms ns).map DV.str)) = .ok (.bl false) := by
  have h : (NS.all fun l => MS.all fun k => okB (oEq (.lst (l.map DV.str)) (.lst (k.map DV.str))) false) = true := by decide +kernel
  exact okB_ok (List.all_eq_true.mp (List.all_eq_true.mp h _ (mk_ens_in ns)) _ (mk_ms_in ns))
theorem ms_ms {ns : List Int} : oEq (.lst ((mk_ms ns).map DV.str)) (.lst ((mk_ms ns).map DV.str)) = .ok (.bl true) := by
  have h : (MS.all fun k => okB (oEq (.lst (k.map DV.str)) (.lst (k.map DV.str))) true) = true := by decide +kernel
  exact okB_ok (List.all_eq_true.mp h _ (mk_ms_in ns))
noncomputable def evs (ns : List Int) : List DV := (mk_ens ns).map (mk ns).erow
theorem turn2 {ns : List Int} {i : Nat} (hi : i < 6) {zs : List DV} (hz : zs.length < 16777216) {s7 s8 s9 s10 s11 s12 s13 : Sl} : B__law_log_2 [.pu (scr ns), .pu (.int 0), .pu (.int 6), .pu (.lst ((mk_ms ns).map DV.str)), .pu (.lst (evs ns)), .ol zs, .pu (.int (0 + (i : Int))), s7, s8, s9, s10, s11, s12, s13] =
    .nx [.pu (scr ns), .pu (.int 0), .pu (.int 6), .pu (.lst ((mk_ms ns).map DV.str)), .pu (.lst (evs ns)), .ol (zs ++ [row2 ns i]), .pu (.int (0 + (i : Int))), .pu (.int (cv ns (9 + i))), .pu (.lst ((mk_nm ns i).map DV.str)), .pu (.str (mk_o1 ns i)), .pu (.str (mk_o2 ns i)), .pu (.int (cv ns (9 + i) / 144 % 15 - 8)), .pu (.str (F6.getD i "")), s13] := by
  have hc := cv_ok (ns := ns) (i := 9 + (i : Int)) (by omega)
  have h1 : atI [DV.str "f", .str "e", .str "h", .str "b", .str "k", .str "m"] (i : Int) = some (.str (F6.getD i "")) := at6 (xs := F6) hi
  have hm := mk_nmN ns i
  have p1 := mk_o1_at ns i
  have p2 := mk_o2_at ns i
  have h2 : atI ((mk_nm ns i).map DV.str) _ = some (.str (mk_o1 ns i)) := at_str p1.1 p1.2
  have h3 : atI ((mk_nm ns i).map DV.str) _ = some (.str (mk_o2 ns i)) := at_str p2.1 p2.2
  have h4 : ∀ q : Int, oMod (.int q) (.int ((mk_nm ns i).length : Int)) = .ok (.int (q % ((mk_nm ns i).length : Int))) := fun q => o_mod (by omega)
  have h5 : ∀ q : Int, oMod (.int q) (.int (((mk_nm ns i).length : Int) - 1)) = .ok (.int (q % (((mk_nm ns i).length : Int) - 1))) := fun q => o_mod (by omega)
  have h6 : ∀ δ : Ev, 13 < δ.length → lcD (gN 13) xYes (xOp oIxU (xVar 13) (xC (.int 0))) δ (evs ns) = .ok ((mk_ens ns).map DV.str) := fun δ hδ => lcD_N fun n _ => ⟨δ.set 13 (.pu ((mk ns).erow n)), rfl, by
    have : xVar 13 (δ.set 13 (.pu ((mk ns).erow n))) = .ok ((mk ns).erow n) := by
      unfold xVar
      rw [List.getElem?_set_self hδ]
    rw [e_xOp, this]
    rfl⟩
  unfold B__law_log_2
  by_cases hd : cv ns (9 + i) % 4 = 0 ∧ 1 < (mk_ms ns).length
  · have e1 : mk_nm ns i = mk_ms ns := by unfold mk_nm; rw [if_pos hd]
    rw [e1] at h2 h3 h4 h5
    rw [e1]
    have e2 : row2 ns i = .tup [.str (F6.getD i ""), .str "close", .str (mk_o1 ns i), .str (mk_o2 ns i), .lst [.int (cv ns (9 + i) / 144 % 9)]] := by unfold row2 mk_f; rw [if_pos hd]; rfl
    have e3 : (cv ns (9 + i) % 4 == 0) = true := by rw [hd.1]; rfl
    have e4 : decide ((1 : Int) < ((mk_ms ns).length : Int)) = true := decide_eq_true (by omega)
    rw [e2]
    simp only [e_sSeq, e_sIf, e_sSet, e_sPar, e_sAsg, e_sRaise, e_sFor, e_sFz, e_sDrop, e_sSetLc, e_xTest, e_xOp, e_xUn, e_xCB, e_xCall, e_xCons, e_xNil, e_xIf, e_xAnd, e_xOr, e_xNot, e_xAndV, e_xOrV, e_xNotV, e_xChain, e_xIsi, e_xSl, e_xPart, e_xNo, e_xSrc, e_xIt, e_xYes, e_lc, e_lcs, e_wn, e_wc, e_asI, e_v0, e_v1, e_v2, e_v3, e_v4, e_v5, e_v6, e_v7, e_v8, e_v9, e_vs, e_xC, R.bind_ok, R.bind_exc, e_asB, e_xS_ok, e_xS_exc, e_sNx, e_nx, e_rt, e_ex, e_sRet, e_xTup, e_xLst, small_ok, List.length_cons, List.length_nil, List.length_map, Nat.reduceAdd, Nat.reduceLeDiff, Nat.zero_le, if_true, if_false, Bool.false_eq_true, outR_nx, outR_rt, outR_ex, List.set_cons_succ, List.set_cons_zero, e_gT, e_gsCons, e_gsNil, e_gN, R.ofO, e_xFld, e_xProps, e_xCon, e_xDic, e_xDict, dictOf_d, Bool.not_true, Bool.not_false, o_int, o_neg, o_sub, o_add, o_gt, o_lt, o_le, o_ge, o_eqi, o_nei, o_eqb, o_neb, ixU_l, ixU_t, ixU_r, lenU_d, lenU_l, lenU_t, lenU_r, listU_N, anyU_N, anyU_l, anyU_t, dicI_N, in_dcN, in_lstN, in_tupN, dcN_len, o_tupl, o_listt, o_lastt, Int.zero_add, hc, h1, h2, h3, h4, h5, e3, e4, ms_ms, o_div (show (0 : Int) < 4 by decide) (by decide), o_div (show (0 : Int) < 24 by decide) (by decide), o_div (show (0 : Int) < 144 by decide) (by decide), o_mod (show (0 : Int) < 4 by decide), o_mod (show (0 : Int) < 15 by decide), o_mod (show (0 : Int) < 9 by decide), e_sApp5, blt_ok hz]
  · have e1 : mk_nm ns i = mk_ens ns := by unfold mk_nm; rw [if_neg hd]
    rw [e1] at h2 h3 h4 h5
    rw [e1]
    have e3 : ((R.ok (cv ns (9 + i) % 4 == 0)).bind fun z => if z = true then R.ok (decide ((1 : Int) < ((mk_ms ns).length : Int))) else .ok false) = .ok false := by
      by_cases q : cv ns (9 + i) % 4 = 0
      · rw [q]
        have : decide ((1 : Int) < ((mk_ms ns).length : Int)) = false := decide_eq_false fun z => hd ⟨q, by omega⟩
        rw [this]; rfl
      · rw [beq_eq_false_iff_ne.mpr q]; rfl
    rw [R.bind_ok] at e3
    have e6 : evs ns = evs ns := rfl
    by_cases hw : cv ns (9 + i) / 2160 % 2 = 0
    · have e2 : row2 ns i = .tup [.str (F6.getD i ""), .str "after", .str (mk_o1 ns i), .str (mk_o2 ns i), .lst [.int (cv ns (9 + i) / 144 % 15 - 8)]] := by unfold row2 mk_f; rw [if_neg hd, if_pos hw]; rfl
      have e5 : (cv ns (9 + i) / 2160 % 2 == 0) = true := by rw [hw]; rfl
      rw [e2]
      simp only [e_sSeq, e_sIf, e_sSet, e_sPar, e_sAsg, e_sRaise, e_sFor, e_sFz, e_sDrop, e_sSetLc, e_xTest, e_xOp, e_xUn, e_xCB, e_xCall, e_xCons, e_xNil, e_xIf, e_xAnd, e_xOr, e_xNot, e_xAndV, e_xOrV, e_xNotV, e_xChain, e_xIsi, e_xSl, e_xPart, e_xNo, e_xSrc, e_xIt, e_xYes, e_lc, e_lcs, e_wn, e_wc, e_asI, e_v0, e_v1, e_v2, e_v3, e_v4, e_v5, e_v6, e_v7, e_v8, e_v9, e_vs, e_xC, R.bind_ok, R.bind_exc, e_asB, e_xS_ok, e_xS_exc, e_sNx, e_nx, e_rt, e_ex, e_sRet, e_xTup, e_xLst, small_ok, List.length_cons, List.length_nil, List.length_map, Nat.reduceAdd, Nat.reduceLeDiff, Nat.zero_le, if_true, if_false, Bool.false_eq_true, outR_nx, outR_rt, outR_ex, List.set_cons_succ, List.set_cons_zero, e_gT, e_gsCons, e_gsNil, e_gN, R.ofO, e_xFld, e_xProps, e_xCon, e_xDic, e_xDict, dictOf_d, Bool.not_true, Bool.not_false, o_int, o_neg, o_sub, o_add, o_gt, o_lt, o_le, o_ge, o_eqi, o_nei, o_eqb, o_neb, ixU_l, ixU_t, ixU_r, lenU_d, lenU_l, lenU_t, lenU_r, listU_N, anyU_N, anyU_l, anyU_t, dicI_N, in_dcN, in_lstN, in_tupN, dcN_len, o_tupl, o_listt, o_lastt, Int.zero_add, hc, h1, h2, h3, h4, h5, e3, e5, ms_ens, h6, small_ok (show (mk_ens ns).length ≤ 16777216 by have := ensLen (mk_ok ns); exact Nat.le_trans this.2 (by decide)), o_div (show (0 : Int) < 4 by decide) (by decide), o_div (show (0 : Int) < 24 by decide) (by decide), o_div (show (0 : Int) < 144 by decide) (by decide), o_div (show (0 : Int) < 2160 by decide) (by decide), o_mod (show (0 : Int) < 4 by decide), o_mod (show (0 : Int) < 15 by decide), o_mod (show (0 : Int) < 9 by decide), o_mod (show (0 : Int) < 2 by decide), e_sApp5, blt_ok hz, Nat.reduceLT]
    · have e2 : row2 ns i = .tup [.str (F6.getD i ""), .str "within", .str (mk_o1 ns i), .str (mk_o2 ns i), .lst [.int (cv ns (9 + i) / 144 % 15 - 8), .int (cv ns (9 + i) / 144 % 15 - 8 + cv ns (9 + i) / 4320 % 12)]] := by unfold row2 mk_f; rw [if_neg hd, if_neg hw]; rfl
      have e5 : (cv ns (9 + i) / 2160 % 2 == 0) = false := beq_eq_false_iff_ne.mpr hw
      rw [e2]
      simp only [e_sSeq, e_sIf, e_sSet, e_sPar, e_sAsg, e_sRaise, e_sFor, e_sFz, e_sDrop, e_sSetLc, e_xTest, e_xOp, e_xUn, e_xCB, e_xCall, e_xCons, e_xNil, e_xIf, e_xAnd, e_xOr, e_xNot, e_xAndV, e_xOrV, e_xNotV, e_xChain, e_xIsi, e_xSl, e_xPart, e_xNo, e_xSrc, e_xIt, e_xYes, e_lc, e_lcs, e_wn, e_wc, e_asI, e_v0, e_v1, e_v2, e_v3, e_v4, e_v5, e_v6, e_v7, e_v8, e_v9, e_vs, e_xC, R.bind_ok, R.bind_exc, e_asB, e_xS_ok, e_xS_exc, e_sNx, e_nx, e_rt, e_ex, e_sRet, e_xTup, e_xLst, small_ok, List.length_cons, List.length_nil, List.length_map, Nat.reduceAdd, Nat.reduceLeDiff, Nat.zero_le, if_true, if_false, Bool.false_eq_true, outR_nx, outR_rt, outR_ex, List.set_cons_succ, List.set_cons_zero, e_gT, e_gsCons, e_gsNil, e_gN, R.ofO, e_xFld, e_xProps, e_xCon, e_xDic, e_xDict, dictOf_d, Bool.not_true, Bool.not_false, o_int, o_neg, o_sub, o_add, o_gt, o_lt, o_le, o_ge, o_eqi, o_nei, o_eqb, o_neb, ixU_l, ixU_t, ixU_r, lenU_d, lenU_l, lenU_t, lenU_r, listU_N, anyU_N, anyU_l, anyU_t, dicI_N, in_dcN, in_lstN, in_tupN, dcN_len, o_tupl, o_listt, o_lastt, Int.zero_add, hc, h1, h2, h3, h4, h5, e3, e5, ms_ens, h6, small_ok (show (mk_ens ns).length ≤ 16777216 by have := ensLen (mk_ok ns); exact Nat.le_trans this.2 (by decide)), o_div (show (0 : Int) < 4 by decide) (by decide), o_div (show (0 : Int) < 24 by decide) (by decide), o_div (show (0 : Int) < 144 by decide) (by decide), o_div (show (0 : Int) < 2160 by decide) (by decide), o_div (show (0 : Int) < 4320 by decide) (by decide), o_mod (show (0 : Int) < 4 by decide), o_mod (show (0 : Int) < 15 by decide), o_mod (show (0 : Int) < 9 by decide), o_mod (show (0 : Int) < 2 by decide), o_mod (show (0 : Int) < 12 by decide), e_sApp5, blt_ok hz, Nat.reduceLT]
theorem idx6 : ((List.range 6).all fun i => decide (E6.idxOf (E6.getD i "") = i) && decide (F6.idxOf (F6.getD i "") = i)) = true := by decide +kernel
theorem idxE {i : Nat} (h : i < 6) : E6.idxOf (E6.getD i "") = i := of_decide_eq_true (Bool.and_eq_true_iff.mp (List.all_eq_true.mp idx6 i (List.mem_range.mpr h))).1
theorem idxF {i : Nat} (h : i < 6) : F6.idxOf (F6.getD i "") = i := of_decide_eq_true (Bool.and_eq_true_iff.mp (List.all_eq_true.mp idx6 i (List.mem_range.mpr h))).2
theorem take6 : ((List.range 7).all fun n => decide (E6.take n = (List.range n).map fun i => E6.getD i "") && decide (F6.take n = (List.range n).map fun i => F6.getD i "")) = true := by decide +kernel
theorem rows1 {ns : List Int} : (List.range (2 + cv ns 1 % 4).toNat).map (row1 ns) = evs ns := by
  have h1 := Int.emod_nonneg (cv ns 1) (show (4 : Int) ≠ 0 by decide)
  have h2 := Int.emod_lt_of_pos (cv ns 1) (show (0 : Int) < 4 by decide)
  have e := of_decide_eq_true (Bool.and_eq_true_iff.mp (List.all_eq_true.mp take6 (2 + cv ns 1 % 4).toNat (List.mem_range.mpr (by omega)))).1
  show _ = (E6.take (2 + cv ns 1 % 4).toNat).map _
  rw [e, List.map_map]
  refine List.map_congr_left fun i hi => ?_
  have hi := List.mem_range.mp hi
  show row1 ns i = DV.tup [.str (E6.getD i ""), .str (mk_h ns (E6.idxOf (E6.getD i ""))), .int (mk_c ns (E6.idxOf (E6.getD i "")))]
  rw [idxE (by omega)]
  rfl
theorem rows2 {ns : List Int} : (List.range (cv ns 8 % 7).toNat).map (row2 ns) = (mk_fns ns).map (mk ns).frow := by
  have h1 := Int.emod_nonneg (cv ns 8) (show (7 : Int) ≠ 0 by decide)
  have h2 := Int.emod_lt_of_pos (cv ns 8) (show (0 : Int) < 7 by decide)
  have e := of_decide_eq_true (Bool.and_eq_true_iff.mp (List.all_eq_true.mp take6 (cv ns 8 % 7).toNat (List.mem_range.mpr (by omega)))).2
  show _ = (F6.take (cv ns 8 % 7).toNat).map _
  rw [e, List.map_map]
  refine List.map_congr_left fun i hi => ?_
  have hi := List.mem_range.mp hi
  show row2 ns i = (mk_f ns (F6.idxOf (F6.getD i ""))).row (F6.getD i "")
  rw [idxF (by omega)]
  rfl
theorem rng_ok {i : Int} (h0 : 0 ≤ i) (h1 : i < 100) : rng62 i = true := by
  unfold rng62
  rw [decide_eq_true (by omega), decide_eq_true (by omega)]; rfl
theorem log_ok {ns : List Int} : m__law_log [scr ns, .int 0, .int 6] = .ok (mk ns).rows := by
  show outR (F__law_log [.pu (scr ns), .pu (.int 0), .pu (.int 6), .un, .un, .un, .un, .un, .un, .un, .un, .un, .un, .un]) = _
  have c0 := cv_ok (ns := ns) (i := 0) (by decide)
  have c1 := cv_ok (ns := ns) (i := 1) (by decide)
  have c8 := cv_ok (ns := ns) (i := 8) (by decide)
  have h1 := Int.emod_nonneg (cv ns 1) (show (4 : Int) ≠ 0 by decide)
  have h2 := Int.emod_lt_of_pos (cv ns 1) (show (0 : Int) < 4 by decide)
  have h3 := Int.emod_nonneg (cv ns 8) (show (7 : Int) ≠ 0 by decide)
  have h4 := Int.emod_lt_of_pos (cv ns 8) (show (0 : Int) < 7 by decide)
  have hM : oSl (.lst [.str "b", .str "a", .str "dd", .str "c"]) none (some (1 + cv ns 0 % 4)) = .ok (.lst ((mk_ms ns).map DV.str)) := by
    show R.ok (DV.lst (cutD (M4.map DV.str) none _)) = _
    rw [cut_map]; rfl
  obtain ⟨δ1, f1, s6, s7, rfl⟩ := forD_G (g := gN 6) (F := B__law_log_1) (m := 6) (xs := List.range (2 + cv ns 1 % 4).toNat) (ys := []) (e := fun i : Nat => DV.int (0 + (i : Int)))
    (fun zs δ => ∃ s6 s7, δ = [.pu (scr ns), .pu (.int 0), .pu (.int 6), .pu (.lst ((mk_ms ns).map DV.str)), .ol (zs.map (row1 ns)), .ol [], s6, s7, .un, .un, .un, .un, .un, .un]) (by rw [List.length_range, List.length_nil]; omega)
    (by
      rintro i hi zs _ hz ⟨s6, s7, rfl⟩
      have hi := List.mem_range.mp hi
      have hl : (zs.map (row1 ns)).length < 16777216 := by rw [List.length_map]; omega
      exact ⟨_, _, rfl, turn1 (by omega) hl, _, _, by rw [List.map_append]; rfl⟩) _ ⟨.un, .un, rfl⟩
  obtain ⟨δ2, f2, t6, t7, t8, t9, t10, t11, t12, rfl⟩ := forD_G (g := gN 6) (F := B__law_log_2) (m := 7) (xs := List.range (cv ns 8 % 7).toNat) (ys := []) (e := fun i : Nat => DV.int (0 + (i : Int)))
    (fun zs δ => ∃ s6 s7 s8 s9 s10 s11 s12, δ = [.pu (scr ns), .pu (.int 0), .pu (.int 6), .pu (.lst ((mk_ms ns).map DV.str)), .pu (.lst (evs ns)), .ol (zs.map (row2 ns)), s6, s7, s8, s9, s10, s11, s12, .un]) (by rw [List.length_range, List.length_nil]; omega)
    (by
      rintro i hi zs _ hz ⟨s6, s7, s8, s9, s10, s11, s12, rfl⟩
      have hi := List.mem_range.mp hi
      have hl : (zs.map (row2 ns)).length < 16777216 := by rw [List.length_map]; omega
      exact ⟨_, _, rfl, turn2 (by omega) hl, _, _, _, _, _, _, _, by rw [List.map_append]; rfl⟩) _ ⟨s6, s7, .un, .un, .un, .un, .un, rfl⟩
  rw [List.nil_append, rows1, List.map_nil] at f1
  rw [List.nil_append, rows2, List.map_nil] at f2
  unfold F__law_log
  have f1 : forD (gN 6) B__law_log_1 (intsFrom 0 (2 + cv ns 1 % 4).toNat) _ = _ := f1
  have f2 : forD (gN 6) B__law_log_2 (intsFrom 0 (cv ns 8 % 7).toNat) _ = _ := f2
  simp only [e_sSeq, e_sIf, e_sSet, e_sPar, e_sAsg, e_sRaise, e_sFor, e_sFz, e_sDrop, e_sSetLc, e_xTest, e_xOp, e_xUn, e_xCB, e_xCall, e_xCons, e_xNil, e_xIf, e_xAnd, e_xOr, e_xNot, e_xAndV, e_xOrV, e_xNotV, e_xChain, e_xIsi, e_xSl, e_xPart, e_xNo, e_xSrc, e_xIt, e_xYes, e_lc, e_lcs, e_wn, e_wc, e_asI, e_v0, e_v1, e_v2, e_v3, e_v4, e_v5, e_v6, e_v7, e_v8, e_v9, e_vs, e_xC, R.bind_ok, R.bind_exc, e_asB, e_xS_ok, e_xS_exc, e_sNx, e_nx, e_rt, e_ex, e_sRet, e_xTup, e_xLst, small_ok, List.length_cons, List.length_nil, List.length_map, Nat.reduceAdd, Nat.reduceLeDiff, Nat.zero_le, if_true, if_false, Bool.false_eq_true, outR_nx, outR_rt, outR_ex, List.set_cons_succ, List.set_cons_zero, e_gT, e_gsCons, e_gsNil, e_gN, R.ofO, e_xFld, e_xProps, e_xCon, e_xDic, e_xDict, dictOf_d, Bool.not_true, Bool.not_false, o_int, o_neg, o_sub, o_add, o_gt, o_lt, o_le, o_ge, o_eqi, o_nei, o_eqb, o_neb, ixU_l, ixU_t, ixU_r, lenU_d, lenU_l, lenU_t, lenU_r, listU_N, anyU_N, anyU_l, anyU_t, dicI_N, in_dcN, in_lstN, in_tupN, dcN_len, o_tupl, o_listt, o_lastt, e_asN, Int.zero_add, Int.reduceAdd, c0, c1, c8, hM, o_mod (show (0 : Int) < 4 by decide), o_mod (show (0 : Int) < 7 by decide), rng_ok (show 0 ≤ 2 + cv ns 1 % 4 by omega) (by omega), rng_ok (show 0 ≤ cv ns 8 % 7 by omega) (by omega), e_sParLL, f1, e_frz4, f2, e_frz5]
  rfl
end G31

set_option maxHeartbeats 2000000
namespace G31
open PySem PySem.Spec PyProof.Rows L2 LD
/-! ### facts, events, logs made -/
theorem eqW_str {neg : Bool} {x y : Str} (hx : PyData.canLay0 (.str x) = true) (hy : PyData.canLay0 (.str y) = true) : oEqW neg (.str x) (.str y) = .ok (.bl (if neg then !(x == y) else x == y)) := by
  have s : ∀ {x : Str}, PyData.canLay0 (.str x) = true → SeqAt.shaped (.str x) = true := fun {x} h => by
    unfold SeqAt.shaped
    rw [h]; simp [PyData.depth]
  show (if (SeqAt.shaped (.str x) && SeqAt.shaped (.str y)) = true then _ else _) = _
  rw [s hx, s hy]
  simp [PyData.eqv]
theorem isW {i : Int} : m_is_whole [.int i] = .ok (.bl true) := rfl
theorem isI {k lo : Int} : m_is_integer [.int k, .int lo, .int 999] = .ok (.bl (decide (lo ≤ k) && decide (k ≤ 999))) := by
  show outR (F_is_integer [.pu (.int k), .pu (.int lo), .pu (.int 999)]) = _
  unfold F_is_integer
  simp only [e_sSeq, e_sIf, e_sSet, e_sPar, e_sAsg, e_sRaise, e_sFor, e_sFz, e_sDrop, e_sSetLc, e_xTest, e_xOp, e_xUn, e_xCB, e_xCall, e_xCons, e_xNil, e_xIf, e_xAnd, e_xOr, e_xNot, e_xAndV, e_xOrV, e_xNotV, e_xChain, e_xIsi, e_xSl, e_xPart, e_xNo, e_xSrc, e_xIt, e_xYes, e_lc, e_lcs, e_wn, e_wc, e_asI, e_v0, e_v1, e_v2, e_v3, e_v4, e_v5, e_v6, e_v7, e_v8, e_v9, e_vs, e_xC, R.bind_ok, R.bind_exc, e_asB, e_xS_ok, e_xS_exc, e_sNx, e_nx, e_rt, e_ex, e_sRet, e_xTup, e_xLst, small_ok, List.length_cons, List.length_nil, List.length_map, Nat.reduceAdd, Nat.reduceLeDiff, Nat.zero_le, if_true, if_false, Bool.false_eq_true, outR_nx, outR_rt, outR_ex, List.set_cons_succ, List.set_cons_zero, e_gT, e_gsCons, e_gsNil, e_gN, R.ofO, e_xFld, e_xProps, e_xCon, e_xDic, e_xDict, dictOf_d, Bool.not_true, Bool.not_false, o_int, o_neg, o_sub, o_add, o_gt, o_lt, o_le, o_ge, o_eqi, o_nei, o_eqb, o_neb, ixU_l, ixU_t, ixU_r, lenU_d, lenU_l, lenU_t, lenU_r, listU_N, anyU_N, anyU_l, anyU_t, dicI_N, in_dcN, in_lstN, in_tupN, dcN_len, o_tupl, o_listt, o_lastt, isW]
  cases decide (lo ≤ k) <;> rfl
theorem ev_init {h : Str} {c : Int} (hh : h ∈ allN) (h0 : 0 ≤ c) (h1 : c ≤ 999) : m_Event_init "Event" [] [.str h, .int c] = .ok [("host", .str h), ("clock", .int c)] := by
  unfold m_Event_init
  rw [imi_ev]
  show outI _ (F_Event_init [.oo "Event" [], .pu (.str h), .pu (.int c)]) = _
  unfold F_Event_init
  simp only [e_sSeq, e_sIf, e_sSet, e_sPar, e_sAsg, e_sRaise, e_sFor, e_sFz, e_sDrop, e_sSetLc, e_xTest, e_xOp, e_xUn, e_xCB, e_xCall, e_xCons, e_xNil, e_xIf, e_xAnd, e_xOr, e_xNot, e_xAndV, e_xOrV, e_xNotV, e_xChain, e_xIsi, e_xSl, e_xPart, e_xNo, e_xSrc, e_xIt, e_xYes, e_lc, e_lcs, e_wn, e_wc, e_asI, e_v0, e_v1, e_v2, e_v3, e_v4, e_v5, e_v6, e_v7, e_v8, e_v9, e_vs, e_xC, R.bind_ok, R.bind_exc, e_asB, e_xS_ok, e_xS_exc, e_sNx, e_nx, e_rt, e_ex, e_sRet, e_xTup, e_xLst, small_ok, List.length_cons, List.length_nil, List.length_map, Nat.reduceAdd, Nat.reduceLeDiff, Nat.zero_le, if_true, if_false, Bool.false_eq_true, outR_nx, outR_rt, outR_ex, List.set_cons_succ, List.set_cons_zero, e_gT, e_gsCons, e_gsNil, e_gN, R.ofO, e_xFld, e_xProps, e_xCon, e_xDic, e_xDict, dictOf_d, Bool.not_true, Bool.not_false, o_int, o_neg, o_sub, o_add, o_gt, o_lt, o_le, o_ge, o_eqi, o_nei, o_eqb, o_neb, ixU_l, ixU_t, ixU_r, lenU_d, lenU_l, lenU_t, lenU_r, listU_N, anyU_N, anyU_l, anyU_t, dicI_N, in_dcN, in_lstN, in_tupN, dcN_len, o_tupl, o_listt, o_lastt, is_name hh, isI, decide_eq_true h0, decide_eq_true h1, Bool.and_self]
  rfl
theorem fact_init {c one other : Str} {nums : List Int} {lo : Int} (hc : (["After", "Within", "Close"] : List Str).contains c = true) (h1 : one ∈ allN) (h2 : other ∈ allN) (hne : one ≠ other) (hn : ∀ k ∈ nums, lo ≤ k ∧ k ≤ 999) (hs : nums.length ≤ 100) : m_Fact_init c [] [.str one, .str other, .tup (nums.map DV.int), .int lo] = .ok [("pair", .tup [.str one, .str other]), ("bounds", .tup (nums.map DV.int))] := by
  unfold m_Fact_init
  rw [imi_ev]
  show outI _ (F_Fact_init [.oo c [], .pu (.str one), .pu (.str other), .pu (.tup (nums.map DV.int)), .pu (.int lo), .un]) = _
  have e1 : oEq (.str one) (.str other) = .ok (.bl false) := by
    have := eqW_str (neg := false) (canL h1) (canL h2)
    rw [beq_eq_false_iff_ne.mpr hne] at this
    exact this
  have e2 : lcD (gN 5) xYes (xCall m_is_integer (xCons (xVar 5) (xCons (xVar 4) (xCons (xC (.int 999)) xNil)))) [.oo c [], .pu (.str one), .pu (.str other), .pu (.tup (nums.map DV.int)), .pu (.int lo), .un] (nums.map DV.int) = .ok (nums.map fun _ => DV.bl true) :=
    lcD_N fun k hk => ⟨_, rfl, by
      simp only [e_sSeq, e_sIf, e_sSet, e_sPar, e_sAsg, e_sRaise, e_sFor, e_sFz, e_sDrop, e_sSetLc, e_xTest, e_xOp, e_xUn, e_xCB, e_xCall, e_xCons, e_xNil, e_xIf, e_xAnd, e_xOr, e_xNot, e_xAndV, e_xOrV, e_xNotV, e_xChain, e_xIsi, e_xSl, e_xPart, e_xNo, e_xSrc, e_xIt, e_xYes, e_lc, e_lcs, e_wn, e_wc, e_asI, e_v0, e_v1, e_v2, e_v3, e_v4, e_v5, e_v6, e_v7, e_v8, e_v9, e_vs, e_xC, R.bind_ok, R.bind_exc, e_asB, e_xS_ok, e_xS_exc, e_sNx, e_nx, e_rt, e_ex, e_sRet, e_xTup, e_xLst, small_ok, List.length_cons, List.length_nil, List.length_map, Nat.reduceAdd, Nat.reduceLeDiff, Nat.zero_le, if_true, if_false, Bool.false_eq_true, outR_nx, outR_rt, outR_ex, List.set_cons_succ, List.set_cons_zero, e_gT, e_gsCons, e_gsNil, e_gN, R.ofO, e_xFld, e_xProps, e_xCon, e_xDic, e_xDict, dictOf_d, Bool.not_true, Bool.not_false, o_int, o_neg, o_sub, o_add, o_gt, o_lt, o_le, o_ge, o_eqi, o_nei, o_eqb, o_neb, ixU_l, ixU_t, ixU_r, lenU_d, lenU_l, lenU_t, lenU_r, listU_N, anyU_N, anyU_l, anyU_t, dicI_N, in_dcN, in_lstN, in_tupN, dcN_len, o_tupl, o_listt, o_lastt, isI, decide_eq_true (hn k hk).1, decide_eq_true (hn k hk).2, Bool.and_self]⟩
  have e3 : nums.all (fun _ => true) = true := List.all_eq_true.mpr fun _ _ => rfl
  unfold F_Fact_init
  simp only [e_sSeq, e_sIf, e_sSet, e_sPar, e_sAsg, e_sRaise, e_sFor, e_sFz, e_sDrop, e_sSetLc, e_xTest, e_xOp, e_xUn, e_xCB, e_xCall, e_xCons, e_xNil, e_xIf, e_xAnd, e_xOr, e_xNot, e_xAndV, e_xOrV, e_xNotV, e_xChain, e_xIsi, e_xSl, e_xPart, e_xNo, e_xSrc, e_xIt, e_xYes, e_lc, e_lcs, e_wn, e_wc, e_asI, e_v0, e_v1, e_v2, e_v3, e_v4, e_v5, e_v6, e_v7, e_v8, e_v9, e_vs, e_xC, R.bind_ok, R.bind_exc, e_asB, e_xS_ok, e_xS_exc, e_sNx, e_nx, e_rt, e_ex, e_sRet, e_xTup, e_xLst, small_ok, List.length_cons, List.length_nil, List.length_map, Nat.reduceAdd, Nat.reduceLeDiff, Nat.zero_le, if_true, if_false, Bool.false_eq_true, outR_nx, outR_rt, outR_ex, List.set_cons_succ, List.set_cons_zero, e_gT, e_gsCons, e_gsNil, e_gN, R.ofO, e_xFld, e_xProps, e_xCon, e_xDic, e_xDict, dictOf_d, Bool.not_true, Bool.not_false, o_int, o_neg, o_sub, o_add, o_gt, o_lt, o_le, o_ge, o_eqi, o_nei, o_eqb, o_neb, ixU_l, ixU_t, ixU_r, lenU_d, lenU_l, lenU_t, lenU_r, listU_N, anyU_N, anyU_l, anyU_t, dicI_N, in_dcN, in_lstN, in_tupN, dcN_len, o_tupl, o_listt, o_lastt, is_name h1, is_name h2, e1, e2, small_ok (Nat.le_trans hs (by decide)), all_bls, e3, e_sFld, hc, show Nat.blt 0 1000 = true from rfl, show Nat.blt 1 1000 = true from rfl, Nat.zero_add, Bool.and_self, Bool.true_and, putD]
  rw [if_neg (show ¬ ("pair" : Str) = "bounds" by decide), outI_nx]
theorem after_init {one other : Str} {k : Int} (h1 : one ∈ allN) (h2 : other ∈ allN) (hne : one ≠ other) (hk : -999 ≤ k ∧ k ≤ 999) : m_After_init "After" [] [.str one, .str other, .int k] = .ok [("pair", .tup [.str one, .str other]), ("bounds", .tup [.int k])] := by
  have h := fact_init (c := "After") (nums := [k]) (lo := -999) (by decide) h1 h2 hne (by intro q hq; rw [List.mem_singleton.mp hq]; exact hk) (by simp)
  unfold m_After_init
  rw [imS_ev (by rfl)]
  unfold A_After_init
  show (xCons _ _ [.oo "After" [], .pu (.str one), .pu (.str other), .pu (.int k), .un]).bind _ = _
  have h : m_Fact_init "After" [] [.str one, .str other, .tup [.int k], .int (-999)] = _ := h
  simp only [e_sSeq, e_sIf, e_sSet, e_sPar, e_sAsg, e_sRaise, e_sFor, e_sFz, e_sDrop, e_sSetLc, e_xTest, e_xOp, e_xUn, e_xCB, e_xCall, e_xCons, e_xNil, e_xIf, e_xAnd, e_xOr, e_xNot, e_xAndV, e_xOrV, e_xNotV, e_xChain, e_xIsi, e_xSl, e_xPart, e_xNo, e_xSrc, e_xIt, e_xYes, e_lc, e_lcs, e_wn, e_wc, e_asI, e_v0, e_v1, e_v2, e_v3, e_v4, e_v5, e_v6, e_v7, e_v8, e_v9, e_vs, e_xC, R.bind_ok, R.bind_exc, e_asB, e_xS_ok, e_xS_exc, e_sNx, e_nx, e_rt, e_ex, e_sRet, e_xTup, e_xLst, small_ok, List.length_cons, List.length_nil, List.length_map, Nat.reduceAdd, Nat.reduceLeDiff, Nat.zero_le, if_true, if_false, Bool.false_eq_true, outR_nx, outR_rt, outR_ex, List.set_cons_succ, List.set_cons_zero, e_gT, e_gsCons, e_gsNil, e_gN, R.ofO, e_xFld, e_xProps, e_xCon, e_xDic, e_xDict, dictOf_d, Bool.not_true, Bool.not_false, o_int, o_neg, o_sub, o_add, o_gt, o_lt, o_le, o_ge, o_eqi, o_nei, o_eqb, o_neb, ixU_l, ixU_t, ixU_r, lenU_d, lenU_l, lenU_t, lenU_r, listU_N, anyU_N, anyU_l, anyU_t, dicI_N, in_dcN, in_lstN, in_tupN, dcN_len, o_tupl, o_listt, o_lastt, h, show Nat.beq 4 4 = true from rfl]
  rfl
theorem close_init {one other : Str} {k : Int} (h1 : one ∈ allN) (h2 : other ∈ allN) (hne : one ≠ other) (hk : 0 ≤ k ∧ k ≤ 999) : m_Close_init "Close" [] [.str one, .str other, .int k] = .ok [("pair", .tup [.str one, .str other]), ("bounds", .tup [.int k])] := by
  have h := fact_init (c := "Close") (nums := [k]) (lo := 0) (by decide) h1 h2 hne (by intro q hq; rw [List.mem_singleton.mp hq]; exact hk) (by simp)
  unfold m_Close_init
  rw [imS_ev (by rfl)]
  unfold A_Close_init
  show (xCons _ _ [.oo "Close" [], .pu (.str one), .pu (.str other), .pu (.int k), .un]).bind _ = _
  have h : m_Fact_init "Close" [] [.str one, .str other, .tup [.int k], .int 0] = _ := h
  simp only [e_sSeq, e_sIf, e_sSet, e_sPar, e_sAsg, e_sRaise, e_sFor, e_sFz, e_sDrop, e_sSetLc, e_xTest, e_xOp, e_xUn, e_xCB, e_xCall, e_xCons, e_xNil, e_xIf, e_xAnd, e_xOr, e_xNot, e_xAndV, e_xOrV, e_xNotV, e_xChain, e_xIsi, e_xSl, e_xPart, e_xNo, e_xSrc, e_xIt, e_xYes, e_lc, e_lcs, e_wn, e_wc, e_asI, e_v0, e_v1, e_v2, e_v3, e_v4, e_v5, e_v6, e_v7, e_v8, e_v9, e_vs, e_xC, R.bind_ok, R.bind_exc, e_asB, e_xS_ok, e_xS_exc, e_sNx, e_nx, e_rt, e_ex, e_sRet, e_xTup, e_xLst, small_ok, List.length_cons, List.length_nil, List.length_map, Nat.reduceAdd, Nat.reduceLeDiff, Nat.zero_le, if_true, if_false, Bool.false_eq_true, outR_nx, outR_rt, outR_ex, List.set_cons_succ, List.set_cons_zero, e_gT, e_gsCons, e_gsNil, e_gN, R.ofO, e_xFld, e_xProps, e_xCon, e_xDic, e_xDict, dictOf_d, Bool.not_true, Bool.not_false, o_int, o_neg, o_sub, o_add, o_gt, o_lt, o_le, o_ge, o_eqi, o_nei, o_eqb, o_neb, ixU_l, ixU_t, ixU_r, lenU_d, lenU_l, lenU_t, lenU_r, listU_N, anyU_N, anyU_l, anyU_t, dicI_N, in_dcN, in_lstN, in_tupN, dcN_len, o_tupl, o_listt, o_lastt, h, show Nat.beq 4 4 = true from rfl]
  rfl
theorem within_init {one other : Str} {k l : Int} (h1 : one ∈ allN) (h2 : other ∈ allN) (hne : one ≠ other) (hk : -999 ≤ k) (hkl : k ≤ l) (hl : l ≤ 999) : m_Within_init "Within" [] [.str one, .str other, .int k, .int l] = .ok [("pair", .tup [.str one, .str other]), ("bounds", .tup [.int k, .int l])] := by
  have h := fact_init (c := "Within") (nums := [k, l]) (lo := -999) (by decide) h1 h2 hne (by
    intro q hq
    rcases List.mem_cons.mp hq with rfl | hq
    · omega
    · rw [List.mem_singleton.mp hq]; omega) (by simp)
  unfold m_Within_init
  rw [imS_ev (by rfl)]
  unfold A_Within_init
  show (xCons _ _ [.oo "Within" [], .pu (.str one), .pu (.str other), .pu (.int k), .pu (.int l), .un]).bind _ = _
  have h : m_Fact_init "Within" [] [.str one, .str other, .tup [.int k, .int l], .int (-999)] = _ := h
  simp only [e_sSeq, e_sIf, e_sSet, e_sPar, e_sAsg, e_sRaise, e_sFor, e_sFz, e_sDrop, e_sSetLc, e_xTest, e_xOp, e_xUn, e_xCB, e_xCall, e_xCons, e_xNil, e_xIf, e_xAnd, e_xOr, e_xNot, e_xAndV, e_xOrV, e_xNotV, e_xChain, e_xIsi, e_xSl, e_xPart, e_xNo, e_xSrc, e_xIt, e_xYes, e_lc, e_lcs, e_wn, e_wc, e_asI, e_v0, e_v1, e_v2, e_v3, e_v4, e_v5, e_v6, e_v7, e_v8, e_v9, e_vs, e_xC, R.bind_ok, R.bind_exc, e_asB, e_xS_ok, e_xS_exc, e_sNx, e_nx, e_rt, e_ex, e_sRet, e_xTup, e_xLst, small_ok, List.length_cons, List.length_nil, List.length_map, Nat.reduceAdd, Nat.reduceLeDiff, Nat.zero_le, if_true, if_false, Bool.false_eq_true, outR_nx, outR_rt, outR_ex, List.set_cons_succ, List.set_cons_zero, e_gT, e_gsCons, e_gsNil, e_gN, R.ofO, e_xFld, e_xProps, e_xCon, e_xDic, e_xDict, dictOf_d, Bool.not_true, Bool.not_false, o_int, o_neg, o_sub, o_add, o_gt, o_lt, o_le, o_ge, o_eqi, o_nei, o_eqb, o_neb, ixU_l, ixU_t, ixU_r, lenU_d, lenU_l, lenU_t, lenU_r, listU_N, anyU_N, anyU_l, anyU_t, dicI_N, in_dcN, in_lstN, in_tupN, dcN_len, o_tupl, o_listt, o_lastt, h, show Nat.beq 4 4 = true from rfl]
  show outI _ (F_Within_init [.oo "Within" _, .pu (.str one), .pu (.str other), .pu (.int k), .pu (.int l), .un]) = _
  unfold F_Within_init
  simp only [e_sSeq, e_sIf, e_sSet, e_sPar, e_sAsg, e_sRaise, e_sFor, e_sFz, e_sDrop, e_sSetLc, e_xTest, e_xOp, e_xUn, e_xCB, e_xCall, e_xCons, e_xNil, e_xIf, e_xAnd, e_xOr, e_xNot, e_xAndV, e_xOrV, e_xNotV, e_xChain, e_xIsi, e_xSl, e_xPart, e_xNo, e_xSrc, e_xIt, e_xYes, e_lc, e_lcs, e_wn, e_wc, e_asI, e_v0, e_v1, e_v2, e_v3, e_v4, e_v5, e_v6, e_v7, e_v8, e_v9, e_vs, e_xC, R.bind_ok, R.bind_exc, e_asB, e_xS_ok, e_xS_exc, e_sNx, e_nx, e_rt, e_ex, e_sRet, e_xTup, e_xLst, small_ok, List.length_cons, List.length_nil, List.length_map, Nat.reduceAdd, Nat.reduceLeDiff, Nat.zero_le, if_true, if_false, Bool.false_eq_true, outR_nx, outR_rt, outR_ex, List.set_cons_succ, List.set_cons_zero, e_gT, e_gsCons, e_gsNil, e_gN, R.ofO, e_xFld, e_xProps, e_xCon, e_xDic, e_xDict, dictOf_d, Bool.not_true, Bool.not_false, o_int, o_neg, o_sub, o_add, o_gt, o_lt, o_le, o_ge, o_eqi, o_nei, o_eqb, o_neb, ixU_l, ixU_t, ixU_r, lenU_d, lenU_l, lenU_t, lenU_r, listU_N, anyU_N, anyU_l, anyU_t, dicI_N, in_dcN, in_lstN, in_tupN, dcN_len, o_tupl, o_listt, o_lastt, decide_eq_false (show ¬ l < k by omega)]
  rfl
theorem wd1 : oEq (.str "after") (.str "after") = .ok (.bl true) := okB_ok (by decide +kernel)
theorem wd2 : oEq (.str "close") (.str "after") = .ok (.bl false) := okB_ok (by decide +kernel)
theorem wd3 : oEq (.str "within") (.str "after") = .ok (.bl false) := okB_ok (by decide +kernel)
theorem wd4 : oEq (.str "close") (.str "close") = .ok (.bl true) := okB_ok (by decide +kernel)
theorem wd5 : oEq (.str "within") (.str "close") = .ok (.bl false) := okB_ok (by decide +kernel)
theorem wd6 : oEq (.str "after") (.str "close") = .ok (.bl false) := okB_ok (by decide +kernel)
theorem fact_ok {D : Lg} (o : LOk D) {f : Fc} (h : FOk D f) {n : Str} : m__law_fact [f.row n] = .ok f.obj := by
  obtain ⟨h1, h2⟩ := FOk.nms o h
  have hne := h.ne
  have hc := h.c
  obtain ⟨w, one, other, nums⟩ := f
  show outR (F__law_fact [.pu (.tup [.str n, .str w, .str one, .str other, .lst (nums.map DV.int)]), .un, .un, .un, .un, .un]) = _
  unfold F__law_fact
  dsimp only at h1 h2 hne hc
  rcases hc with ⟨rfl, _, _, k, k0, k1, rfl⟩ | ⟨rfl, _, _, k, k0, k1, rfl⟩ | ⟨rfl, _, _, k, l, k0, kl, k1, rfl⟩
  · simp only [e_sSeq, e_sIf, e_sSet, e_sPar, e_sAsg, e_sRaise, e_sFor, e_sFz, e_sDrop, e_sSetLc, e_xTest, e_xOp, e_xUn, e_xCB, e_xCall, e_xCons, e_xNil, e_xIf, e_xAnd, e_xOr, e_xNot, e_xAndV, e_xOrV, e_xNotV, e_xChain, e_xIsi, e_xSl, e_xPart, e_xNo, e_xSrc, e_xIt, e_xYes, e_lc, e_lcs, e_wn, e_wc, e_asI, e_v0, e_v1, e_v2, e_v3, e_v4, e_v5, e_v6, e_v7, e_v8, e_v9, e_vs, e_xC, R.bind_ok, R.bind_exc, e_asB, e_xS_ok, e_xS_exc, e_sNx, e_nx, e_rt, e_ex, e_sRet, e_xTup, e_xLst, small_ok, List.length_cons, List.length_nil, List.length_map, Nat.reduceAdd, Nat.reduceLeDiff, Nat.zero_le, if_true, if_false, Bool.false_eq_true, outR_nx, outR_rt, outR_ex, List.set_cons_succ, List.set_cons_zero, e_gT, e_gsCons, e_gsNil, e_gN, R.ofO, e_xFld, e_xProps, e_xCon, e_xDic, e_xDict, dictOf_d, Bool.not_true, Bool.not_false, o_int, o_neg, o_sub, o_add, o_gt, o_lt, o_le, o_ge, o_eqi, o_nei, o_eqb, o_neb, ixU_l, ixU_t, ixU_r, lenU_d, lenU_l, lenU_t, lenU_r, listU_N, anyU_N, anyU_l, anyU_t, dicI_N, in_dcN, in_lstN, in_tupN, dcN_len, o_tupl, o_listt, o_lastt, show Nat.beq 5 5 = true from rfl, show Nat.beq 3 3 = true from rfl, wd2, wd4, e_xMake, List.map_cons, List.map_nil, show atI [DV.int k] 0 = some (.int k) from rfl, close_init h1 h2 hne ⟨k0, k1⟩]
    rfl
  · simp only [e_sSeq, e_sIf, e_sSet, e_sPar, e_sAsg, e_sRaise, e_sFor, e_sFz, e_sDrop, e_sSetLc, e_xTest, e_xOp, e_xUn, e_xCB, e_xCall, e_xCons, e_xNil, e_xIf, e_xAnd, e_xOr, e_xNot, e_xAndV, e_xOrV, e_xNotV, e_xChain, e_xIsi, e_xSl, e_xPart, e_xNo, e_xSrc, e_xIt, e_xYes, e_lc, e_lcs, e_wn, e_wc, e_asI, e_v0, e_v1, e_v2, e_v3, e_v4, e_v5, e_v6, e_v7, e_v8, e_v9, e_vs, e_xC, R.bind_ok, R.bind_exc, e_asB, e_xS_ok, e_xS_exc, e_sNx, e_nx, e_rt, e_ex, e_sRet, e_xTup, e_xLst, small_ok, List.length_cons, List.length_nil, List.length_map, Nat.reduceAdd, Nat.reduceLeDiff, Nat.zero_le, if_true, if_false, Bool.false_eq_true, outR_nx, outR_rt, outR_ex, List.set_cons_succ, List.set_cons_zero, e_gT, e_gsCons, e_gsNil, e_gN, R.ofO, e_xFld, e_xProps, e_xCon, e_xDic, e_xDict, dictOf_d, Bool.not_true, Bool.not_false, o_int, o_neg, o_sub, o_add, o_gt, o_lt, o_le, o_ge, o_eqi, o_nei, o_eqb, o_neb, ixU_l, ixU_t, ixU_r, lenU_d, lenU_l, lenU_t, lenU_r, listU_N, anyU_N, anyU_l, anyU_t, dicI_N, in_dcN, in_lstN, in_tupN, dcN_len, o_tupl, o_listt, o_lastt, show Nat.beq 5 5 = true from rfl, show Nat.beq 3 3 = true from rfl, wd1, e_xMake, List.map_cons, List.map_nil, show atI [DV.int k] 0 = some (.int k) from rfl, after_init h1 h2 hne ⟨k0, k1⟩]
    rfl
  · simp only [e_sSeq, e_sIf, e_sSet, e_sPar, e_sAsg, e_sRaise, e_sFor, e_sFz, e_sDrop, e_sSetLc, e_xTest, e_xOp, e_xUn, e_xCB, e_xCall, e_xCons, e_xNil, e_xIf, e_xAnd, e_xOr, e_xNot, e_xAndV, e_xOrV, e_xNotV, e_xChain, e_xIsi, e_xSl, e_xPart, e_xNo, e_xSrc, e_xIt, e_xYes, e_lc, e_lcs, e_wn, e_wc, e_asI, e_v0, e_v1, e_v2, e_v3, e_v4, e_v5, e_v6, e_v7, e_v8, e_v9, e_vs, e_xC, R.bind_ok, R.bind_exc, e_asB, e_xS_ok, e_xS_exc, e_sNx, e_nx, e_rt, e_ex, e_sRet, e_xTup, e_xLst, small_ok, List.length_cons, List.length_nil, List.length_map, Nat.reduceAdd, Nat.reduceLeDiff, Nat.zero_le, if_true, if_false, Bool.false_eq_true, outR_nx, outR_rt, outR_ex, List.set_cons_succ, List.set_cons_zero, e_gT, e_gsCons, e_gsNil, e_gN, R.ofO, e_xFld, e_xProps, e_xCon, e_xDic, e_xDict, dictOf_d, Bool.not_true, Bool.not_false, o_int, o_neg, o_sub, o_add, o_gt, o_lt, o_le, o_ge, o_eqi, o_nei, o_eqb, o_neb, ixU_l, ixU_t, ixU_r, lenU_d, lenU_l, lenU_t, lenU_r, listU_N, anyU_N, anyU_l, anyU_t, dicI_N, in_dcN, in_lstN, in_tupN, dcN_len, o_tupl, o_listt, o_lastt, show Nat.beq 5 5 = true from rfl, show Nat.beq 4 4 = true from rfl, wd3, wd5, e_xMake, List.map_cons, List.map_nil, show atI [DV.int k, DV.int l] 0 = some (.int k) from rfl, show atI [DV.int k, DV.int l] 1 = some (.int l) from rfl, within_init h1 h2 hne k0 kl k1]
    rfl
end G31

set_option maxHeartbeats 2000000
namespace G31
open PySem PySem.Spec PyProof.Rows L2 LD
section
variable {D : Lg} (o : LOk D)
include o
theorem are_names_ms : m_are_names [.tup (D.ms.map DV.str)] = .ok (.bl true) := by
  have : (MS.all fun l => okB (m_are_names [.tup (l.map DV.str)]) true) = true := by decide +kernel
  exact okB_ok (List.all_eq_true.mp this _ o.ms)
theorem ev_of {n : Str} (h : n ∈ D.ens) : m_is_event_of [D.eobj n, .tup (D.ms.map DV.str)] = .ok (.bl true) := by
  show outR (F_is_event_of [.pu (.obj "Event" [("host", .str (D.hst n)), ("clock", .int (D.clk n))]), .pu (.tup (D.ms.map DV.str))]) = _
  unfold F_is_event_of
  simp only [e_sSeq, e_sIf, e_sSet, e_sPar, e_sAsg, e_sRaise, e_sFor, e_sFz, e_sDrop, e_sSetLc, e_xTest, e_xOp, e_xUn, e_xCB, e_xCall, e_xCons, e_xNil, e_xIf, e_xAnd, e_xOr, e_xNot, e_xAndV, e_xOrV, e_xNotV, e_xChain, e_xIsi, e_xSl, e_xPart, e_xNo, e_xSrc, e_xIt, e_xYes, e_lc, e_lcs, e_wn, e_wc, e_asI, e_v0, e_v1, e_v2, e_v3, e_v4, e_v5, e_v6, e_v7, e_v8, e_v9, e_vs, e_xC, R.bind_ok, R.bind_exc, e_asB, e_xS_ok, e_xS_exc, e_sNx, e_nx, e_rt, e_ex, e_sRet, e_xTup, e_xLst, small_ok, List.length_cons, List.length_nil, List.length_map, Nat.reduceAdd, Nat.reduceLeDiff, Nat.zero_le, if_true, if_false, Bool.false_eq_true, outR_nx, outR_rt, outR_ex, List.set_cons_succ, List.set_cons_zero, e_gT, e_gsCons, e_gsNil, e_gN, R.ofO, e_xFld, e_xProps, e_xCon, e_xDic, e_xDict, dictOf_d, Bool.not_true, Bool.not_false, o_int, o_neg, o_sub, o_add, o_gt, o_lt, o_le, o_ge, o_eqi, o_nei, o_eqb, o_neb, ixU_l, ixU_t, ixU_r, lenU_d, lenU_l, lenU_t, lenU_r, listU_N, anyU_N, anyU_l, anyU_t, dicI_N, in_dcN, in_lstN, in_tupN, dcN_len, o_tupl, o_listt, o_lastt, T0_str, T1_tup, T2_Event, T3_After, T3_Within, T3_Close, T4_After, T4_Within, T4_Close, T5_dic, T6_int, T7_int, T8_After, T8_Within, T8_Close, T9_Log, T10_After, T10_Within, T10_Close, show fldO ["Event"] "host" (.obj "Event" [("host", .str (D.hst n)), ("clock", .int (D.clk n))]) = .ok (.str (D.hst n)) from rfl, decide_eq_true (o.ev n h).1]
theorem pair_in {δ : Ev} {one other : Str} {xs : List Str} {d : DV} (hd : ∀ x : Str, oInU false (.str x) d = .ok (.bl (decide (x ∈ xs)))) (h1 : one ∈ xs) (h2 : other ∈ xs) {i : Nat} (hi : ∀ x : DV, xVar i (δ.set 3 (.pu x)) = .ok d) (h3 : 3 < δ.length) :
    lcD (gN 3) xYes (xOp (oInU false) (xVar 3) (xVar i)) δ [.str one, .str other] = .ok [.bl true, .bl true] := by
  have := lcD_N (g := gN 3) (fe := xOp (oInU false) (xVar 3) (xVar i)) (δ := δ) (h := fun _ => DV.bl true) (e := DV.str) (xs := [one, other]) fun n hn => ⟨_, rfl, by
    have e : xVar 3 (δ.set 3 (.pu (.str n))) = .ok (.str n) := by
      unfold xVar
      rw [List.getElem?_set_self h3]
    have hm : n ∈ xs := by
      rcases List.mem_cons.mp hn with rfl | hn
      · exact h1
      · rw [List.mem_singleton.mp hn]; exact h2
    rw [e_xOp, e, hi, R.bind_ok, R.bind_ok, hd, decide_eq_true hm]⟩
  exact this
theorem fc_of {f : Fc} (h : FOk D f) : m_is_fact_of [f.obj, .tup (D.ms.map DV.str), .dic (dcN D.ens D.eobj)] = .ok (.bl true) := by
  have hc := h.c
  obtain ⟨w, one, other, nums⟩ := f
  show outR (F_is_fact_of [.pu _, .pu (.tup (D.ms.map DV.str)), .pu (.dic (dcN D.ens D.eobj)), .un]) = _
  unfold F_is_fact_of
  dsimp only at hc
  have ha : oAll [.lst [DV.bl true, .bl true]] = .ok (.bl true) := rfl
  have hs : small ([DV.bl true, .bl true] : List DV).length = true := rfl
  have m1 : ∀ x : Str, oInU false (.str x) (.tup (D.ms.map DV.str)) = .ok (.bl (decide (x ∈ D.ms))) := fun x => in_tupN
  have m2 : ∀ x : Str, oInU false (.str x) (.dic (dcN D.ens D.eobj)) = .ok (.bl (decide (x ∈ D.ens))) := fun x => in_dcN
  rcases hc with ⟨rfl, a, b, k, k0, k1, rfl⟩ | ⟨rfl, a, b, k, k0, k1, rfl⟩ | ⟨rfl, a, b, k, l, k0, kl, k1, rfl⟩
  · rw [show Fc.obj ⟨"close", one, other, [k]⟩ = .obj "Close" [("pair", .tup [.str one, .str other]), ("bounds", .tup [.int k])] from rfl]
    simp only [e_sSeq, e_sIf, e_sSet, e_sPar, e_sAsg, e_sRaise, e_sFor, e_sFz, e_sDrop, e_sSetLc, e_xTest, e_xOp, e_xUn, e_xCB, e_xCall, e_xCons, e_xNil, e_xIf, e_xAnd, e_xOr, e_xNot, e_xAndV, e_xOrV, e_xNotV, e_xChain, e_xIsi, e_xSl, e_xPart, e_xNo, e_xSrc, e_xIt, e_xYes, e_lc, e_lcs, e_wn, e_wc, e_asI, e_v0, e_v1, e_v2, e_v3, e_v4, e_v5, e_v6, e_v7, e_v8, e_v9, e_vs, e_xC, R.bind_ok, R.bind_exc, e_asB, e_xS_ok, e_xS_exc, e_sNx, e_nx, e_rt, e_ex, e_sRet, e_xTup, e_xLst, small_ok, List.length_cons, List.length_nil, List.length_map, Nat.reduceAdd, Nat.reduceLeDiff, Nat.zero_le, if_true, if_false, Bool.false_eq_true, outR_nx, outR_rt, outR_ex, List.set_cons_succ, List.set_cons_zero, e_gT, e_gsCons, e_gsNil, e_gN, R.ofO, e_xFld, e_xProps, e_xCon, e_xDic, e_xDict, dictOf_d, Bool.not_true, Bool.not_false, o_int, o_neg, o_sub, o_add, o_gt, o_lt, o_le, o_ge, o_eqi, o_nei, o_eqb, o_neb, ixU_l, ixU_t, ixU_r, lenU_d, lenU_l, lenU_t, lenU_r, listU_N, anyU_N, anyU_l, anyU_t, dicI_N, in_dcN, in_lstN, in_tupN, dcN_len, o_tupl, o_listt, o_lastt, T0_str, T1_tup, T2_Event, T3_After, T3_Within, T3_Close, T4_After, T4_Within, T4_Close, T5_dic, T6_int, T7_int, T8_After, T8_Within, T8_Close, T9_Log, T10_After, T10_Within, T10_Close, show fldO ["After", "Within", "Close"] "pair" (.obj "Close" [("pair", .tup [.str one, .str other]), ("bounds", .tup [.int k])]) = .ok (.tup [.str one, .str other]) from rfl]
    rw [pair_in o (i := 1) m1 a b]
    · simp only [e_sSeq, e_sIf, e_sSet, e_sPar, e_sAsg, e_sRaise, e_sFor, e_sFz, e_sDrop, e_sSetLc, e_xTest, e_xOp, e_xUn, e_xCB, e_xCall, e_xCons, e_xNil, e_xIf, e_xAnd, e_xOr, e_xNot, e_xAndV, e_xOrV, e_xNotV, e_xChain, e_xIsi, e_xSl, e_xPart, e_xNo, e_xSrc, e_xIt, e_xYes, e_lc, e_lcs, e_wn, e_wc, e_asI, e_v0, e_v1, e_v2, e_v3, e_v4, e_v5, e_v6, e_v7, e_v8, e_v9, e_vs, e_xC, R.bind_ok, R.bind_exc, e_asB, e_xS_ok, e_xS_exc, e_sNx, e_nx, e_rt, e_ex, e_sRet, e_xTup, e_xLst, small_ok, List.length_cons, List.length_nil, List.length_map, Nat.reduceAdd, Nat.reduceLeDiff, Nat.zero_le, if_true, if_false, Bool.false_eq_true, outR_nx, outR_rt, outR_ex, List.set_cons_succ, List.set_cons_zero, e_gT, e_gsCons, e_gsNil, e_gN, R.ofO, e_xFld, e_xProps, e_xCon, e_xDic, e_xDict, dictOf_d, Bool.not_true, Bool.not_false, hs, ha]
    · intro x; rfl
    · show 3 < 4; decide
  · rw [show Fc.obj ⟨"after", one, other, [k]⟩ = .obj "After" [("pair", .tup [.str one, .str other]), ("bounds", .tup [.int k])] from rfl]
    simp only [e_sSeq, e_sIf, e_sSet, e_sPar, e_sAsg, e_sRaise, e_sFor, e_sFz, e_sDrop, e_sSetLc, e_xTest, e_xOp, e_xUn, e_xCB, e_xCall, e_xCons, e_xNil, e_xIf, e_xAnd, e_xOr, e_xNot, e_xAndV, e_xOrV, e_xNotV, e_xChain, e_xIsi, e_xSl, e_xPart, e_xNo, e_xSrc, e_xIt, e_xYes, e_lc, e_lcs, e_wn, e_wc, e_asI, e_v0, e_v1, e_v2, e_v3, e_v4, e_v5, e_v6, e_v7, e_v8, e_v9, e_vs, e_xC, R.bind_ok, R.bind_exc, e_asB, e_xS_ok, e_xS_exc, e_sNx, e_nx, e_rt, e_ex, e_sRet, e_xTup, e_xLst, small_ok, List.length_cons, List.length_nil, List.length_map, Nat.reduceAdd, Nat.reduceLeDiff, Nat.zero_le, if_true, if_false, Bool.false_eq_true, outR_nx, outR_rt, outR_ex, List.set_cons_succ, List.set_cons_zero, e_gT, e_gsCons, e_gsNil, e_gN, R.ofO, e_xFld, e_xProps, e_xCon, e_xDic, e_xDict, dictOf_d, Bool.not_true, Bool.not_false, o_int, o_neg, o_sub, o_add, o_gt, o_lt, o_le, o_ge, o_eqi, o_nei, o_eqb, o_neb, ixU_l, ixU_t, ixU_r, lenU_d, lenU_l, lenU_t, lenU_r, listU_N, anyU_N, anyU_l, anyU_t, dicI_N, in_dcN, in_lstN, in_tupN, dcN_len, o_tupl, o_listt, o_lastt, T0_str, T1_tup, T2_Event, T3_After, T3_Within, T3_Close, T4_After, T4_Within, T4_Close, T5_dic, T6_int, T7_int, T8_After, T8_Within, T8_Close, T9_Log, T10_After, T10_Within, T10_Close, show fldO ["After", "Within", "Close"] "pair" (.obj "After" [("pair", .tup [.str one, .str other]), ("bounds", .tup [.int k])]) = .ok (.tup [.str one, .str other]) from rfl]
    rw [pair_in o (i := 2) m2 a b]
    · simp only [e_sSeq, e_sIf, e_sSet, e_sPar, e_sAsg, e_sRaise, e_sFor, e_sFz, e_sDrop, e_sSetLc, e_xTest, e_xOp, e_xUn, e_xCB, e_xCall, e_xCons, e_xNil, e_xIf, e_xAnd, e_xOr, e_xNot, e_xAndV, e_xOrV, e_xNotV, e_xChain, e_xIsi, e_xSl, e_xPart, e_xNo, e_xSrc, e_xIt, e_xYes, e_lc, e_lcs, e_wn, e_wc, e_asI, e_v0, e_v1, e_v2, e_v3, e_v4, e_v5, e_v6, e_v7, e_v8, e_v9, e_vs, e_xC, R.bind_ok, R.bind_exc, e_asB, e_xS_ok, e_xS_exc, e_sNx, e_nx, e_rt, e_ex, e_sRet, e_xTup, e_xLst, small_ok, List.length_cons, List.length_nil, List.length_map, Nat.reduceAdd, Nat.reduceLeDiff, Nat.zero_le, if_true, if_false, Bool.false_eq_true, outR_nx, outR_rt, outR_ex, List.set_cons_succ, List.set_cons_zero, e_gT, e_gsCons, e_gsNil, e_gN, R.ofO, e_xFld, e_xProps, e_xCon, e_xDic, e_xDict, dictOf_d, Bool.not_true, Bool.not_false, hs, ha]
    · intro x; rfl
    · show 3 < 4; decide
  · rw [show Fc.obj ⟨"within", one, other, [k, l]⟩ = .obj "Within" [("pair", .tup [.str one, .str other]), ("bounds", .tup [.int k, .int l])] from rfl]
    simp only [e_sSeq, e_sIf, e_sSet, e_sPar, e_sAsg, e_sRaise, e_sFor, e_sFz, e_sDrop, e_sSetLc, e_xTest, e_xOp, e_xUn, e_xCB, e_xCall, e_xCons, e_xNil, e_xIf, e_xAnd, e_xOr, e_xNot, e_xAndV, e_xOrV, e_xNotV, e_xChain, e_xIsi, e_xSl, e_xPart, e_xNo, e_xSrc, e_xIt, e_xYes, e_lc, e_lcs, e_wn, e_wc, e_asI, e_v0, e_v1, e_v2, e_v3, e_v4, e_v5, e_v6, e_v7, e_v8, e_v9, e_vs, e_xC, R.bind_ok, R.bind_exc, e_asB, e_xS_ok, e_xS_exc, e_sNx, e_nx, e_rt, e_ex, e_sRet, e_xTup, e_xLst, small_ok, List.length_cons, List.length_nil, List.length_map, Nat.reduceAdd, Nat.reduceLeDiff, Nat.zero_le, if_true, if_false, Bool.false_eq_true, outR_nx, outR_rt, outR_ex, List.set_cons_succ, List.set_cons_zero, e_gT, e_gsCons, e_gsNil, e_gN, R.ofO, e_xFld, e_xProps, e_xCon, e_xDic, e_xDict, dictOf_d, Bool.not_true, Bool.not_false, o_int, o_neg, o_sub, o_add, o_gt, o_lt, o_le, o_ge, o_eqi, o_nei, o_eqb, o_neb, ixU_l, ixU_t, ixU_r, lenU_d, lenU_l, lenU_t, lenU_r, listU_N, anyU_N, anyU_l, anyU_t, dicI_N, in_dcN, in_lstN, in_tupN, dcN_len, o_tupl, o_listt, o_lastt, T0_str, T1_tup, T2_Event, T3_After, T3_Within, T3_Close, T4_After, T4_Within, T4_Close, T5_dic, T6_int, T7_int, T8_After, T8_Within, T8_Close, T9_Log, T10_After, T10_Within, T10_Close, show fldO ["After", "Within", "Close"] "pair" (.obj "Within" [("pair", .tup [.str one, .str other]), ("bounds", .tup [.int k, .int l])]) = .ok (.tup [.str one, .str other]) from rfl]
    rw [pair_in o (i := 2) m2 a b]
    · simp only [e_sSeq, e_sIf, e_sSet, e_sPar, e_sAsg, e_sRaise, e_sFor, e_sFz, e_sDrop, e_sSetLc, e_xTest, e_xOp, e_xUn, e_xCB, e_xCall, e_xCons, e_xNil, e_xIf, e_xAnd, e_xOr, e_xNot, e_xAndV, e_xOrV, e_xNotV, e_xChain, e_xIsi, e_xSl, e_xPart, e_xNo, e_xSrc, e_xIt, e_xYes, e_lc, e_lcs, e_wn, e_wc, e_asI, e_v0, e_v1, e_v2, e_v3, e_v4, e_v5, e_v6, e_v7, e_v8, e_v9, e_vs, e_xC, R.bind_ok, R.bind_exc, e_asB, e_xS_ok, e_xS_exc, e_sNx, e_nx, e_rt, e_ex, e_sRet, e_xTup, e_xLst, small_ok, List.length_cons, List.length_nil, List.length_map, Nat.reduceAdd, Nat.reduceLeDiff, Nat.zero_le, if_true, if_false, Bool.false_eq_true, outR_nx, outR_rt, outR_ex, List.set_cons_succ, List.set_cons_zero, e_gT, e_gsCons, e_gsNil, e_gN, R.ofO, e_xFld, e_xProps, e_xCon, e_xDic, e_xDict, dictOf_d, Bool.not_true, Bool.not_false, hs, ha]
    · intro x; rfl
    · show 3 < 4; decide
theorem log_init : m_Log_init "Log" [] [.tup (D.ms.map DV.str), .dic (dcN D.ens D.eobj), .dic (dcN D.fns D.fobj)] = .ok D.flds := by
  unfold m_Log_init
  rw [imi_ev]
  show outI _ (F_Log_init [.oo "Log" [], .pu (.tup (D.ms.map DV.str)), .pu (.dic (dcN D.ens D.eobj)), .pu (.dic (dcN D.fns D.fobj)), .un, .un, .un]) = _
  have hm := msLen o
  have he := ensLen o
  have hf := fnsLen o
  obtain ⟨δ1, f1, s4, s5, rfl⟩ := forD_N (g := gT 2 (gsCons (gN 4) (gsCons (gN 5) gsNil))) (F := B_Log_init_1) (xs := D.ens) (e := fun n => DV.tup [.str n, D.eobj n])
    (fun δ => ∃ s4 s5, δ = [.oo "Log" [], .pu (.tup (D.ms.map DV.str)), .pu (.dic (dcN D.ens D.eobj)), .pu (.dic (dcN D.fns D.fobj)), s4, s5, .un])
    (by
      rintro n hn _ ⟨s4, s5, rfl⟩
      refine ⟨_, _, rfl, ?_, .pu (.str n), .pu (D.eobj n), rfl⟩
      show B_Log_init_1 [.oo "Log" [], .pu (.tup (D.ms.map DV.str)), .pu (.dic (dcN D.ens D.eobj)), .pu (.dic (dcN D.fns D.fobj)), .pu (.str n), .pu (D.eobj n), .un] = _
      unfold B_Log_init_1
      simp only [e_sSeq, e_sIf, e_sSet, e_sPar, e_sAsg, e_sRaise, e_sFor, e_sFz, e_sDrop, e_sSetLc, e_xTest, e_xOp, e_xUn, e_xCB, e_xCall, e_xCons, e_xNil, e_xIf, e_xAnd, e_xOr, e_xNot, e_xAndV, e_xOrV, e_xNotV, e_xChain, e_xIsi, e_xSl, e_xPart, e_xNo, e_xSrc, e_xIt, e_xYes, e_lc, e_lcs, e_wn, e_wc, e_asI, e_v0, e_v1, e_v2, e_v3, e_v4, e_v5, e_v6, e_v7, e_v8, e_v9, e_vs, e_xC, R.bind_ok, R.bind_exc, e_asB, e_xS_ok, e_xS_exc, e_sNx, e_nx, e_rt, e_ex, e_sRet, e_xTup, e_xLst, small_ok, List.length_cons, List.length_nil, List.length_map, Nat.reduceAdd, Nat.reduceLeDiff, Nat.zero_le, if_true, if_false, Bool.false_eq_true, outR_nx, outR_rt, outR_ex, List.set_cons_succ, List.set_cons_zero, e_gT, e_gsCons, e_gsNil, e_gN, R.ofO, e_xFld, e_xProps, e_xCon, e_xDic, e_xDict, dictOf_d, Bool.not_true, Bool.not_false, is_name (eN o hn), ev_of o hn]) _ ⟨.un, .un, rfl⟩
  obtain ⟨δ2, f2, t4, t5, t6, rfl⟩ := forD_N (g := gT 2 (gsCons (gN 4) (gsCons (gN 6) gsNil))) (F := B_Log_init_2) (xs := D.fns) (e := fun n => DV.tup [.str n, D.fobj n])
    (fun δ => ∃ s4 s5 s6, δ = [.oo "Log" [], .pu (.tup (D.ms.map DV.str)), .pu (.dic (dcN D.ens D.eobj)), .pu (.dic (dcN D.fns D.fobj)), s4, s5, s6])
    (by
      rintro n hn _ ⟨s4, s5, s6, rfl⟩
      refine ⟨_, _, rfl, ?_, .pu (.str n), s5, .pu (D.fobj n), rfl⟩
      show B_Log_init_2 [.oo "Log" [], .pu (.tup (D.ms.map DV.str)), .pu (.dic (dcN D.ens D.eobj)), .pu (.dic (dcN D.fns D.fobj)), .pu (.str n), s5, .pu (D.fobj n)] = _
      unfold B_Log_init_2
      simp only [e_sSeq, e_sIf, e_sSet, e_sPar, e_sAsg, e_sRaise, e_sFor, e_sFz, e_sDrop, e_sSetLc, e_xTest, e_xOp, e_xUn, e_xCB, e_xCall, e_xCons, e_xNil, e_xIf, e_xAnd, e_xOr, e_xNot, e_xAndV, e_xOrV, e_xNotV, e_xChain, e_xIsi, e_xSl, e_xPart, e_xNo, e_xSrc, e_xIt, e_xYes, e_lc, e_lcs, e_wn, e_wc, e_asI, e_v0, e_v1, e_v2, e_v3, e_v4, e_v5, e_v6, e_v7, e_v8, e_v9, e_vs, e_xC, R.bind_ok, R.bind_exc, e_asB, e_xS_ok, e_xS_exc, e_sNx, e_nx, e_rt, e_ex, e_sRet, e_xTup, e_xLst, small_ok, List.length_cons, List.length_nil, List.length_map, Nat.reduceAdd, Nat.reduceLeDiff, Nat.zero_le, if_true, if_false, Bool.false_eq_true, outR_nx, outR_rt, outR_ex, List.set_cons_succ, List.set_cons_zero, e_gT, e_gsCons, e_gsNil, e_gN, R.ofO, e_xFld, e_xProps, e_xCon, e_xDic, e_xDict, dictOf_d, Bool.not_true, Bool.not_false, is_name (fN o hn), show m_is_fact_of [D.fobj n, .tup (D.ms.map DV.str), .dic (dcN D.ens D.eobj)] = .ok (.bl true) from fc_of o (o.fc n hn)]) _ ⟨s4, s5, .un, rfl⟩
  unfold F_Log_init
  simp only [e_sSeq, e_sIf, e_sSet, e_sPar, e_sAsg, e_sRaise, e_sFor, e_sFz, e_sDrop, e_sSetLc, e_xTest, e_xOp, e_xUn, e_xCB, e_xCall, e_xCons, e_xNil, e_xIf, e_xAnd, e_xOr, e_xNot, e_xAndV, e_xOrV, e_xNotV, e_xChain, e_xIsi, e_xSl, e_xPart, e_xNo, e_xSrc, e_xIt, e_xYes, e_lc, e_lcs, e_wn, e_wc, e_asI, e_v0, e_v1, e_v2, e_v3, e_v4, e_v5, e_v6, e_v7, e_v8, e_v9, e_vs, e_xC, R.bind_ok, R.bind_exc, e_asB, e_xS_ok, e_xS_exc, e_sNx, e_nx, e_rt, e_ex, e_sRet, e_xTup, e_xLst, small_ok, List.length_cons, List.length_nil, List.length_map, Nat.reduceAdd, Nat.reduceLeDiff, Nat.zero_le, if_true, if_false, Bool.false_eq_true, outR_nx, outR_rt, outR_ex, List.set_cons_succ, List.set_cons_zero, e_gT, e_gsCons, e_gsNil, e_gN, R.ofO, e_xFld, e_xProps, e_xCon, e_xDic, e_xDict, dictOf_d, Bool.not_true, Bool.not_false, o_int, o_neg, o_sub, o_add, o_gt, o_lt, o_le, o_ge, o_eqi, o_nei, o_eqb, o_neb, ixU_l, ixU_t, ixU_r, lenU_d, lenU_l, lenU_t, lenU_r, listU_N, anyU_N, anyU_l, anyU_t, dicI_N, in_dcN, in_lstN, in_tupN, dcN_len, o_tupl, o_listt, o_lastt, T0_str, T1_tup, T2_Event, T3_After, T3_Within, T3_Close, T4_After, T4_Within, T4_Close, T5_dic, T6_int, T7_int, T8_After, T8_Within, T8_Close, T9_Log, T10_After, T10_Within, T10_Close, are_names_ms o, decide_eq_true (show (1 : Int) ≤ (D.ms.length : Int) by omega), decide_eq_true (show (D.ms.length : Int) ≤ 4 by omega), decide_eq_true (show (2 : Int) ≤ (D.ens.length : Int) by omega), decide_eq_true (show (D.ens.length : Int) ≤ 6 by omega), decide_eq_false (show ¬ (6 : Int) < (D.fns.length : Int) by omega), f1, f2, e_sFld]
  rfl
theorem whole_ok : m__law_whole [D.rows] = .ok D.obj := by
  show outR (F__law_whole [.pu (.tup [.lst (D.ms.map DV.str), .lst (D.ens.map D.erow), .lst (D.fns.map D.frow)]), .un, .un, .un, .un, .un, .un, .un, .un]) = _
  have he := ensLen o
  have hf := fnsLen o
  have l1 : ∀ r : Ev, lcD (gT 3 (gsCons (gN 5) (gsCons (gN 6) (gsCons (gN 7) gsNil)))) xYes (xTup (xCons (xVar 5) (xCons (xMake "Event" 2 m_Event_init (xCons (xVar 6) (xCons (xVar 7) xNil))) xNil))) [.pu D.rows, .pu (.lst (D.ms.map DV.str)), .pu (.lst (D.ens.map D.erow)), .pu (.lst (D.fns.map D.frow)), .un, .un, .un, .un, .un] (D.ens.map D.erow) = .ok (D.ens.map fun n => .tup [.str n, D.eobj n]) := fun _ =>
    lcD_N fun n hn => ⟨[.pu D.rows, .pu (.lst (D.ms.map DV.str)), .pu (.lst (D.ens.map D.erow)), .pu (.lst (D.fns.map D.frow)), .un, .pu (.str n), .pu (.str (D.hst n)), .pu (.int (D.clk n)), .un], rfl, by
      have := o.ev n hn
      simp only [e_sSeq, e_sIf, e_sSet, e_sPar, e_sAsg, e_sRaise, e_sFor, e_sFz, e_sDrop, e_sSetLc, e_xTest, e_xOp, e_xUn, e_xCB, e_xCall, e_xCons, e_xNil, e_xIf, e_xAnd, e_xOr, e_xNot, e_xAndV, e_xOrV, e_xNotV, e_xChain, e_xIsi, e_xSl, e_xPart, e_xNo, e_xSrc, e_xIt, e_xYes, e_lc, e_lcs, e_wn, e_wc, e_asI, e_v0, e_v1, e_v2, e_v3, e_v4, e_v5, e_v6, e_v7, e_v8, e_v9, e_vs, e_xC, R.bind_ok, R.bind_exc, e_asB, e_xS_ok, e_xS_exc, e_sNx, e_nx, e_rt, e_ex, e_sRet, e_xTup, e_xLst, small_ok, List.length_cons, List.length_nil, List.length_map, Nat.reduceAdd, Nat.reduceLeDiff, Nat.zero_le, if_true, if_false, Bool.false_eq_true, outR_nx, outR_rt, outR_ex, List.set_cons_succ, List.set_cons_zero, e_gT, e_gsCons, e_gsNil, e_gN, R.ofO, e_xFld, e_xProps, e_xCon, e_xDic, e_xDict, dictOf_d, Bool.not_true, Bool.not_false, e_xMake, show Nat.beq 2 2 = true from rfl, ev_init (mN o this.1) this.2.1 this.2.2]
      rfl⟩
  have l2 : lcD (gN 8) xYes (xTup (xCons (xOp oIxU (xVar 8) (xC (.int 0))) (xCons (xCall m__law_fact (xCons (xVar 8) xNil)) xNil))) [.pu D.rows, .pu (.lst (D.ms.map DV.str)), .pu (.lst (D.ens.map D.erow)), .pu (.lst (D.fns.map D.frow)), .pu (.dic (dcN D.ens D.eobj)), .un, .un, .un, .un] (D.fns.map D.frow) = .ok (D.fns.map fun n => .tup [.str n, D.fobj n]) :=
    lcD_N fun n hn => ⟨[.pu D.rows, .pu (.lst (D.ms.map DV.str)), .pu (.lst (D.ens.map D.erow)), .pu (.lst (D.fns.map D.frow)), .pu (.dic (dcN D.ens D.eobj)), .un, .un, .un, .pu (D.frow n)], rfl, by
      simp only [e_sSeq, e_sIf, e_sSet, e_sPar, e_sAsg, e_sRaise, e_sFor, e_sFz, e_sDrop, e_sSetLc, e_xTest, e_xOp, e_xUn, e_xCB, e_xCall, e_xCons, e_xNil, e_xIf, e_xAnd, e_xOr, e_xNot, e_xAndV, e_xOrV, e_xNotV, e_xChain, e_xIsi, e_xSl, e_xPart, e_xNo, e_xSrc, e_xIt, e_xYes, e_lc, e_lcs, e_wn, e_wc, e_asI, e_v0, e_v1, e_v2, e_v3, e_v4, e_v5, e_v6, e_v7, e_v8, e_v9, e_vs, e_xC, R.bind_ok, R.bind_exc, e_asB, e_xS_ok, e_xS_exc, e_sNx, e_nx, e_rt, e_ex, e_sRet, e_xTup, e_xLst, small_ok, List.length_cons, List.length_nil, List.length_map, Nat.reduceAdd, Nat.reduceLeDiff, Nat.zero_le, if_true, if_false, Bool.false_eq_true, outR_nx, outR_rt, outR_ex, List.set_cons_succ, List.set_cons_zero, e_gT, e_gsCons, e_gsNil, e_gN, R.ofO, e_xFld, e_xProps, e_xCon, e_xDic, e_xDict, dictOf_d, Bool.not_true, Bool.not_false, show m__law_fact [D.frow n] = .ok (D.fct n).obj from fact_ok o (o.fc n hn), show oIxU (D.frow n) (.int 0) = .ok (.str n) from rfl]
      rfl⟩
  unfold F__law_whole
  have l1 := l1 []
  unfold Lg.rows at l1 l2
  simp only [e_sSeq, e_sIf, e_sSet, e_sPar, e_sAsg, e_sRaise, e_sFor, e_sFz, e_sDrop, e_sSetLc, e_xTest, e_xOp, e_xUn, e_xCB, e_xCall, e_xCons, e_xNil, e_xIf, e_xAnd, e_xOr, e_xNot, e_xAndV, e_xOrV, e_xNotV, e_xChain, e_xIsi, e_xSl, e_xPart, e_xNo, e_xSrc, e_xIt, e_xYes, e_lc, e_lcs, e_wn, e_wc, e_asI, e_v0, e_v1, e_v2, e_v3, e_v4, e_v5, e_v6, e_v7, e_v8, e_v9, e_vs, e_xC, R.bind_ok, R.bind_exc, e_asB, e_xS_ok, e_xS_exc, e_sNx, e_nx, e_rt, e_ex, e_sRet, e_xTup, e_xLst, small_ok, List.length_cons, List.length_nil, List.length_map, Nat.reduceAdd, Nat.reduceLeDiff, Nat.zero_le, if_true, if_false, Bool.false_eq_true, outR_nx, outR_rt, outR_ex, List.set_cons_succ, List.set_cons_zero, e_gT, e_gsCons, e_gsNil, e_gN, R.ofO, e_xFld, e_xProps, e_xCon, e_xDic, e_xDict, dictOf_d, Bool.not_true, Bool.not_false, o_int, o_neg, o_sub, o_add, o_gt, o_lt, o_le, o_ge, o_eqi, o_nei, o_eqb, o_neb, ixU_l, ixU_t, ixU_r, lenU_d, lenU_l, lenU_t, lenU_r, listU_N, anyU_N, anyU_l, anyU_t, dicI_N, in_dcN, in_lstN, in_tupN, dcN_len, o_tupl, o_listt, o_lastt, show Nat.beq 3 3 = true from rfl, l1, small_ok (show D.ens.length ≤ 16777216 by omega), small_ok (show D.fns.length ≤ 16777216 by omega), dictOf_N (ensNd o), l2, dictOf_N (fnsNd o), e_xMake, log_init o]
  rfl
end
end G31

set_option maxHeartbeats 2000000
namespace G31
open PySem PySem.Spec PyProof.Rows L2 LD LG
/-! ### all sets -/
def nxt (l : List Str) (layer : List (List Str)) : List (List Str) := layer.flatMap fun s => (l.drop (match s.getLast? with
  | none => 0
  | some x => l.idxOf x + 1)).map fun x => s ++ [x]
def subsN (l : List Str) : Nat → List (List Str) → List (List Str)
  | 0, _ => []
  | n + 1, layer => layer ++ subsN l n (nxt l layer)
def subs (l : List Str) : List (List Str) := subsN l (l.length + 1) [[]]
def dset (s : List Str) : DV := .tup (s.map DV.str)
theorem lay_all {l : List Str} (h : l ∈ FS) {d : List (Str × DV)} : layD F2_Log_subsets F3_Log_subsets 3 2 100 [.pu (.obj "Log" d), .pu (.lst (l.map DV.str)), .pu (.lst [.tup []]), .un] = .ok ((subs l).map dset) := by
  simp only [FS, List.mem_cons, List.not_mem_nil, or_false] at h
  rcases h with rfl | rfl | rfl | rfl | rfl | rfl | rfl
  · kernel_rfl
  · kernel_rfl
  · kernel_rfl
  · kernel_rfl
  · kernel_rfl
  · kernel_rfl
  · kernel_rfl
theorem while_all {l : List Str} (h : l ∈ FS) {d : DV} : (sSeq (sWhile 32 (xTest (xOp oNe (xVar 3) (xLst (xNil)))) B__law_sets_2) (sRet (xVar 2))) [.pu d, .pu (.lst (l.map DV.str)), .pu (.lst []), .pu (.lst [.tup []]), .un, .un, .un, .un, .un] = .rt (.lst ((subs l).map dset)) := by
  simp only [FS, List.mem_cons, List.not_mem_nil, or_false] at h
  rcases h with rfl | rfl | rfl | rfl | rfl | rfl | rfl
  · kernel_rfl
  · kernel_rfl
  · kernel_rfl
  · kernel_rfl
  · kernel_rfl
  · kernel_rfl
  · kernel_rfl
theorem subs_cmp : (FS.all fun l => cmp 8 (.lst ((subs l).map dset))) = true := by decide +kernel
theorem subs_len : (FS.all fun l => decide ((subs l).length ≤ 64)) = true := by decide +kernel
/-- each set: its names, in the log's order -/
theorem subs_in : (FS.all fun l => (subs l).all fun s => decide (s = l.filter fun x => decide (x ∈ s)) && (s.all fun x => decide (x ∈ l))) = true := by decide +kernel
end G31

set_option maxHeartbeats 2000000
namespace G31
open PySem PySem.Spec PyProof.Rows L2 LD LG
theorem kn_strs : ∀ xs : List Str, knDs (xs.map DV.str) = true
  | [] => rfl
  | x :: xs => by show (true && knDs (xs.map DV.str)) = true; rw [kn_strs xs]; rfl
theorem kn_ints : ∀ xs : List Int, knDs (xs.map DV.int) = true
  | [] => rfl
  | x :: xs => by show (true && knDs (xs.map DV.int)) = true; rw [kn_ints xs]; rfl
theorem kn_dc {f : Str → DV} (h : ∀ n, knD (f n) = true) : ∀ xs : List Str, knKs (dcN xs f) = true
  | [] => rfl
  | x :: xs => by show (knD (f x) && knKs (dcN xs f)) = true; rw [h, kn_dc h xs]; rfl
theorem kn_obj (D : Lg) : knDs [D.obj] = true := by
  show (knFs D.flds && true) = true
  have e1 : knKs (dcN D.ens D.eobj) = true := kn_dc (fun n => rfl) _
  have e2 : knKs (dcN D.fns D.fobj) = true := kn_dc (fun n => by
    show (knDs [.str (D.fct n).one, .str (D.fct n).other] && (knDs ((D.fct n).nums.map DV.int) && true)) = true
    rw [kn_ints]; rfl) _
  show ((knDs (D.ms.map DV.str) && (knKs (dcN D.ens D.eobj) && (knKs (dcN D.fns D.fobj) && true))) && true) = true
  rw [kn_strs, e1, e2]; rfl
theorem fld_known (D : Lg) : fldO ["Log"] "known" D.obj = .ok (.dic (dcN D.fns D.fobj)) := rfl
theorem fld_places (D : Lg) : fldO ["Log"] "places" D.obj = .ok (.dic (dcN D.ens D.eobj)) := rfl
theorem fld_hosts (D : Lg) : fldO ["Log"] "hosts" D.obj = .ok (.tup (D.ms.map DV.str)) := rfl
theorem fld_host (D : Lg) (n : Str) : fldO ["Event"] "host" (D.eobj n) = .ok (.str (D.hst n)) := rfl
theorem fld_clock (D : Lg) (n : Str) : fldO ["Event"] "clock" (D.eobj n) = .ok (.int (D.clk n)) := rfl
theorem cls_in (f : Fc) : (["After", "Within", "Close"] : List Str).contains f.cls = true := by
  unfold Fc.cls
  split
  · decide
  · split <;> decide
theorem fld_pair (f : Fc) : fldO ["After", "Within", "Close"] "pair" f.obj = .ok (.tup [.str f.one, .str f.other]) := by
  show (if (["After", "Within", "Close"] : List Str).contains f.cls = true then _ else _) = _
  rw [if_pos (cls_in f)]; rfl
theorem fld_bounds (f : Fc) : fldO ["After", "Within", "Close"] "bounds" f.obj = .ok (.tup (f.nums.map DV.int)) := by
  show (if (["After", "Within", "Close"] : List Str).contains f.cls = true then _ else _) = _
  rw [if_pos (cls_in f)]; rfl
section
variable {D : Lg} (o : LOk D)
include o
theorem subsets_ok : m_Log_subsets [D.obj] = .ok ((subs D.fns).map dset) := by
  unfold m_Log_subsets gmir
  rw [kn_obj]
  have e : F1_Log_subsets [.pu D.obj, .un, .un, .un] = .nx [.pu D.obj, .pu (.lst (D.fns.map DV.str)), .pu (.lst [.tup []]), .un] := by
    unfold F1_Log_subsets
    simp only [e_sSeq, e_sIf, e_sSet, e_sPar, e_sAsg, e_sRaise, e_sFor, e_sFz, e_sDrop, e_sSetLc, e_xTest, e_xOp, e_xUn, e_xCB, e_xCall, e_xCons, e_xNil, e_xIf, e_xAnd, e_xOr, e_xNot, e_xAndV, e_xOrV, e_xNotV, e_xChain, e_xIsi, e_xSl, e_xPart, e_xNo, e_xSrc, e_xIt, e_xYes, e_lc, e_lcs, e_wn, e_wc, e_asI, e_v0, e_v1, e_v2, e_v3, e_v4, e_v5, e_v6, e_v7, e_v8, e_v9, e_vs, e_xC, R.bind_ok, R.bind_exc, e_asB, e_xS_ok, e_xS_exc, e_sNx, e_nx, e_rt, e_ex, e_sRet, e_xTup, e_xLst, small_ok, List.length_cons, List.length_nil, List.length_map, Nat.reduceAdd, Nat.reduceLeDiff, Nat.zero_le, if_true, if_false, Bool.false_eq_true, outR_nx, outR_rt, outR_ex, List.set_cons_succ, List.set_cons_zero, e_gT, e_gsCons, e_gsNil, e_gN, R.ofO, e_xFld, e_xProps, e_xCon, e_xDic, e_xDict, dictOf_d, Bool.not_true, Bool.not_false, o_int, o_neg, o_sub, o_add, o_gt, o_lt, o_le, o_ge, o_eqi, o_nei, o_eqb, o_neb, ixU_l, ixU_t, ixU_r, lenU_d, lenU_l, lenU_t, lenU_r, listU_N, anyU_N, anyU_l, anyU_t, dicI_N, in_dcN, in_lstN, in_tupN, dcN_len, o_tupl, o_listt, o_lastt, fld_known]
  show (match F1_Log_subsets [.pu D.obj, .un, .un, .un] with
    | .nx δ1 => layD F2_Log_subsets F3_Log_subsets 3 2 100 δ1
    | _ => .bad) = _
  rw [e]
  exact lay_all o.fns
theorem law_sets_ok : m__law_sets [D.rows] = .ok (.lst ((subs D.fns).map dset)) := by
  show outR (F__law_sets [.pu D.rows, .un, .un, .un, .un, .un, .un, .un, .un]) = _
  have hf := fnsLen o
  have l2 : lcD (gN 4) xYes (xOp oIxU (xVar 4) (xC (.int 0))) [.pu D.rows, .un, .un, .un, .un, .un, .un, .un, .un] (D.fns.map D.frow) = .ok (D.fns.map DV.str) :=
    lcD_N fun n hn => ⟨[.pu D.rows, .un, .un, .un, .pu (D.frow n), .un, .un, .un, .un], rfl, rfl⟩
  have e1 : oIxU D.rows (.int 2) = .ok (.lst (D.fns.map D.frow)) := rfl
  unfold F__law_sets
  rw [e_sSeq]
  have e : sPar3 1 2 3 (xLc [4] (xSrc asAnyU (xOp oIxU (xVar 0) (xC (.int 2)))) (gN 4) (xYes) (xOp oIxU (xVar 4) (xC (.int 0)))) (xLst (xNil)) (xLst (xCons (xTup (xNil)) (xNil))) [.pu D.rows, .un, .un, .un, .un, .un, .un, .un, .un] = .nx [.pu D.rows, .pu (.lst (D.fns.map DV.str)), .pu (.lst []), .pu (.lst [.tup []]), .un, .un, .un, .un, .un] := by
    unfold sPar3
    simp only [e_sSeq, e_sIf, e_sSet, e_sPar, e_sAsg, e_sRaise, e_sFor, e_sFz, e_sDrop, e_sSetLc, e_xTest, e_xOp, e_xUn, e_xCB, e_xCall, e_xCons, e_xNil, e_xIf, e_xAnd, e_xOr, e_xNot, e_xAndV, e_xOrV, e_xNotV, e_xChain, e_xIsi, e_xSl, e_xPart, e_xNo, e_xSrc, e_xIt, e_xYes, e_lc, e_lcs, e_wn, e_wc, e_asI, e_v0, e_v1, e_v2, e_v3, e_v4, e_v5, e_v6, e_v7, e_v8, e_v9, e_vs, e_xC, R.bind_ok, R.bind_exc, e_asB, e_xS_ok, e_xS_exc, e_sNx, e_nx, e_rt, e_ex, e_sRet, e_xTup, e_xLst, small_ok, List.length_cons, List.length_nil, List.length_map, Nat.reduceAdd, Nat.reduceLeDiff, Nat.zero_le, if_true, if_false, Bool.false_eq_true, outR_nx, outR_rt, outR_ex, List.set_cons_succ, List.set_cons_zero, e_gT, e_gsCons, e_gsNil, e_gN, R.ofO, e_xFld, e_xProps, e_xCon, e_xDic, e_xDict, dictOf_d, Bool.not_true, Bool.not_false, o_int, o_neg, o_sub, o_add, o_gt, o_lt, o_le, o_ge, o_eqi, o_nei, o_eqb, o_neb, ixU_l, ixU_t, ixU_r, lenU_d, lenU_l, lenU_t, lenU_r, listU_N, anyU_N, anyU_l, anyU_t, dicI_N, in_dcN, in_lstN, in_tupN, dcN_len, o_tupl, o_listt, o_lastt, e1, l2, small_ok (show D.fns.length ≤ 16777216 by omega)]
  rw [e, e_nx, while_all o.fns]
  rfl
theorem contains_ok {n : Str} : m_Log_contains [D.obj, .str n] = .ok (.bl (decide (n ∈ D.fns))) := by
  show outR (F_Log_contains [.pu D.obj, .pu (.str n)]) = _
  unfold F_Log_contains
  simp only [e_sSeq, e_sIf, e_sSet, e_sPar, e_sAsg, e_sRaise, e_sFor, e_sFz, e_sDrop, e_sSetLc, e_xTest, e_xOp, e_xUn, e_xCB, e_xCall, e_xCons, e_xNil, e_xIf, e_xAnd, e_xOr, e_xNot, e_xAndV, e_xOrV, e_xNotV, e_xChain, e_xIsi, e_xSl, e_xPart, e_xNo, e_xSrc, e_xIt, e_xYes, e_lc, e_lcs, e_wn, e_wc, e_asI, e_v0, e_v1, e_v2, e_v3, e_v4, e_v5, e_v6, e_v7, e_v8, e_v9, e_vs, e_xC, R.bind_ok, R.bind_exc, e_asB, e_xS_ok, e_xS_exc, e_sNx, e_nx, e_rt, e_ex, e_sRet, e_xTup, e_xLst, small_ok, List.length_cons, List.length_nil, List.length_map, Nat.reduceAdd, Nat.reduceLeDiff, Nat.zero_le, if_true, if_false, Bool.false_eq_true, outR_nx, outR_rt, outR_ex, List.set_cons_succ, List.set_cons_zero, e_gT, e_gsCons, e_gsNil, e_gN, R.ofO, e_xFld, e_xProps, e_xCon, e_xDic, e_xDict, dictOf_d, Bool.not_true, Bool.not_false, o_int, o_neg, o_sub, o_add, o_gt, o_lt, o_le, o_ge, o_eqi, o_nei, o_eqb, o_neb, ixU_l, ixU_t, ixU_r, lenU_d, lenU_l, lenU_t, lenU_r, listU_N, anyU_N, anyU_l, anyU_t, dicI_N, in_dcN, in_lstN, in_tupN, dcN_len, o_tupl, o_listt, o_lastt, fld_known]
theorem len_ok : m_Log_len [D.obj] = .ok (.int D.ens.length) := by
  show outR (F_Log_len [.pu D.obj]) = _
  unfold F_Log_len
  simp only [e_sSeq, e_sIf, e_sSet, e_sPar, e_sAsg, e_sRaise, e_sFor, e_sFz, e_sDrop, e_sSetLc, e_xTest, e_xOp, e_xUn, e_xCB, e_xCall, e_xCons, e_xNil, e_xIf, e_xAnd, e_xOr, e_xNot, e_xAndV, e_xOrV, e_xNotV, e_xChain, e_xIsi, e_xSl, e_xPart, e_xNo, e_xSrc, e_xIt, e_xYes, e_lc, e_lcs, e_wn, e_wc, e_asI, e_v0, e_v1, e_v2, e_v3, e_v4, e_v5, e_v6, e_v7, e_v8, e_v9, e_vs, e_xC, R.bind_ok, R.bind_exc, e_asB, e_xS_ok, e_xS_exc, e_sNx, e_nx, e_rt, e_ex, e_sRet, e_xTup, e_xLst, small_ok, List.length_cons, List.length_nil, List.length_map, Nat.reduceAdd, Nat.reduceLeDiff, Nat.zero_le, if_true, if_false, Bool.false_eq_true, outR_nx, outR_rt, outR_ex, List.set_cons_succ, List.set_cons_zero, e_gT, e_gsCons, e_gsNil, e_gN, R.ofO, e_xFld, e_xProps, e_xCon, e_xDic, e_xDict, dictOf_d, Bool.not_true, Bool.not_false, o_int, o_neg, o_sub, o_add, o_gt, o_lt, o_le, o_ge, o_eqi, o_nei, o_eqb, o_neb, ixU_l, ixU_t, ixU_r, lenU_d, lenU_l, lenU_t, lenU_r, listU_N, anyU_N, anyU_l, anyU_t, dicI_N, in_dcN, in_lstN, in_tupN, dcN_len, o_tupl, o_listt, o_lastt, fld_places]
theorem machines_ok : prpO ["Log"] m_Log_machines D.obj = .ok (.tup (D.ms.map DV.str)) := rfl
theorem events_ok : prpO ["Log"] m_Log_events D.obj = .ok (.lst (D.ens.map DV.str)) := by
  have : m_Log_events [D.obj] = .ok (.lst (D.ens.map DV.str)) := by
    show outR (F_Log_events [.pu D.obj]) = _
    unfold F_Log_events
    simp only [e_sSeq, e_sIf, e_sSet, e_sPar, e_sAsg, e_sRaise, e_sFor, e_sFz, e_sDrop, e_sSetLc, e_xTest, e_xOp, e_xUn, e_xCB, e_xCall, e_xCons, e_xNil, e_xIf, e_xAnd, e_xOr, e_xNot, e_xAndV, e_xOrV, e_xNotV, e_xChain, e_xIsi, e_xSl, e_xPart, e_xNo, e_xSrc, e_xIt, e_xYes, e_lc, e_lcs, e_wn, e_wc, e_asI, e_v0, e_v1, e_v2, e_v3, e_v4, e_v5, e_v6, e_v7, e_v8, e_v9, e_vs, e_xC, R.bind_ok, R.bind_exc, e_asB, e_xS_ok, e_xS_exc, e_sNx, e_nx, e_rt, e_ex, e_sRet, e_xTup, e_xLst, small_ok, List.length_cons, List.length_nil, List.length_map, Nat.reduceAdd, Nat.reduceLeDiff, Nat.zero_le, if_true, if_false, Bool.false_eq_true, outR_nx, outR_rt, outR_ex, List.set_cons_succ, List.set_cons_zero, e_gT, e_gsCons, e_gsNil, e_gN, R.ofO, e_xFld, e_xProps, e_xCon, e_xDic, e_xDict, dictOf_d, Bool.not_true, Bool.not_false, o_int, o_neg, o_sub, o_add, o_gt, o_lt, o_le, o_ge, o_eqi, o_nei, o_eqb, o_neb, ixU_l, ixU_t, ixU_r, lenU_d, lenU_l, lenU_t, lenU_r, listU_N, anyU_N, anyU_l, anyU_t, dicI_N, in_dcN, in_lstN, in_tupN, dcN_len, o_tupl, o_listt, o_lastt, fld_places]
  show noX (m_Log_events [D.obj]) = _
  rw [this]; rfl
theorem facts_ok : prpO ["Log"] m_Log_facts D.obj = .ok (.lst (D.fns.map DV.str)) := by
  have : m_Log_facts [D.obj] = .ok (.lst (D.fns.map DV.str)) := by
    show outR (F_Log_facts [.pu D.obj]) = _
    unfold F_Log_facts
    simp only [e_sSeq, e_sIf, e_sSet, e_sPar, e_sAsg, e_sRaise, e_sFor, e_sFz, e_sDrop, e_sSetLc, e_xTest, e_xOp, e_xUn, e_xCB, e_xCall, e_xCons, e_xNil, e_xIf, e_xAnd, e_xOr, e_xNot, e_xAndV, e_xOrV, e_xNotV, e_xChain, e_xIsi, e_xSl, e_xPart, e_xNo, e_xSrc, e_xIt, e_xYes, e_lc, e_lcs, e_wn, e_wc, e_asI, e_v0, e_v1, e_v2, e_v3, e_v4, e_v5, e_v6, e_v7, e_v8, e_v9, e_vs, e_xC, R.bind_ok, R.bind_exc, e_asB, e_xS_ok, e_xS_exc, e_sNx, e_nx, e_rt, e_ex, e_sRet, e_xTup, e_xLst, small_ok, List.length_cons, List.length_nil, List.length_map, Nat.reduceAdd, Nat.reduceLeDiff, Nat.zero_le, if_true, if_false, Bool.false_eq_true, outR_nx, outR_rt, outR_ex, List.set_cons_succ, List.set_cons_zero, e_gT, e_gsCons, e_gsNil, e_gN, R.ofO, e_xFld, e_xProps, e_xCon, e_xDic, e_xDict, dictOf_d, Bool.not_true, Bool.not_false, o_int, o_neg, o_sub, o_add, o_gt, o_lt, o_le, o_ge, o_eqi, o_nei, o_eqb, o_neb, ixU_l, ixU_t, ixU_r, lenU_d, lenU_l, lenU_t, lenU_r, listU_N, anyU_N, anyU_l, anyU_t, dicI_N, in_dcN, in_lstN, in_tupN, dcN_len, o_tupl, o_listt, o_lastt, fld_known]
  show noX (m_Log_facts [D.obj]) = _
  rw [this]; rfl
theorem getitem_ok {n : Str} (h : n ∈ D.ens) : m_Log_getitem [D.obj, .str n] = .ok (D.eobj n) := by
  show outR (F_Log_getitem [.pu D.obj, .pu (.str n)]) = _
  unfold F_Log_getitem
  simp only [e_sSeq, e_sIf, e_sSet, e_sPar, e_sAsg, e_sRaise, e_sFor, e_sFz, e_sDrop, e_sSetLc, e_xTest, e_xOp, e_xUn, e_xCB, e_xCall, e_xCons, e_xNil, e_xIf, e_xAnd, e_xOr, e_xNot, e_xAndV, e_xOrV, e_xNotV, e_xChain, e_xIsi, e_xSl, e_xPart, e_xNo, e_xSrc, e_xIt, e_xYes, e_lc, e_lcs, e_wn, e_wc, e_asI, e_v0, e_v1, e_v2, e_v3, e_v4, e_v5, e_v6, e_v7, e_v8, e_v9, e_vs, e_xC, R.bind_ok, R.bind_exc, e_asB, e_xS_ok, e_xS_exc, e_sNx, e_nx, e_rt, e_ex, e_sRet, e_xTup, e_xLst, small_ok, List.length_cons, List.length_nil, List.length_map, Nat.reduceAdd, Nat.reduceLeDiff, Nat.zero_le, if_true, if_false, Bool.false_eq_true, outR_nx, outR_rt, outR_ex, List.set_cons_succ, List.set_cons_zero, e_gT, e_gsCons, e_gsNil, e_gN, R.ofO, e_xFld, e_xProps, e_xCon, e_xDic, e_xDict, dictOf_d, Bool.not_true, Bool.not_false, o_int, o_neg, o_sub, o_add, o_gt, o_lt, o_le, o_ge, o_eqi, o_nei, o_eqb, o_neb, ixU_l, ixU_t, ixU_r, lenU_d, lenU_l, lenU_t, lenU_r, listU_N, anyU_N, anyU_l, anyU_t, dicI_N, in_dcN, in_lstN, in_tupN, dcN_len, o_tupl, o_listt, o_lastt, T0_str, fld_places, decide_eq_true h, ix_dcN h]
theorem fact_m_ok {n : Str} (h : n ∈ D.fns) : m_Log_fact [D.obj, .str n] = .ok (D.fobj n) := by
  have c : m_check_fact [D.obj, .str n] = .ok .non := by
    show outR (F_check_fact [.pu D.obj, .pu (.str n)]) = _
    unfold F_check_fact
    simp only [e_sSeq, e_sIf, e_sSet, e_sPar, e_sAsg, e_sRaise, e_sFor, e_sFz, e_sDrop, e_sSetLc, e_xTest, e_xOp, e_xUn, e_xCB, e_xCall, e_xCons, e_xNil, e_xIf, e_xAnd, e_xOr, e_xNot, e_xAndV, e_xOrV, e_xNotV, e_xChain, e_xIsi, e_xSl, e_xPart, e_xNo, e_xSrc, e_xIt, e_xYes, e_lc, e_lcs, e_wn, e_wc, e_asI, e_v0, e_v1, e_v2, e_v3, e_v4, e_v5, e_v6, e_v7, e_v8, e_v9, e_vs, e_xC, R.bind_ok, R.bind_exc, e_asB, e_xS_ok, e_xS_exc, e_sNx, e_nx, e_rt, e_ex, e_sRet, e_xTup, e_xLst, small_ok, List.length_cons, List.length_nil, List.length_map, Nat.reduceAdd, Nat.reduceLeDiff, Nat.zero_le, if_true, if_false, Bool.false_eq_true, outR_nx, outR_rt, outR_ex, List.set_cons_succ, List.set_cons_zero, e_gT, e_gsCons, e_gsNil, e_gN, R.ofO, e_xFld, e_xProps, e_xCon, e_xDic, e_xDict, dictOf_d, Bool.not_true, Bool.not_false, o_int, o_neg, o_sub, o_add, o_gt, o_lt, o_le, o_ge, o_eqi, o_nei, o_eqb, o_neb, ixU_l, ixU_t, ixU_r, lenU_d, lenU_l, lenU_t, lenU_r, listU_N, anyU_N, anyU_l, anyU_t, dicI_N, in_dcN, in_lstN, in_tupN, dcN_len, o_tupl, o_listt, o_lastt, T0_str, fld_known, decide_eq_true h]
  show outR (F_Log_fact [.pu D.obj, .pu (.str n)]) = _
  unfold F_Log_fact
  simp only [e_sSeq, e_sIf, e_sSet, e_sPar, e_sAsg, e_sRaise, e_sFor, e_sFz, e_sDrop, e_sSetLc, e_xTest, e_xOp, e_xUn, e_xCB, e_xCall, e_xCons, e_xNil, e_xIf, e_xAnd, e_xOr, e_xNot, e_xAndV, e_xOrV, e_xNotV, e_xChain, e_xIsi, e_xSl, e_xPart, e_xNo, e_xSrc, e_xIt, e_xYes, e_lc, e_lcs, e_wn, e_wc, e_asI, e_v0, e_v1, e_v2, e_v3, e_v4, e_v5, e_v6, e_v7, e_v8, e_v9, e_vs, e_xC, R.bind_ok, R.bind_exc, e_asB, e_xS_ok, e_xS_exc, e_sNx, e_nx, e_rt, e_ex, e_sRet, e_xTup, e_xLst, small_ok, List.length_cons, List.length_nil, List.length_map, Nat.reduceAdd, Nat.reduceLeDiff, Nat.zero_le, if_true, if_false, Bool.false_eq_true, outR_nx, outR_rt, outR_ex, List.set_cons_succ, List.set_cons_zero, e_gT, e_gsCons, e_gsNil, e_gN, R.ofO, e_xFld, e_xProps, e_xCon, e_xDic, e_xDict, dictOf_d, Bool.not_true, Bool.not_false, o_int, o_neg, o_sub, o_add, o_gt, o_lt, o_le, o_ge, o_eqi, o_nei, o_eqb, o_neb, ixU_l, ixU_t, ixU_r, lenU_d, lenU_l, lenU_t, lenU_r, listU_N, anyU_N, anyU_l, anyU_t, dicI_N, in_dcN, in_lstN, in_tupN, dcN_len, o_tupl, o_listt, o_lastt, c, fld_known, ix_dcN h]
theorem ev_mach {n : Str} : prpO ["Event"] m_Event_machine (D.eobj n) = .ok (.str (D.hst n)) := rfl
theorem ev_time {n : Str} : prpO ["Event"] m_Event_time (D.eobj n) = .ok (.int (D.clk n)) := rfl
end
theorem fc_names (f : Fc) : prpO ["After", "Within", "Close"] m_Fact_names f.obj = .ok (.tup [.str f.one, .str f.other]) := by
  have : m_Fact_names [f.obj] = .ok (.tup [.str f.one, .str f.other]) := by
    show outR (F_Fact_names [.pu f.obj]) = _
    unfold F_Fact_names
    simp only [e_sSeq, e_sIf, e_sSet, e_sPar, e_sAsg, e_sRaise, e_sFor, e_sFz, e_sDrop, e_sSetLc, e_xTest, e_xOp, e_xUn, e_xCB, e_xCall, e_xCons, e_xNil, e_xIf, e_xAnd, e_xOr, e_xNot, e_xAndV, e_xOrV, e_xNotV, e_xChain, e_xIsi, e_xSl, e_xPart, e_xNo, e_xSrc, e_xIt, e_xYes, e_lc, e_lcs, e_wn, e_wc, e_asI, e_v0, e_v1, e_v2, e_v3, e_v4, e_v5, e_v6, e_v7, e_v8, e_v9, e_vs, e_xC, R.bind_ok, R.bind_exc, e_asB, e_xS_ok, e_xS_exc, e_sNx, e_nx, e_rt, e_ex, e_sRet, e_xTup, e_xLst, small_ok, List.length_cons, List.length_nil, List.length_map, Nat.reduceAdd, Nat.reduceLeDiff, Nat.zero_le, if_true, if_false, Bool.false_eq_true, outR_nx, outR_rt, outR_ex, List.set_cons_succ, List.set_cons_zero, e_gT, e_gsCons, e_gsNil, e_gN, R.ofO, e_xFld, e_xProps, e_xCon, e_xDic, e_xDict, dictOf_d, Bool.not_true, Bool.not_false, fld_pair]
  show (if (["After", "Within", "Close"] : List Str).contains f.cls = true then noX (m_Fact_names [f.obj]) else _) = _
  rw [if_pos (cls_in f), this]; rfl
theorem fc_nums (f : Fc) : prpO ["After", "Within", "Close"] m_Fact_numbers f.obj = .ok (.tup (f.nums.map DV.int)) := by
  have : m_Fact_numbers [f.obj] = .ok (.tup (f.nums.map DV.int)) := by
    show outR (F_Fact_numbers [.pu f.obj]) = _
    unfold F_Fact_numbers
    simp only [e_sSeq, e_sIf, e_sSet, e_sPar, e_sAsg, e_sRaise, e_sFor, e_sFz, e_sDrop, e_sSetLc, e_xTest, e_xOp, e_xUn, e_xCB, e_xCall, e_xCons, e_xNil, e_xIf, e_xAnd, e_xOr, e_xNot, e_xAndV, e_xOrV, e_xNotV, e_xChain, e_xIsi, e_xSl, e_xPart, e_xNo, e_xSrc, e_xIt, e_xYes, e_lc, e_lcs, e_wn, e_wc, e_asI, e_v0, e_v1, e_v2, e_v3, e_v4, e_v5, e_v6, e_v7, e_v8, e_v9, e_vs, e_xC, R.bind_ok, R.bind_exc, e_asB, e_xS_ok, e_xS_exc, e_sNx, e_nx, e_rt, e_ex, e_sRet, e_xTup, e_xLst, small_ok, List.length_cons, List.length_nil, List.length_map, Nat.reduceAdd, Nat.reduceLeDiff, Nat.zero_le, if_true, if_false, Bool.false_eq_true, outR_nx, outR_rt, outR_ex, List.set_cons_succ, List.set_cons_zero, e_gT, e_gsCons, e_gsNil, e_gN, R.ofO, e_xFld, e_xProps, e_xCon, e_xDic, e_xDict, dictOf_d, Bool.not_true, Bool.not_false, fld_bounds]
  show (if (["After", "Within", "Close"] : List Str).contains f.cls = true then noX (m_Fact_numbers [f.obj]) else _) = _
  rw [if_pos (cls_in f), this]; rfl
theorem fc_eq {D : Lg} (o : LOk D) {f : Fc} (h : FOk D f) : oNeO ["After", "Within", "Close"] m_Fact_eq f.obj f.obj = .ok (.bl false) := by
  obtain ⟨h1, h2⟩ := FOk.nms o h
  have e : m_Fact_eq [f.obj, f.obj] = .ok (.bl true) := by
    show outR (F_Fact_eq [.pu f.obj, .pu f.obj]) = _
    have t8 : oIsi T8 f.obj = .ok (.bl true) := by
      show oIsi T8 (.obj f.cls _) = _
      unfold Fc.cls
      split
      · rfl
      · split <;> rfl
    have tw : ∃ x : DV, conO [("After", .str "after"), ("Within", .str "within"), ("Close", .str "close")] "WORD" f.obj = .ok x ∧ cmp 8 x = true := by
      show ∃ x : DV, conO [("After", .str "after"), ("Within", .str "within"), ("Close", .str "close")] "WORD" (.obj f.cls _) = .ok x ∧ _
      unfold Fc.cls
      split
      · exact ⟨.str "after", rfl, by decide +kernel⟩
      · split
        · exact ⟨.str "close", rfl, by decide +kernel⟩
        · exact ⟨.str "within", rfl, by decide +kernel⟩
    obtain ⟨x, ex, cx⟩ := tw
    have p1 : oEq (.tup [.str f.one, .str f.other]) (.tup [.str f.one, .str f.other]) = .ok (.bl true) := eq_same (by
      show (([f.one, f.other] : List Str).map DV.str).all (cmp 7) = true
      exact cmp_strs fun x hx => by
        rcases List.mem_cons.mp hx with rfl | hx
        · exact canL h1
        · rw [List.mem_singleton.mp hx]; exact canL h2)
    have p2 : oEq (.tup (f.nums.map DV.int)) (.tup (f.nums.map DV.int)) = .ok (.bl true) := eq_same (by
      show (f.nums.map DV.int).all (cmp 7) = true
      exact cmp_ints)
    unfold F_Fact_eq
    simp only [e_sSeq, e_sIf, e_sSet, e_sPar, e_sAsg, e_sRaise, e_sFor, e_sFz, e_sDrop, e_sSetLc, e_xTest, e_xOp, e_xUn, e_xCB, e_xCall, e_xCons, e_xNil, e_xIf, e_xAnd, e_xOr, e_xNot, e_xAndV, e_xOrV, e_xNotV, e_xChain, e_xIsi, e_xSl, e_xPart, e_xNo, e_xSrc, e_xIt, e_xYes, e_lc, e_lcs, e_wn, e_wc, e_asI, e_v0, e_v1, e_v2, e_v3, e_v4, e_v5, e_v6, e_v7, e_v8, e_v9, e_vs, e_xC, R.bind_ok, R.bind_exc, e_asB, e_xS_ok, e_xS_exc, e_sNx, e_nx, e_rt, e_ex, e_sRet, e_xTup, e_xLst, small_ok, List.length_cons, List.length_nil, List.length_map, Nat.reduceAdd, Nat.reduceLeDiff, Nat.zero_le, if_true, if_false, Bool.false_eq_true, outR_nx, outR_rt, outR_ex, List.set_cons_succ, List.set_cons_zero, e_gT, e_gsCons, e_gsNil, e_gN, R.ofO, e_xFld, e_xProps, e_xCon, e_xDic, e_xDict, dictOf_d, Bool.not_true, Bool.not_false, t8, ex, ne_same cx, fld_pair, fld_bounds, p1, p2]
  exact oNeO_ev (by rw [cls_in]; rfl) e
end G31

set_option maxHeartbeats 2000000
namespace G31
open PySem PySem.Spec PyProof.Rows L2 LD LG
/-! ### offsets, times, fits -/
abbrev offD (D : Lg) (off : Str → Int) : DV := .dic (dcN D.ms fun m => .int (off m))
abbrev timD (D : Lg) (off : Str → Int) : DV := .dic (dcN D.ens fun n => .int (D.clk n + off (D.hst n)))
def Lg.one (D : Lg) : Str := D.ms.getD 0 ""
theorem one_in {D : Lg} (o : LOk D) : D.one ∈ D.ms := getD_mem _ _ (by have := msLen o; omega)
theorem ms_at0 {D : Lg} (o : LOk D) : atI (D.ms.map DV.str) 0 = some (.str D.one) := by
  rw [atI_map, atI_get D.ms "" (Int.le_refl 0) (by have := msLen o; omega)]; rfl
/-- is a fact true -/
def tr (D : Lg) (off : Str → Int) (f : Fc) : Bool :=
  if f.w = "close" then decide (-(f.nums.getD 0 0) ≤ off f.one - off f.other) && decide (off f.one - off f.other ≤ f.nums.getD 0 0)
  else decide (f.nums.getD 0 0 ≤ (D.clk f.one + off (D.hst f.one)) - (D.clk f.other + off (D.hst f.other))) && (decide (f.w = "after") || decide ((D.clk f.one + off (D.hst f.one)) - (D.clk f.other + off (D.hst f.other)) ≤ f.nums.getD 1 0))
/-- the rows of a fact: early, late, least -/
def rws (D : Lg) (f : Fc) : List (Str × Str × Int) :=
  if f.w = "close" then [(f.other, f.one, -(f.nums.getD 0 0)), (f.one, f.other, -(f.nums.getD 0 0))]
  else (D.hst f.other, D.hst f.one, f.nums.getD 0 0 - D.clk f.one + D.clk f.other) ::
    (if f.w = "within" then [(D.hst f.one, D.hst f.other, D.clk f.one - D.clk f.other - f.nums.getD 1 0)] else [])
def rwsN (D : Lg) (n : Str) : List (Str × Str × Str × Int) := (rws D (D.fct n)).map fun r => (n, r)
def enc (r : Str × Str × Str × Int) : DV := .tup [.str r.1, .str r.2.1, .str r.2.2.1, .int r.2.2.2]
theorem rws_tr {D : Lg} {off : Str → Int} {f : Fc} (h : FOk D f) : ((rws D f).all fun r => decide (r.2.2 ≤ off r.2.1 - off r.1)) = tr D off f := by
  have hc := h.c
  obtain ⟨w, one, other, nums⟩ := f
  dsimp only at hc
  rcases hc with ⟨rfl, _, _, k, k0, k1, rfl⟩ | ⟨rfl, _, _, k, k0, k1, rfl⟩ | ⟨rfl, _, _, k, l, k0, kl, k1, rfl⟩
  · unfold rws tr
    simp only [if_true, List.all_cons, List.all_nil, Bool.and_true, List.getD_cons_zero]
    congr 1
    exact decide_eq_decide.mpr (by omega)
  · unfold rws tr
    simp only [show ¬ (("after" : Str) = "close") by decide, show ¬ (("after" : Str) = "within") by decide, if_false, List.all_cons, List.all_nil, Bool.and_true, List.getD_cons_zero, decide_true, Bool.true_or]
    exact decide_eq_decide.mpr (by omega)
  · unfold rws tr
    simp only [show ¬ (("within" : Str) = "close") by decide, show ¬ (("within" : Str) = "after") by decide, if_false, if_true, List.all_cons, List.all_nil, Bool.and_true, List.getD_cons_zero, List.getD_cons_succ, decide_false, Bool.false_or]
    congr 1
    · exact decide_eq_decide.mpr (by omega)
    · exact decide_eq_decide.mpr (by omega)
theorem rws_len {D : Lg} {f : Fc} : (rws D f).length ≤ 2 := by
  unfold rws
  split
  · simp
  · split <;> simp
section
variable {D : Lg} (o : LOk D) {off : Str → Int}
include o
theorem are_off (h0 : off D.one = 0) : m_are_offsets [D.obj, offD D off] = .ok (.bl true) := by
  show outR (F_are_offsets [.pu D.obj, .pu (offD D off), .un]) = _
  have hm := msLen o
  have l1 : lcD (gN 2) xYes (xAndV (xOp (oInU false) (xVar 2) (xVar 1)) (xCall m_is_whole (xCons (xOp oIxU (xVar 1) (xVar 2)) (xNil)))) [.pu D.obj, .pu (offD D off), .un] (D.ms.map DV.str) = .ok (D.ms.map fun _ => .bl true) :=
    lcD_N fun n hn => ⟨_, rfl, by
      simp only [e_sSeq, e_sIf, e_sSet, e_sPar, e_sAsg, e_sRaise, e_sFor, e_sFz, e_sDrop, e_sSetLc, e_xTest, e_xOp, e_xUn, e_xCB, e_xCall, e_xCons, e_xNil, e_xIf, e_xAnd, e_xOr, e_xNot, e_xAndV, e_xOrV, e_xNotV, e_xChain, e_xIsi, e_xSl, e_xPart, e_xNo, e_xSrc, e_xIt, e_xYes, e_lc, e_lcs, e_wn, e_wc, e_asI, e_v0, e_v1, e_v2, e_v3, e_v4, e_v5, e_v6, e_v7, e_v8, e_v9, e_vs, e_xC, R.bind_ok, R.bind_exc, e_asB, e_xS_ok, e_xS_exc, e_sNx, e_nx, e_rt, e_ex, e_sRet, e_xTup, e_xLst, small_ok, List.length_cons, List.length_nil, List.length_map, Nat.reduceAdd, Nat.reduceLeDiff, Nat.zero_le, if_true, if_false, Bool.false_eq_true, outR_nx, outR_rt, outR_ex, List.set_cons_succ, List.set_cons_zero, e_gT, e_gsCons, e_gsNil, e_gN, R.ofO, e_xFld, e_xProps, e_xCon, e_xDic, e_xDict, dictOf_d, Bool.not_true, Bool.not_false, o_int, o_neg, o_sub, o_add, o_gt, o_lt, o_le, o_ge, o_eqi, o_nei, o_eqb, o_neb, ixU_l, ixU_t, ixU_r, lenU_d, lenU_l, lenU_t, lenU_r, listU_N, anyU_N, anyU_l, anyU_t, dicI_N, in_dcN, in_lstN, in_tupN, dcN_len, o_tupl, o_listt, o_lastt, decide_eq_true hn, ix_dcN hn, isW]⟩
  have e : D.ms.all (fun _ => true) = true := List.all_eq_true.mpr fun _ _ => rfl
  unfold F_are_offsets
  simp only [e_sSeq, e_sIf, e_sSet, e_sPar, e_sAsg, e_sRaise, e_sFor, e_sFz, e_sDrop, e_sSetLc, e_xTest, e_xOp, e_xUn, e_xCB, e_xCall, e_xCons, e_xNil, e_xIf, e_xAnd, e_xOr, e_xNot, e_xAndV, e_xOrV, e_xNotV, e_xChain, e_xIsi, e_xSl, e_xPart, e_xNo, e_xSrc, e_xIt, e_xYes, e_lc, e_lcs, e_wn, e_wc, e_asI, e_v0, e_v1, e_v2, e_v3, e_v4, e_v5, e_v6, e_v7, e_v8, e_v9, e_vs, e_xC, R.bind_ok, R.bind_exc, e_asB, e_xS_ok, e_xS_exc, e_sNx, e_nx, e_rt, e_ex, e_sRet, e_xTup, e_xLst, small_ok, List.length_cons, List.length_nil, List.length_map, Nat.reduceAdd, Nat.reduceLeDiff, Nat.zero_le, if_true, if_false, Bool.false_eq_true, outR_nx, outR_rt, outR_ex, List.set_cons_succ, List.set_cons_zero, e_gT, e_gsCons, e_gsNil, e_gN, R.ofO, e_xFld, e_xProps, e_xCon, e_xDic, e_xDict, dictOf_d, Bool.not_true, Bool.not_false, o_int, o_neg, o_sub, o_add, o_gt, o_lt, o_le, o_ge, o_eqi, o_nei, o_eqb, o_neb, ixU_l, ixU_t, ixU_r, lenU_d, lenU_l, lenU_t, lenU_r, listU_N, anyU_N, anyU_l, anyU_t, dicI_N, in_dcN, in_lstN, in_tupN, dcN_len, o_tupl, o_listt, o_lastt, T0_str, T1_tup, T2_Event, T3_After, T3_Within, T3_Close, T4_After, T4_Within, T4_Close, T5_dic, T6_int, T7_int, T8_After, T8_Within, T8_Close, T9_Log, T10_After, T10_Within, T10_Close, fld_hosts, beq_self_eq_true, l1, small_ok (show D.ms.length ≤ 16777216 by omega), all_bls, e, ms_at0 o, ix_dcN (one_in o), h0]
theorem check_off (h0 : off D.one = 0) : m_check_offsets [D.obj, offD D off] = .ok .non := by
  show outR (F_check_offsets [.pu D.obj, .pu (offD D off)]) = _
  unfold F_check_offsets
  simp only [e_sSeq, e_sIf, e_sSet, e_sPar, e_sAsg, e_sRaise, e_sFor, e_sFz, e_sDrop, e_sSetLc, e_xTest, e_xOp, e_xUn, e_xCB, e_xCall, e_xCons, e_xNil, e_xIf, e_xAnd, e_xOr, e_xNot, e_xAndV, e_xOrV, e_xNotV, e_xChain, e_xIsi, e_xSl, e_xPart, e_xNo, e_xSrc, e_xIt, e_xYes, e_lc, e_lcs, e_wn, e_wc, e_asI, e_v0, e_v1, e_v2, e_v3, e_v4, e_v5, e_v6, e_v7, e_v8, e_v9, e_vs, e_xC, R.bind_ok, R.bind_exc, e_asB, e_xS_ok, e_xS_exc, e_sNx, e_nx, e_rt, e_ex, e_sRet, e_xTup, e_xLst, small_ok, List.length_cons, List.length_nil, List.length_map, Nat.reduceAdd, Nat.reduceLeDiff, Nat.zero_le, if_true, if_false, Bool.false_eq_true, outR_nx, outR_rt, outR_ex, List.set_cons_succ, List.set_cons_zero, e_gT, e_gsCons, e_gsNil, e_gN, R.ofO, e_xFld, e_xProps, e_xCon, e_xDic, e_xDict, dictOf_d, Bool.not_true, Bool.not_false, are_off o h0]
theorem times_ok : m_times_of [D.obj, offD D off] = .ok (timD D off) := by
  show outR (F_times_of [.pu D.obj, .pu (offD D off), .un, .un]) = _
  have he := ensLen o
  have l1 : dcD (gT 2 (gsCons (gN 2) (gsCons (gN 3) gsNil))) xYes (xVar 2) (xOp oAdd (xFld ["Event"] "clock" (xVar 3)) (xOp oIxU (xVar 1) (xFld ["Event"] "host" (xVar 3)))) [.pu D.obj, .pu (offD D off), .un, .un] (D.ens.map fun n => .tup [.str n, D.eobj n]) = .ok (dcN D.ens fun n => .int (D.clk n + off (D.hst n))) :=
    dcD_N fun n hn => ⟨[.pu D.obj, .pu (offD D off), .pu (.str n), .pu (D.eobj n)], rfl, rfl, by
      simp only [e_sSeq, e_sIf, e_sSet, e_sPar, e_sAsg, e_sRaise, e_sFor, e_sFz, e_sDrop, e_sSetLc, e_xTest, e_xOp, e_xUn, e_xCB, e_xCall, e_xCons, e_xNil, e_xIf, e_xAnd, e_xOr, e_xNot, e_xAndV, e_xOrV, e_xNotV, e_xChain, e_xIsi, e_xSl, e_xPart, e_xNo, e_xSrc, e_xIt, e_xYes, e_lc, e_lcs, e_wn, e_wc, e_asI, e_v0, e_v1, e_v2, e_v3, e_v4, e_v5, e_v6, e_v7, e_v8, e_v9, e_vs, e_xC, R.bind_ok, R.bind_exc, e_asB, e_xS_ok, e_xS_exc, e_sNx, e_nx, e_rt, e_ex, e_sRet, e_xTup, e_xLst, small_ok, List.length_cons, List.length_nil, List.length_map, Nat.reduceAdd, Nat.reduceLeDiff, Nat.zero_le, if_true, if_false, Bool.false_eq_true, outR_nx, outR_rt, outR_ex, List.set_cons_succ, List.set_cons_zero, e_gT, e_gsCons, e_gsNil, e_gN, R.ofO, e_xFld, e_xProps, e_xCon, e_xDic, e_xDict, dictOf_d, Bool.not_true, Bool.not_false, o_int, o_neg, o_sub, o_add, o_gt, o_lt, o_le, o_ge, o_eqi, o_nei, o_eqb, o_neb, ixU_l, ixU_t, ixU_r, lenU_d, lenU_l, lenU_t, lenU_r, listU_N, anyU_N, anyU_l, anyU_t, dicI_N, in_dcN, in_lstN, in_tupN, dcN_len, o_tupl, o_listt, o_lastt, fld_clock, fld_host, ix_dcN (o.ev n hn).1]⟩
  have l2 : xDcs [2, 3] (xSrc asDicI (xFld ["Log"] "places" (xVar 0))) (gT 2 (gsCons (gN 2) (gsCons (gN 3) gsNil))) xYes (xVar 2) (xOp oAdd (xFld ["Event"] "clock" (xVar 3)) (xOp oIxU (xVar 1) (xFld ["Event"] "host" (xVar 3)))) [.pu D.obj, .pu (offD D off), .un, .un] = .ok (dcN D.ens fun n => .int (D.clk n + off (D.hst n))) := by
    unfold xDcs
    simp only [e_sSeq, e_sIf, e_sSet, e_sPar, e_sAsg, e_sRaise, e_sFor, e_sFz, e_sDrop, e_sSetLc, e_xTest, e_xOp, e_xUn, e_xCB, e_xCall, e_xCons, e_xNil, e_xIf, e_xAnd, e_xOr, e_xNot, e_xAndV, e_xOrV, e_xNotV, e_xChain, e_xIsi, e_xSl, e_xPart, e_xNo, e_xSrc, e_xIt, e_xYes, e_lc, e_lcs, e_wn, e_wc, e_asI, e_v0, e_v1, e_v2, e_v3, e_v4, e_v5, e_v6, e_v7, e_v8, e_v9, e_vs, e_xC, R.bind_ok, R.bind_exc, e_asB, e_xS_ok, e_xS_exc, e_sNx, e_nx, e_rt, e_ex, e_sRet, e_xTup, e_xLst, small_ok, List.length_cons, List.length_nil, List.length_map, Nat.reduceAdd, Nat.reduceLeDiff, Nat.zero_le, if_true, if_false, Bool.false_eq_true, outR_nx, outR_rt, outR_ex, List.set_cons_succ, List.set_cons_zero, e_gT, e_gsCons, e_gsNil, e_gN, R.ofO, e_xFld, e_xProps, e_xCon, e_xDic, e_xDict, dictOf_d, Bool.not_true, Bool.not_false, o_int, o_neg, o_sub, o_add, o_gt, o_lt, o_le, o_ge, o_eqi, o_nei, o_eqb, o_neb, ixU_l, ixU_t, ixU_r, lenU_d, lenU_l, lenU_t, lenU_r, listU_N, anyU_N, anyU_l, anyU_t, dicI_N, in_dcN, in_lstN, in_tupN, dcN_len, o_tupl, o_listt, o_lastt, fld_places, l1, small_ok (show D.ens.length ≤ 16777216 by omega), dcN_new (ensNd o)]
  unfold F_times_of
  simp only [e_sRet, e_xDic, l2, R.bind_ok, e_xS_ok, outR_rt]
theorem call_ok (h0 : off D.one = 0) : m_Log_call [D.obj, offD D off] = .ok (timD D off) := by
  show outR (F_Log_call [.pu D.obj, .pu (offD D off)]) = _
  unfold F_Log_call
  simp only [e_sSeq, e_sIf, e_sSet, e_sPar, e_sAsg, e_sRaise, e_sFor, e_sFz, e_sDrop, e_sSetLc, e_xTest, e_xOp, e_xUn, e_xCB, e_xCall, e_xCons, e_xNil, e_xIf, e_xAnd, e_xOr, e_xNot, e_xAndV, e_xOrV, e_xNotV, e_xChain, e_xIsi, e_xSl, e_xPart, e_xNo, e_xSrc, e_xIt, e_xYes, e_lc, e_lcs, e_wn, e_wc, e_asI, e_v0, e_v1, e_v2, e_v3, e_v4, e_v5, e_v6, e_v7, e_v8, e_v9, e_vs, e_xC, R.bind_ok, R.bind_exc, e_asB, e_xS_ok, e_xS_exc, e_sNx, e_nx, e_rt, e_ex, e_sRet, e_xTup, e_xLst, small_ok, List.length_cons, List.length_nil, List.length_map, Nat.reduceAdd, Nat.reduceLeDiff, Nat.zero_le, if_true, if_false, Bool.false_eq_true, outR_nx, outR_rt, outR_ex, List.set_cons_succ, List.set_cons_zero, e_gT, e_gsCons, e_gsNil, e_gN, R.ofO, e_xFld, e_xProps, e_xCon, e_xDic, e_xDict, dictOf_d, Bool.not_true, Bool.not_false, check_off o h0, times_ok o]
/-! ### sets -/
theorem sub_ok {s : List Str} (h : s ∈ subs D.fns) : (s = D.fns.filter fun x => decide (x ∈ s)) ∧ ∀ x ∈ s, x ∈ D.fns := by
  have := List.all_eq_true.mp (List.all_eq_true.mp subs_in _ o.fns) s h
  obtain ⟨a, b⟩ := Bool.and_eq_true_iff.mp this
  exact ⟨of_decide_eq_true a, fun x hx => of_decide_eq_true (List.all_eq_true.mp b x hx)⟩
theorem sub_len {s : List Str} (h : s ∈ subs D.fns) : s.length ≤ 6 := by
  have h1 := (sub_ok o h).1
  have h2 : s.length ≤ D.fns.length := by
    have := List.length_filter_le (fun x => decide (x ∈ s)) D.fns
    rw [← h1] at this
    exact this
  have := fnsLen o
  omega
theorem check_set_ok {s : List Str} (h : s ∈ subs D.fns) : m_check_set [D.obj, dset s] = .ok .non := by
  show outR (F_check_set [.pu D.obj, .pu (.tup (s.map DV.str)), .un]) = _
  have hs := sub_len o h
  have hf := fnsLen o
  have l1 : lcD (gN 2) xYes (xIsi T0 (xVar 2)) [.pu D.obj, .pu (.tup (s.map DV.str)), .un] (s.map DV.str) = .ok (s.map fun _ => .bl true) :=
    lcD_N fun n hn => ⟨_, rfl, by simp only [e_sSeq, e_sIf, e_sSet, e_sPar, e_sAsg, e_sRaise, e_sFor, e_sFz, e_sDrop, e_sSetLc, e_xTest, e_xOp, e_xUn, e_xCB, e_xCall, e_xCons, e_xNil, e_xIf, e_xAnd, e_xOr, e_xNot, e_xAndV, e_xOrV, e_xNotV, e_xChain, e_xIsi, e_xSl, e_xPart, e_xNo, e_xSrc, e_xIt, e_xYes, e_lc, e_lcs, e_wn, e_wc, e_asI, e_v0, e_v1, e_v2, e_v3, e_v4, e_v5, e_v6, e_v7, e_v8, e_v9, e_vs, e_xC, R.bind_ok, R.bind_exc, e_asB, e_xS_ok, e_xS_exc, e_sNx, e_nx, e_rt, e_ex, e_sRet, e_xTup, e_xLst, small_ok, List.length_cons, List.length_nil, List.length_map, Nat.reduceAdd, Nat.reduceLeDiff, Nat.zero_le, if_true, if_false, Bool.false_eq_true, outR_nx, outR_rt, outR_ex, List.set_cons_succ, List.set_cons_zero, e_gT, e_gsCons, e_gsNil, e_gN, R.ofO, e_xFld, e_xProps, e_xCon, e_xDic, e_xDict, dictOf_d, Bool.not_true, Bool.not_false, T0_str, T1_tup, T2_Event, T3_After, T3_Within, T3_Close, T4_After, T4_Within, T4_Close, T5_dic, T6_int, T7_int, T8_After, T8_Within, T8_Close, T9_Log, T10_After, T10_Within, T10_Close]⟩
  have l2 : lcD (gN 2) (xTest (xOp (oInU false) (xVar 2) (xVar 1))) (xVar 2) [.pu D.obj, .pu (.tup (s.map DV.str)), .un] (D.fns.map DV.str) = .ok ((D.fns.filter fun x => decide (x ∈ s)).map DV.str) :=
    lcD_F fun n hn => ⟨_, rfl, by simp only [e_sSeq, e_sIf, e_sSet, e_sPar, e_sAsg, e_sRaise, e_sFor, e_sFz, e_sDrop, e_sSetLc, e_xTest, e_xOp, e_xUn, e_xCB, e_xCall, e_xCons, e_xNil, e_xIf, e_xAnd, e_xOr, e_xNot, e_xAndV, e_xOrV, e_xNotV, e_xChain, e_xIsi, e_xSl, e_xPart, e_xNo, e_xSrc, e_xIt, e_xYes, e_lc, e_lcs, e_wn, e_wc, e_asI, e_v0, e_v1, e_v2, e_v3, e_v4, e_v5, e_v6, e_v7, e_v8, e_v9, e_vs, e_xC, R.bind_ok, R.bind_exc, e_asB, e_xS_ok, e_xS_exc, e_sNx, e_nx, e_rt, e_ex, e_sRet, e_xTup, e_xLst, small_ok, List.length_cons, List.length_nil, List.length_map, Nat.reduceAdd, Nat.reduceLeDiff, Nat.zero_le, if_true, if_false, Bool.false_eq_true, outR_nx, outR_rt, outR_ex, List.set_cons_succ, List.set_cons_zero, e_gT, e_gsCons, e_gsNil, e_gN, R.ofO, e_xFld, e_xProps, e_xCon, e_xDic, e_xDict, dictOf_d, Bool.not_true, Bool.not_false, o_int, o_neg, o_sub, o_add, o_gt, o_lt, o_le, o_ge, o_eqi, o_nei, o_eqb, o_neb, ixU_l, ixU_t, ixU_r, lenU_d, lenU_l, lenU_t, lenU_r, listU_N, anyU_N, anyU_l, anyU_t, dicI_N, in_dcN, in_lstN, in_tupN, dcN_len, o_tupl, o_listt, o_lastt], rfl⟩
  have e : s.all (fun _ => true) = true := List.all_eq_true.mpr fun _ _ => rfl
  have e2 : oNe (.lst (s.map DV.str)) (.lst (s.map DV.str)) = .ok (.bl false) := ne_same (cmp_strs (n := 7) fun x hx => canL (fN o ((sub_ok o h).2 x hx)))
  rw [← (sub_ok o h).1] at l2
  unfold F_check_set
  simp only [e_sSeq, e_sIf, e_sSet, e_sPar, e_sAsg, e_sRaise, e_sFor, e_sFz, e_sDrop, e_sSetLc, e_xTest, e_xOp, e_xUn, e_xCB, e_xCall, e_xCons, e_xNil, e_xIf, e_xAnd, e_xOr, e_xNot, e_xAndV, e_xOrV, e_xNotV, e_xChain, e_xIsi, e_xSl, e_xPart, e_xNo, e_xSrc, e_xIt, e_xYes, e_lc, e_lcs, e_wn, e_wc, e_asI, e_v0, e_v1, e_v2, e_v3, e_v4, e_v5, e_v6, e_v7, e_v8, e_v9, e_vs, e_xC, R.bind_ok, R.bind_exc, e_asB, e_xS_ok, e_xS_exc, e_sNx, e_nx, e_rt, e_ex, e_sRet, e_xTup, e_xLst, small_ok, List.length_cons, List.length_nil, List.length_map, Nat.reduceAdd, Nat.reduceLeDiff, Nat.zero_le, if_true, if_false, Bool.false_eq_true, outR_nx, outR_rt, outR_ex, List.set_cons_succ, List.set_cons_zero, e_gT, e_gsCons, e_gsNil, e_gN, R.ofO, e_xFld, e_xProps, e_xCon, e_xDic, e_xDict, dictOf_d, Bool.not_true, Bool.not_false, o_int, o_neg, o_sub, o_add, o_gt, o_lt, o_le, o_ge, o_eqi, o_nei, o_eqb, o_neb, ixU_l, ixU_t, ixU_r, lenU_d, lenU_l, lenU_t, lenU_r, listU_N, anyU_N, anyU_l, anyU_t, dicI_N, in_dcN, in_lstN, in_tupN, dcN_len, o_tupl, o_listt, o_lastt, T0_str, T1_tup, T2_Event, T3_After, T3_Within, T3_Close, T4_After, T4_Within, T4_Close, T5_dic, T6_int, T7_int, T8_After, T8_Within, T8_Close, T9_Log, T10_After, T10_Within, T10_Close, fld_known, l1, l2, small_ok (show s.length ≤ 16777216 by omega), all_bls, e, e2]
theorem rows_turn {s : List Str} {n : Str} (h : n ∈ D.fns) {zs : List DV} (hz : zs.length ≤ 1000) {s3 s4 s5 s6 s7 s8 : Sl} : ∃ t4 t5 t6 t7 t8, B_rows_of_1 [.pu D.obj, .pu (dset s), .ol zs, .pu (.str n), s4, s5, s6, s7, s8] = .nx [.pu D.obj, .pu (dset s), .ol (zs ++ (rwsN D n).map enc), .pu (.str n), t4, t5, t6, t7, t8] := by
  have hF := o.fc n h
  have hc := hF.c
  have e0 : oIxU (.dic (dcN D.fns D.fobj)) (.str n) = .ok (D.fct n).obj := ix_dcN h
  have b1 : Nat.ble (zs.length + 2) 16777216 = true := Nat.ble_eq_true_of_le (by omega)
  have b2 : Nat.blt zs.length 16777216 = true := blt_ok (by omega)
  unfold rwsN rws
  generalize hf : D.fct n = f at *
  obtain ⟨w, one, other, nums⟩ := f
  dsimp only at hc
  unfold B_rows_of_1
  rcases hc with ⟨rfl, a, b, k, k0, k1, rfl⟩ | ⟨rfl, a, b, k, k0, k1, rfl⟩ | ⟨rfl, a, b, k, l, k0, kl, k1, rfl⟩
  · refine ⟨.pu (Fc.obj ⟨"close", one, other, [k]⟩), .pu (.str one), .pu (.str other), s7, s8, ?_⟩
    simp only [e_sSeq, e_sIf, e_sSet, e_sPar, e_sAsg, e_sRaise, e_sFor, e_sFz, e_sDrop, e_sSetLc, e_xTest, e_xOp, e_xUn, e_xCB, e_xCall, e_xCons, e_xNil, e_xIf, e_xAnd, e_xOr, e_xNot, e_xAndV, e_xOrV, e_xNotV, e_xChain, e_xIsi, e_xSl, e_xPart, e_xNo, e_xSrc, e_xIt, e_xYes, e_lc, e_lcs, e_wn, e_wc, e_asI, e_v0, e_v1, e_v2, e_v3, e_v4, e_v5, e_v6, e_v7, e_v8, e_v9, e_vs, e_xC, R.bind_ok, R.bind_exc, e_asB, e_xS_ok, e_xS_exc, e_sNx, e_nx, e_rt, e_ex, e_sRet, e_xTup, e_xLst, small_ok, List.length_cons, List.length_nil, List.length_map, Nat.reduceAdd, Nat.reduceLeDiff, Nat.zero_le, if_true, if_false, Bool.false_eq_true, outR_nx, outR_rt, outR_ex, List.set_cons_succ, List.set_cons_zero, e_gT, e_gsCons, e_gsNil, e_gN, R.ofO, e_xFld, e_xProps, e_xCon, e_xDic, e_xDict, dictOf_d, Bool.not_true, Bool.not_false, o_int, o_neg, o_sub, o_add, o_gt, o_lt, o_le, o_ge, o_eqi, o_nei, o_eqb, o_neb, ixU_l, ixU_t, ixU_r, lenU_d, lenU_l, lenU_t, lenU_r, listU_N, anyU_N, anyU_l, anyU_t, dicI_N, in_dcN, in_lstN, in_tupN, dcN_len, o_tupl, o_listt, o_lastt, fld_known, e0, fld_pair, fld_bounds, show Nat.beq 2 2 = true from rfl, show oIsi T3 (Fc.obj ⟨"close", one, other, [k]⟩) = .ok (.bl true) from rfl, List.map_cons, List.map_nil, show atI [DV.int k] 0 = some (.int k) from rfl, e_sExt2, b1]
    rfl
  · refine ⟨.pu (Fc.obj ⟨"after", one, other, [k]⟩), .pu (.str one), .pu (.str other), .pu (D.eobj other), .pu (D.eobj one), ?_⟩
    simp only [e_sSeq, e_sIf, e_sSet, e_sPar, e_sAsg, e_sRaise, e_sFor, e_sFz, e_sDrop, e_sSetLc, e_xTest, e_xOp, e_xUn, e_xCB, e_xCall, e_xCons, e_xNil, e_xIf, e_xAnd, e_xOr, e_xNot, e_xAndV, e_xOrV, e_xNotV, e_xChain, e_xIsi, e_xSl, e_xPart, e_xNo, e_xSrc, e_xIt, e_xYes, e_lc, e_lcs, e_wn, e_wc, e_asI, e_v0, e_v1, e_v2, e_v3, e_v4, e_v5, e_v6, e_v7, e_v8, e_v9, e_vs, e_xC, R.bind_ok, R.bind_exc, e_asB, e_xS_ok, e_xS_exc, e_sNx, e_nx, e_rt, e_ex, e_sRet, e_xTup, e_xLst, small_ok, List.length_cons, List.length_nil, List.length_map, Nat.reduceAdd, Nat.reduceLeDiff, Nat.zero_le, if_true, if_false, Bool.false_eq_true, outR_nx, outR_rt, outR_ex, List.set_cons_succ, List.set_cons_zero, e_gT, e_gsCons, e_gsNil, e_gN, R.ofO, e_xFld, e_xProps, e_xCon, e_xDic, e_xDict, dictOf_d, Bool.not_true, Bool.not_false, o_int, o_neg, o_sub, o_add, o_gt, o_lt, o_le, o_ge, o_eqi, o_nei, o_eqb, o_neb, ixU_l, ixU_t, ixU_r, lenU_d, lenU_l, lenU_t, lenU_r, listU_N, anyU_N, anyU_l, anyU_t, dicI_N, in_dcN, in_lstN, in_tupN, dcN_len, o_tupl, o_listt, o_lastt, fld_known, fld_places, e0, fld_pair, fld_bounds, show Nat.beq 2 2 = true from rfl, show oIsi T3 (Fc.obj ⟨"after", one, other, [k]⟩) = .ok (.bl false) from rfl, show oIsi T10 (Fc.obj ⟨"after", one, other, [k]⟩) = .ok (.bl false) from rfl, List.map_cons, List.map_nil, show atI [DV.int k] 0 = some (.int k) from rfl, ix_dcN a, ix_dcN b, fld_host, fld_clock, e_sApp2, b2]
    rfl
  · refine ⟨.pu (Fc.obj ⟨"within", one, other, [k, l]⟩), .pu (.str one), .pu (.str other), .pu (D.eobj other), .pu (D.eobj one), ?_⟩
    have b3 : ∀ d : DV, Nat.blt (zs ++ [d]).length 16777216 = true := fun d => blt_ok (by rw [List.length_append, List.length_singleton]; omega)
    simp only [e_sSeq, e_sIf, e_sSet, e_sPar, e_sAsg, e_sRaise, e_sFor, e_sFz, e_sDrop, e_sSetLc, e_xTest, e_xOp, e_xUn, e_xCB, e_xCall, e_xCons, e_xNil, e_xIf, e_xAnd, e_xOr, e_xNot, e_xAndV, e_xOrV, e_xNotV, e_xChain, e_xIsi, e_xSl, e_xPart, e_xNo, e_xSrc, e_xIt, e_xYes, e_lc, e_lcs, e_wn, e_wc, e_asI, e_v0, e_v1, e_v2, e_v3, e_v4, e_v5, e_v6, e_v7, e_v8, e_v9, e_vs, e_xC, R.bind_ok, R.bind_exc, e_asB, e_xS_ok, e_xS_exc, e_sNx, e_nx, e_rt, e_ex, e_sRet, e_xTup, e_xLst, small_ok, List.length_cons, List.length_nil, List.length_map, Nat.reduceAdd, Nat.reduceLeDiff, Nat.zero_le, if_true, if_false, Bool.false_eq_true, outR_nx, outR_rt, outR_ex, List.set_cons_succ, List.set_cons_zero, e_gT, e_gsCons, e_gsNil, e_gN, R.ofO, e_xFld, e_xProps, e_xCon, e_xDic, e_xDict, dictOf_d, Bool.not_true, Bool.not_false, o_int, o_neg, o_sub, o_add, o_gt, o_lt, o_le, o_ge, o_eqi, o_nei, o_eqb, o_neb, ixU_l, ixU_t, ixU_r, lenU_d, lenU_l, lenU_t, lenU_r, listU_N, anyU_N, anyU_l, anyU_t, dicI_N, in_dcN, in_lstN, in_tupN, dcN_len, o_tupl, o_listt, o_lastt, fld_known, fld_places, e0, fld_pair, fld_bounds, show Nat.beq 2 2 = true from rfl, show oIsi T3 (Fc.obj ⟨"within", one, other, [k, l]⟩) = .ok (.bl false) from rfl, show oIsi T10 (Fc.obj ⟨"within", one, other, [k, l]⟩) = .ok (.bl true) from rfl, List.map_cons, List.map_nil, show atI [DV.int k, DV.int l] 0 = some (.int k) from rfl, show atI [DV.int k, DV.int l] 1 = some (.int l) from rfl, ix_dcN a, ix_dcN b, fld_host, fld_clock, e_sApp2, b2, b3, List.append_assoc]
    rfl
theorem rows_ok {s : List Str} (h : s ∈ subs D.fns) : m_rows_of [D.obj, dset s] = .ok (.lst ((s.flatMap (rwsN D)).map enc)) := by
  show outR (F_rows_of [.pu D.obj, .pu (dset s), .un, .un, .un, .un, .un, .un, .un]) = _
  have hs := sub_len o h
  obtain ⟨δ1, f1, s3, s4, s5, s6, s7, s8, rfl⟩ := forD_G (g := gN 3) (F := B_rows_of_1) (m := 7) (xs := s) (ys := []) (e := DV.str)
    (fun zs δ => ∃ s3 s4 s5 s6 s7 s8, δ = [.pu D.obj, .pu (dset s), .ol ((zs.flatMap (rwsN D)).map enc), s3, s4, s5, s6, s7, s8]) (by rw [List.length_nil]; omega)
    (by
      rintro n hn zs _ hz ⟨s3, s4, s5, s6, s7, s8, rfl⟩
      have hl : ((zs.flatMap (rwsN D)).map enc).length ≤ 1000 := by
        rw [List.length_map]
        have : ∀ ys : List Str, (ys.flatMap (rwsN D)).length ≤ 2 * ys.length := fun ys => by
          induction ys with
          | nil => simp
          | cons y ys ih =>
            rw [List.flatMap_cons, List.length_append, List.length_cons]
            have : (rwsN D y).length ≤ 2 := by unfold rwsN; rw [List.length_map]; exact rws_len
            omega
        have := this zs
        omega
      obtain ⟨t4, t5, t6, t7, t8, e⟩ := rows_turn o (s := s) ((sub_ok o h).2 n hn) hl (s3 := .un) (s4 := s4) (s5 := s5) (s6 := s6) (s7 := s7) (s8 := s8)
      refine ⟨_, _, rfl, e, .pu (.str n), t4, t5, t6, t7, t8, ?_⟩
      rw [List.flatMap_append, List.map_append, List.flatMap_singleton]) _ ⟨.un, .un, .un, .un, .un, .un, rfl⟩
  rw [List.nil_append] at f1
  have f1 : forD (gN 3) B_rows_of_1 (s.map DV.str) [.pu D.obj, .pu (dset s), .ol [], .un, .un, .un, .un, .un, .un] = _ := f1
  unfold F_rows_of
  have e1 : sNewL 2 xNil [.pu D.obj, .pu (dset s), .un, .un, .un, .un, .un, .un, .un] = .nx [.pu D.obj, .pu (dset s), .ol [], .un, .un, .un, .un, .un, .un] := rfl
  have e2 : asAnyU (dset s) = .ok (s.map DV.str) := rfl
  simp only [e_sSeq, e_sIf, e_sSet, e_sPar, e_sAsg, e_sRaise, e_sFor, e_sFz, e_sDrop, e_sSetLc, e_xTest, e_xOp, e_xUn, e_xCB, e_xCall, e_xCons, e_xNil, e_xIf, e_xAnd, e_xOr, e_xNot, e_xAndV, e_xOrV, e_xNotV, e_xChain, e_xIsi, e_xSl, e_xPart, e_xNo, e_xSrc, e_xIt, e_xYes, e_lc, e_lcs, e_wn, e_wc, e_asI, e_v0, e_v1, e_v2, e_v3, e_v4, e_v5, e_v6, e_v7, e_v8, e_v9, e_vs, e_xC, R.bind_ok, R.bind_exc, e_asB, e_xS_ok, e_xS_exc, e_sNx, e_nx, e_rt, e_ex, e_sRet, e_xTup, e_xLst, small_ok, List.length_cons, List.length_nil, List.length_map, Nat.reduceAdd, Nat.reduceLeDiff, Nat.zero_le, if_true, if_false, Bool.false_eq_true, outR_nx, outR_rt, outR_ex, List.set_cons_succ, List.set_cons_zero, e_gT, e_gsCons, e_gsNil, e_gN, R.ofO, e_xFld, e_xProps, e_xCon, e_xDic, e_xDict, dictOf_d, Bool.not_true, Bool.not_false, e1, e2, f1, e_frz2]
theorem rw_hosts {f : Fc} (h : FOk D f) : ∀ r ∈ rws D f, r.1 ∈ D.ms ∧ r.2.1 ∈ D.ms := by
  have hc := h.c
  obtain ⟨w, one, other, nums⟩ := f
  dsimp only at hc
  rcases hc with ⟨rfl, a, b, k, k0, k1, rfl⟩ | ⟨rfl, a, b, k, k0, k1, rfl⟩ | ⟨rfl, a, b, k, l, k0, kl, k1, rfl⟩
  · intro r hr
    simp only [rws, if_true, List.mem_cons, List.not_mem_nil, or_false] at hr
    rcases hr with rfl | rfl
    · exact ⟨b, a⟩
    · exact ⟨a, b⟩
  · intro r hr
    simp only [rws, show ¬ (("after" : Str) = "close") by decide, show ¬ (("after" : Str) = "within") by decide, if_false, List.mem_cons, List.not_mem_nil, or_false] at hr
    subst hr
    exact ⟨(o.ev _ b).1, (o.ev _ a).1⟩
  · intro r hr
    simp only [rws, show ¬ (("within" : Str) = "close") by decide, if_false, if_true, List.mem_cons, List.not_mem_nil, or_false] at hr
    rcases hr with rfl | rfl
    · exact ⟨(o.ev _ b).1, (o.ev _ a).1⟩
    · exact ⟨(o.ev _ a).1, (o.ev _ b).1⟩
theorem fits_ok (h0 : off D.one = 0) {s : List Str} (h : s ∈ subs D.fns) : m_fits [D.obj, dset s, offD D off] = .ok (.bl (s.all fun n => tr D off (D.fct n))) := by
  have hs := sub_len o h
  have fit : m_are_fitting [D.obj, dset s, offD D off] = .ok (.bl (s.all fun n => tr D off (D.fct n))) := by
    show outR (F_are_fitting [.pu D.obj, .pu (dset s), .pu (offD D off), .un, .un, .un, .un]) = _
    have l1 : lcD (gT 4 (gsCons (gN 3) (gsCons (gN 4) (gsCons (gN 5) (gsCons (gN 6) gsNil))))) xYes (xOp oGe (xOp oSub (xOp oIxU (xVar 2) (xVar 5)) (xOp oIxU (xVar 2) (xVar 4))) (xVar 6)) [.pu D.obj, .pu (dset s), .pu (offD D off), .un, .un, .un, .un] ((s.flatMap (rwsN D)).map enc) = .ok ((s.flatMap (rwsN D)).map fun r => .bl (decide (r.2.2.2 ≤ off r.2.2.1 - off r.2.1))) :=
      lcD_N fun r hr => ⟨[.pu D.obj, .pu (dset s), .pu (offD D off), .pu (.str r.1), .pu (.str r.2.1), .pu (.str r.2.2.1), .pu (.int r.2.2.2)], rfl, by
        obtain ⟨n, hn, hr⟩ := List.mem_flatMap.mp hr
        obtain ⟨q, hq, rfl⟩ := List.mem_map.mp hr
        have := rw_hosts o (o.fc n ((sub_ok o h).2 n hn)) q hq
        simp only [e_sSeq, e_sIf, e_sSet, e_sPar, e_sAsg, e_sRaise, e_sFor, e_sFz, e_sDrop, e_sSetLc, e_xTest, e_xOp, e_xUn, e_xCB, e_xCall, e_xCons, e_xNil, e_xIf, e_xAnd, e_xOr, e_xNot, e_xAndV, e_xOrV, e_xNotV, e_xChain, e_xIsi, e_xSl, e_xPart, e_xNo, e_xSrc, e_xIt, e_xYes, e_lc, e_lcs, e_wn, e_wc, e_asI, e_v0, e_v1, e_v2, e_v3, e_v4, e_v5, e_v6, e_v7, e_v8, e_v9, e_vs, e_xC, R.bind_ok, R.bind_exc, e_asB, e_xS_ok, e_xS_exc, e_sNx, e_nx, e_rt, e_ex, e_sRet, e_xTup, e_xLst, small_ok, List.length_cons, List.length_nil, List.length_map, Nat.reduceAdd, Nat.reduceLeDiff, Nat.zero_le, if_true, if_false, Bool.false_eq_true, outR_nx, outR_rt, outR_ex, List.set_cons_succ, List.set_cons_zero, e_gT, e_gsCons, e_gsNil, e_gN, R.ofO, e_xFld, e_xProps, e_xCon, e_xDic, e_xDict, dictOf_d, Bool.not_true, Bool.not_false, o_int, o_neg, o_sub, o_add, o_gt, o_lt, o_le, o_ge, o_eqi, o_nei, o_eqb, o_neb, ixU_l, ixU_t, ixU_r, lenU_d, lenU_l, lenU_t, lenU_r, listU_N, anyU_N, anyU_l, anyU_t, dicI_N, in_dcN, in_lstN, in_tupN, dcN_len, o_tupl, o_listt, o_lastt, ix_dcN this.1, ix_dcN this.2]⟩
    have hl : (s.flatMap (rwsN D)).length ≤ 16777216 := by
      have : ∀ ys : List Str, (ys.flatMap (rwsN D)).length ≤ 2 * ys.length := fun ys => by
        induction ys with
        | nil => simp
        | cons y ys ih =>
          rw [List.flatMap_cons, List.length_append, List.length_cons]
          have : (rwsN D y).length ≤ 2 := by unfold rwsN; rw [List.length_map]; exact rws_len
          omega
      have := this s
      omega
    have ea : ((s.flatMap (rwsN D)).all fun r => decide (r.2.2.2 ≤ off r.2.2.1 - off r.2.1)) = s.all fun n => tr D off (D.fct n) := by
      rw [List.all_flatMap]
      have : ∀ n ∈ s, ((rwsN D n).all fun r => decide (r.2.2.2 ≤ off r.2.2.1 - off r.2.1)) = tr D off (D.fct n) := fun n hn => by
        unfold rwsN
        rw [List.all_map]
        exact rws_tr (o.fc n ((sub_ok o h).2 n hn))
      rw [Bool.eq_iff_iff, List.all_eq_true, List.all_eq_true]
      exact ⟨fun q n hn => by rw [← this n hn]; exact q n hn, fun q n hn => by rw [this n hn]; exact q n hn⟩
    unfold F_are_fitting
    simp only [e_sSeq, e_sIf, e_sSet, e_sPar, e_sAsg, e_sRaise, e_sFor, e_sFz, e_sDrop, e_sSetLc, e_xTest, e_xOp, e_xUn, e_xCB, e_xCall, e_xCons, e_xNil, e_xIf, e_xAnd, e_xOr, e_xNot, e_xAndV, e_xOrV, e_xNotV, e_xChain, e_xIsi, e_xSl, e_xPart, e_xNo, e_xSrc, e_xIt, e_xYes, e_lc, e_lcs, e_wn, e_wc, e_asI, e_v0, e_v1, e_v2, e_v3, e_v4, e_v5, e_v6, e_v7, e_v8, e_v9, e_vs, e_xC, R.bind_ok, R.bind_exc, e_asB, e_xS_ok, e_xS_exc, e_sNx, e_nx, e_rt, e_ex, e_sRet, e_xTup, e_xLst, small_ok, List.length_cons, List.length_nil, List.length_map, Nat.reduceAdd, Nat.reduceLeDiff, Nat.zero_le, if_true, if_false, Bool.false_eq_true, outR_nx, outR_rt, outR_ex, List.set_cons_succ, List.set_cons_zero, e_gT, e_gsCons, e_gsNil, e_gN, R.ofO, e_xFld, e_xProps, e_xCon, e_xDic, e_xDict, dictOf_d, Bool.not_true, Bool.not_false, o_int, o_neg, o_sub, o_add, o_gt, o_lt, o_le, o_ge, o_eqi, o_nei, o_eqb, o_neb, ixU_l, ixU_t, ixU_r, lenU_d, lenU_l, lenU_t, lenU_r, listU_N, anyU_N, anyU_l, anyU_t, dicI_N, in_dcN, in_lstN, in_tupN, dcN_len, o_tupl, o_listt, o_lastt, rows_ok o h, l1, small_ok hl, all_bls, ea]
  have cl : m_check_log [D.obj] = .ok .non := rfl
  show outR (F_fits [.pu D.obj, .pu (dset s), .pu (offD D off)]) = _
  unfold F_fits
  simp only [e_sSeq, e_sIf, e_sSet, e_sPar, e_sAsg, e_sRaise, e_sFor, e_sFz, e_sDrop, e_sSetLc, e_xTest, e_xOp, e_xUn, e_xCB, e_xCall, e_xCons, e_xNil, e_xIf, e_xAnd, e_xOr, e_xNot, e_xAndV, e_xOrV, e_xNotV, e_xChain, e_xIsi, e_xSl, e_xPart, e_xNo, e_xSrc, e_xIt, e_xYes, e_lc, e_lcs, e_wn, e_wc, e_asI, e_v0, e_v1, e_v2, e_v3, e_v4, e_v5, e_v6, e_v7, e_v8, e_v9, e_vs, e_xC, R.bind_ok, R.bind_exc, e_asB, e_xS_ok, e_xS_exc, e_sNx, e_nx, e_rt, e_ex, e_sRet, e_xTup, e_xLst, small_ok, List.length_cons, List.length_nil, List.length_map, Nat.reduceAdd, Nat.reduceLeDiff, Nat.zero_le, if_true, if_false, Bool.false_eq_true, outR_nx, outR_rt, outR_ex, List.set_cons_succ, List.set_cons_zero, e_gT, e_gsCons, e_gsNil, e_gN, R.ofO, e_xFld, e_xProps, e_xCon, e_xDic, e_xDict, dictOf_d, Bool.not_true, Bool.not_false, cl, check_set_ok o h, check_off o h0, fit]
theorem true_ok {n : Str} (h : n ∈ D.fns) : m__law_is_true [D.frow n, timD D off, offD D off] = .ok (.bl (tr D off (D.fct n))) := by
  have hc := (o.fc n h).c
  unfold Lg.frow
  generalize hf : D.fct n = f at *
  obtain ⟨w, one, other, nums⟩ := f
  dsimp only at hc
  show outR (F__law_is_true [.pu (.tup [.str n, .str w, .str one, .str other, .lst (nums.map DV.int)]), .pu (timD D off), .pu (offD D off), .un, .un, .un, .un, .un, .un]) = _
  unfold F__law_is_true tr
  rcases hc with ⟨rfl, a, b, k, k0, k1, rfl⟩ | ⟨rfl, a, b, k, k0, k1, rfl⟩ | ⟨rfl, a, b, k, l, k0, kl, k1, rfl⟩
  · simp only [e_sSeq, e_sIf, e_sSet, e_sPar, e_sAsg, e_sRaise, e_sFor, e_sFz, e_sDrop, e_sSetLc, e_xTest, e_xOp, e_xUn, e_xCB, e_xCall, e_xCons, e_xNil, e_xIf, e_xAnd, e_xOr, e_xNot, e_xAndV, e_xOrV, e_xNotV, e_xChain, e_xIsi, e_xSl, e_xPart, e_xNo, e_xSrc, e_xIt, e_xYes, e_lc, e_lcs, e_wn, e_wc, e_asI, e_v0, e_v1, e_v2, e_v3, e_v4, e_v5, e_v6, e_v7, e_v8, e_v9, e_vs, e_xC, R.bind_ok, R.bind_exc, e_asB, e_xS_ok, e_xS_exc, e_sNx, e_nx, e_rt, e_ex, e_sRet, e_xTup, e_xLst, small_ok, List.length_cons, List.length_nil, List.length_map, Nat.reduceAdd, Nat.reduceLeDiff, Nat.zero_le, if_true, if_false, Bool.false_eq_true, outR_nx, outR_rt, outR_ex, List.set_cons_succ, List.set_cons_zero, e_gT, e_gsCons, e_gsNil, e_gN, R.ofO, e_xFld, e_xProps, e_xCon, e_xDic, e_xDict, dictOf_d, Bool.not_true, Bool.not_false, o_int, o_neg, o_sub, o_add, o_gt, o_lt, o_le, o_ge, o_eqi, o_nei, o_eqb, o_neb, ixU_l, ixU_t, ixU_r, lenU_d, lenU_l, lenU_t, lenU_r, listU_N, anyU_N, anyU_l, anyU_t, dicI_N, in_dcN, in_lstN, in_tupN, dcN_len, o_tupl, o_listt, o_lastt, show Nat.beq 5 5 = true from rfl, wd4, List.map_cons, List.map_nil, show atI [DV.int k] 0 = some (.int k) from rfl, ix_dcN a, ix_dcN b, List.getD_cons_zero]
    cases decide (-k ≤ off one - off other) <;> rfl
  · simp only [e_sSeq, e_sIf, e_sSet, e_sPar, e_sAsg, e_sRaise, e_sFor, e_sFz, e_sDrop, e_sSetLc, e_xTest, e_xOp, e_xUn, e_xCB, e_xCall, e_xCons, e_xNil, e_xIf, e_xAnd, e_xOr, e_xNot, e_xAndV, e_xOrV, e_xNotV, e_xChain, e_xIsi, e_xSl, e_xPart, e_xNo, e_xSrc, e_xIt, e_xYes, e_lc, e_lcs, e_wn, e_wc, e_asI, e_v0, e_v1, e_v2, e_v3, e_v4, e_v5, e_v6, e_v7, e_v8, e_v9, e_vs, e_xC, R.bind_ok, R.bind_exc, e_asB, e_xS_ok, e_xS_exc, e_sNx, e_nx, e_rt, e_ex, e_sRet, e_xTup, e_xLst, small_ok, List.length_cons, List.length_nil, List.length_map, Nat.reduceAdd, Nat.reduceLeDiff, Nat.zero_le, if_true, if_false, Bool.false_eq_true, outR_nx, outR_rt, outR_ex, List.set_cons_succ, List.set_cons_zero, e_gT, e_gsCons, e_gsNil, e_gN, R.ofO, e_xFld, e_xProps, e_xCon, e_xDic, e_xDict, dictOf_d, Bool.not_true, Bool.not_false, o_int, o_neg, o_sub, o_add, o_gt, o_lt, o_le, o_ge, o_eqi, o_nei, o_eqb, o_neb, ixU_l, ixU_t, ixU_r, lenU_d, lenU_l, lenU_t, lenU_r, listU_N, anyU_N, anyU_l, anyU_t, dicI_N, in_dcN, in_lstN, in_tupN, dcN_len, o_tupl, o_listt, o_lastt, show Nat.beq 5 5 = true from rfl, wd1, wd6, List.map_cons, List.map_nil, show atI [DV.int k] 0 = some (.int k) from rfl, ix_dcN a, ix_dcN b, List.getD_cons_zero, show ¬ (("after" : Str) = "close") by decide, decide_true]
    cases decide (k ≤ D.clk one + off (D.hst one) - (D.clk other + off (D.hst other))) <;> rfl
  · simp only [e_sSeq, e_sIf, e_sSet, e_sPar, e_sAsg, e_sRaise, e_sFor, e_sFz, e_sDrop, e_sSetLc, e_xTest, e_xOp, e_xUn, e_xCB, e_xCall, e_xCons, e_xNil, e_xIf, e_xAnd, e_xOr, e_xNot, e_xAndV, e_xOrV, e_xNotV, e_xChain, e_xIsi, e_xSl, e_xPart, e_xNo, e_xSrc, e_xIt, e_xYes, e_lc, e_lcs, e_wn, e_wc, e_asI, e_v0, e_v1, e_v2, e_v3, e_v4, e_v5, e_v6, e_v7, e_v8, e_v9, e_vs, e_xC, R.bind_ok, R.bind_exc, e_asB, e_xS_ok, e_xS_exc, e_sNx, e_nx, e_rt, e_ex, e_sRet, e_xTup, e_xLst, small_ok, List.length_cons, List.length_nil, List.length_map, Nat.reduceAdd, Nat.reduceLeDiff, Nat.zero_le, if_true, if_false, Bool.false_eq_true, outR_nx, outR_rt, outR_ex, List.set_cons_succ, List.set_cons_zero, e_gT, e_gsCons, e_gsNil, e_gN, R.ofO, e_xFld, e_xProps, e_xCon, e_xDic, e_xDict, dictOf_d, Bool.not_true, Bool.not_false, o_int, o_neg, o_sub, o_add, o_gt, o_lt, o_le, o_ge, o_eqi, o_nei, o_eqb, o_neb, ixU_l, ixU_t, ixU_r, lenU_d, lenU_l, lenU_t, lenU_r, listU_N, anyU_N, anyU_l, anyU_t, dicI_N, in_dcN, in_lstN, in_tupN, dcN_len, o_tupl, o_listt, o_lastt, show Nat.beq 5 5 = true from rfl, wd3, wd5, List.map_cons, List.map_nil, show atI [DV.int k, DV.int l] 0 = some (.int k) from rfl, show atI [DV.int k, DV.int l] 1 = some (.int l) from rfl, ix_dcN a, ix_dcN b, List.getD_cons_zero, List.getD_cons_succ, show ¬ (("within" : Str) = "close") by decide, show ¬ (("within" : Str) = "after") by decide, decide_false, Bool.false_or]
    cases decide (k ≤ D.clk one + off (D.hst one) - (D.clk other + off (D.hst other))) <;> rfl
end
end G31

set_option maxHeartbeats 2000000
namespace G31
open PySem PySem.Spec PyProof.Rows L2 LD LG
/-! ### the law -/
section
variable {D : Lg} (o : LOk D)
include o
abbrev r20 (ns : List Int) (D : Lg) (s4 s5 s7 s8 s9 s10 s11 s12 s13 s14 s15 s16 s17 s18 s19 : Sl) : Ev := [.pu (scr ns), .pu D.rows, .pu D.obj, .pu (.lst (D.ens.map DV.str)), s4, s5, .pu (.lst ((subs D.fns).map dset)), s7, s8, s9, s10, s11, s12, s13, s14, s15, s16, s17, s18, s19]
theorem nosuch : ("nosuch" : Str) ∉ D.fns := by
  have : (FS.all fun l => decide (("nosuch" : Str) ∉ l)) = true := by decide +kernel
  exact of_decide_eq_true (List.all_eq_true.mp this _ o.fns)
/-- one fact -/
theorem t_fact {ns : List Int} {n : Str} (h : n ∈ D.fns) {s4 s7 s8 s9 s10 s11 s12 s13 s14 s15 s16 s17 s18 s19 : Sl} : B_law_1 (r20 ns D s4 (.pu (D.frow n)) s7 s8 s9 s10 s11 s12 s13 s14 s15 s16 s17 s18 s19) = .nx (r20 ns D s4 (.pu (D.frow n)) s7 s8 (.pu (D.fobj n)) s10 s11 s12 s13 s14 s15 s16 s17 s18 s19) := by
  have hF := o.fc n h
  obtain ⟨h1, h2⟩ := FOk.nms o hF
  unfold B_law_1
  have e0 : oIxU (D.frow n) (.int 0) = .ok (.str n) := rfl
  have e4 : oIxU (D.frow n) (.int 4) = .ok (.lst ((D.fct n).nums.map DV.int)) := rfl
  have ec : oSl (D.frow n) (some 2) (some 4) = .ok (.tup [.str (D.fct n).one, .str (D.fct n).other]) := rfl
  have em : ∀ s9 : Sl, xMeth "Log" "fact" m_Log_fact (xVar 2) (xCons (xOp oIxU (xVar 5) (xC (.int 0))) (xNil)) (r20 ns D s4 (.pu (D.frow n)) s7 s8 s9 s10 s11 s12 s13 s14 s15 s16 s17 s18 s19) = .ok (D.fobj n) := fun s9 => by
    rw [e_xMeth (fs := D.flds) (by rfl) (by rfl)]
    simp only [e_sSeq, e_sIf, e_sSet, e_sPar, e_sAsg, e_sRaise, e_sFor, e_sFz, e_sDrop, e_sSetLc, e_xTest, e_xOp, e_xUn, e_xCB, e_xCall, e_xCons, e_xNil, e_xIf, e_xAnd, e_xOr, e_xNot, e_xAndV, e_xOrV, e_xNotV, e_xChain, e_xIsi, e_xSl, e_xPart, e_xNo, e_xSrc, e_xIt, e_xYes, e_lc, e_lcs, e_wn, e_wc, e_asI, e_v0, e_v1, e_v2, e_v3, e_v4, e_v5, e_v6, e_v7, e_v8, e_v9, e_vs, e_xC, R.bind_ok, R.bind_exc, e_asB, e_xS_ok, e_xS_exc, e_sNx, e_nx, e_rt, e_ex, e_sRet, e_xTup, e_xLst, small_ok, List.length_cons, List.length_nil, List.length_map, Nat.reduceAdd, Nat.reduceLeDiff, Nat.zero_le, if_true, if_false, Bool.false_eq_true, outR_nx, outR_rt, outR_ex, List.set_cons_succ, List.set_cons_zero, e_gT, e_gsCons, e_gsNil, e_gN, R.ofO, e_xFld, e_xProps, e_xCon, e_xDic, e_xDict, dictOf_d, Bool.not_true, Bool.not_false, e0]
    exact fact_m_ok o h
  have ei : oInV true "Log" m_Log_contains (.str n) D.obj = .ok (.bl false) := by
    rw [show D.obj = .obj "Log" D.flds from rfl, oInV_ev (b := true) (by rw [← show D.obj = .obj "Log" D.flds from rfl, contains_ok o, decide_eq_true h])]
    rfl
  have p1 : oNe (.tup [.str (D.fct n).one, .str (D.fct n).other]) (.tup [.str (D.fct n).one, .str (D.fct n).other]) = .ok (.bl false) := ne_same (by
    show (([(D.fct n).one, (D.fct n).other] : List Str).map DV.str).all (cmp 7) = true
    exact cmp_strs fun x hx => by
      rcases List.mem_cons.mp hx with rfl | hx
      · exact canL h1
      · rw [List.mem_singleton.mp hx]; exact canL h2)
  have p2 : oNe (.tup ((D.fct n).nums.map DV.int)) (.tup ((D.fct n).nums.map DV.int)) = .ok (.bl false) := ne_same (by
    show ((D.fct n).nums.map DV.int).all (cmp 7) = true
    exact cmp_ints)
  have ef : m__law_fact [D.frow n] = .ok (D.fobj n) := fact_ok o hF
  have eq : oNeO ["After", "Within", "Close"] m_Fact_eq (D.fobj n) (D.fobj n) = .ok (.bl false) := fc_eq o hF
  have en : prpO ["After", "Within", "Close"] m_Fact_names (D.fobj n) = .ok (.tup [.str (D.fct n).one, .str (D.fct n).other]) := fc_names _
  have eu : prpO ["After", "Within", "Close"] m_Fact_numbers (D.fobj n) = .ok (.tup ((D.fct n).nums.map DV.int)) := fc_nums _
  simp only [e_sSeq, e_sSet, em, e_xS_ok, e_nx, List.set_cons_succ, List.set_cons_zero]
  simp only [e_sSeq, e_sIf, e_sSet, e_sPar, e_sAsg, e_sRaise, e_sFor, e_sFz, e_sDrop, e_sSetLc, e_xTest, e_xOp, e_xUn, e_xCB, e_xCall, e_xCons, e_xNil, e_xIf, e_xAnd, e_xOr, e_xNot, e_xAndV, e_xOrV, e_xNotV, e_xChain, e_xIsi, e_xSl, e_xPart, e_xNo, e_xSrc, e_xIt, e_xYes, e_lc, e_lcs, e_wn, e_wc, e_asI, e_v0, e_v1, e_v2, e_v3, e_v4, e_v5, e_v6, e_v7, e_v8, e_v9, e_vs, e_xC, R.bind_ok, R.bind_exc, e_asB, e_xS_ok, e_xS_exc, e_sNx, e_nx, e_rt, e_ex, e_sRet, e_xTup, e_xLst, small_ok, List.length_cons, List.length_nil, List.length_map, Nat.reduceAdd, Nat.reduceLeDiff, Nat.zero_le, if_true, if_false, Bool.false_eq_true, outR_nx, outR_rt, outR_ex, List.set_cons_succ, List.set_cons_zero, e_gT, e_gsCons, e_gsNil, e_gN, R.ofO, e_xFld, e_xProps, e_xCon, e_xDic, e_xDict, dictOf_d, Bool.not_true, Bool.not_false, o_int, o_neg, o_sub, o_add, o_gt, o_lt, o_le, o_ge, o_eqi, o_nei, o_eqb, o_neb, ixU_l, ixU_t, ixU_r, lenU_d, lenU_l, lenU_t, lenU_r, listU_N, anyU_N, anyU_l, anyU_t, dicI_N, in_dcN, in_lstN, in_tupN, dcN_len, o_tupl, o_listt, o_lastt, ef, eq, en, ec, p1, eu, e4, p2, e0, ei]
/-- one set -/
theorem t_set {ns : List Int} {off : Str → Int} (h0 : off D.one = 0) {s : List Str} (h : s ∈ subs D.fns) {s4 s5 s8 s9 s10 s11 s13 s14 s16 s17 s18 s19 : Sl} : B_law_2 (r20 ns D s4 s5 (.pu (dset s)) s8 s9 s10 s11 (.pu (offD D off)) s13 s14 (.pu (.lst ((D.fns.filter fun n => tr D off (D.fct n)).map DV.str))) s16 s17 s18 s19) = .nx (r20 ns D s4 s5 (.pu (dset s)) s8 s9 s10 s11 (.pu (offD D off)) s13 s14 (.pu (.lst ((D.fns.filter fun n => tr D off (D.fct n)).map DV.str))) s16 s17 s18 s19) := by
  have hs := sub_len o h
  have e2 : asAnyU (dset s) = .ok (s.map DV.str) := rfl
  have l1 : ∀ s9 : Sl, lcD (gN 8) xYes (xOp (oInU false) (xVar 8) (xVar 15)) (r20 ns D s4 s5 (.pu (dset s)) .un s9 s10 s11 (.pu (offD D off)) s13 s14 (.pu (.lst ((D.fns.filter fun n => tr D off (D.fct n)).map DV.str))) s16 s17 s18 s19) (s.map DV.str) = .ok (s.map fun n => .bl (tr D off (D.fct n))) := fun s9 =>
    lcD_N fun n hn => ⟨_, rfl, by
      have hm := (sub_ok o h).2 n hn
      have e : decide (n ∈ D.fns.filter fun n => tr D off (D.fct n)) = tr D off (D.fct n) := by
        rw [Bool.eq_iff_iff, decide_eq_true_iff, List.mem_filter]
        exact ⟨fun z => z.2, fun z => ⟨hm, z⟩⟩
      simp only [e_sSeq, e_sIf, e_sSet, e_sPar, e_sAsg, e_sRaise, e_sFor, e_sFz, e_sDrop, e_sSetLc, e_xTest, e_xOp, e_xUn, e_xCB, e_xCall, e_xCons, e_xNil, e_xIf, e_xAnd, e_xOr, e_xNot, e_xAndV, e_xOrV, e_xNotV, e_xChain, e_xIsi, e_xSl, e_xPart, e_xNo, e_xSrc, e_xIt, e_xYes, e_lc, e_lcs, e_wn, e_wc, e_asI, e_v0, e_v1, e_v2, e_v3, e_v4, e_v5, e_v6, e_v7, e_v8, e_v9, e_vs, e_xC, R.bind_ok, R.bind_exc, e_asB, e_xS_ok, e_xS_exc, e_sNx, e_nx, e_rt, e_ex, e_sRet, e_xTup, e_xLst, small_ok, List.length_cons, List.length_nil, List.length_map, Nat.reduceAdd, Nat.reduceLeDiff, Nat.zero_le, if_true, if_false, Bool.false_eq_true, outR_nx, outR_rt, outR_ex, List.set_cons_succ, List.set_cons_zero, e_gT, e_gsCons, e_gsNil, e_gN, R.ofO, e_xFld, e_xProps, e_xCon, e_xDic, e_xDict, dictOf_d, Bool.not_true, Bool.not_false, o_int, o_neg, o_sub, o_add, o_gt, o_lt, o_le, o_ge, o_eqi, o_nei, o_eqb, o_neb, ixU_l, ixU_t, ixU_r, lenU_d, lenU_l, lenU_t, lenU_r, listU_N, anyU_N, anyU_l, anyU_t, dicI_N, in_dcN, in_lstN, in_tupN, dcN_len, o_tupl, o_listt, o_lastt, e]⟩
  unfold B_law_2
  simp only [e_sSeq, e_sIf, e_sSet, e_sPar, e_sAsg, e_sRaise, e_sFor, e_sFz, e_sDrop, e_sSetLc, e_xTest, e_xOp, e_xUn, e_xCB, e_xCall, e_xCons, e_xNil, e_xIf, e_xAnd, e_xOr, e_xNot, e_xAndV, e_xOrV, e_xNotV, e_xChain, e_xIsi, e_xSl, e_xPart, e_xNo, e_xSrc, e_xIt, e_xYes, e_lc, e_lcs, e_wn, e_wc, e_asI, e_v0, e_v1, e_v2, e_v3, e_v4, e_v5, e_v6, e_v7, e_v8, e_v9, e_vs, e_xC, R.bind_ok, R.bind_exc, e_asB, e_xS_ok, e_xS_exc, e_sNx, e_nx, e_rt, e_ex, e_sRet, e_xTup, e_xLst, small_ok, List.length_cons, List.length_nil, List.length_map, Nat.reduceAdd, Nat.reduceLeDiff, Nat.zero_le, if_true, if_false, Bool.false_eq_true, outR_nx, outR_rt, outR_ex, List.set_cons_succ, List.set_cons_zero, e_gT, e_gsCons, e_gsNil, e_gN, R.ofO, e_xFld, e_xProps, e_xCon, e_xDic, e_xDict, dictOf_d, Bool.not_true, Bool.not_false, o_int, o_neg, o_sub, o_add, o_gt, o_lt, o_le, o_ge, o_eqi, o_nei, o_eqb, o_neb, ixU_l, ixU_t, ixU_r, lenU_d, lenU_l, lenU_t, lenU_r, listU_N, anyU_N, anyU_l, anyU_t, dicI_N, in_dcN, in_lstN, in_tupN, dcN_len, o_tupl, o_listt, o_lastt, fits_ok o h0 h, e2, l1, small_ok (show s.length ≤ 16777216 by omega), all_bls, beq_self_eq_true]
end
end G31

set_option maxHeartbeats 2000000
namespace G31
open PySem PySem.Spec PyProof.Rows L2 LD LG
section
noncomputable def dr (ns : List Int) (t : Int) (i : Nat) : Int := cv ns (40 + 4 * t + i) % 25 - 12
noncomputable def offs (ns : List Int) (D : Lg) (t : Int) (m : Str) : Int := if m = D.one then 0 else dr ns t (D.ms.idxOf m)
theorem zip_ms {D : Lg} (o : LOk D) (f : Nat → Int) : zipD (D.ms.map DV.str) [.int (f 0), .int (f 1), .int (f 2), .int (f 3)] = D.ms.map fun m => .tup [.str m, .int (f (D.ms.idxOf m))] := by
  have h := o.ms
  generalize D.ms = l at h
  simp only [MS, List.mem_cons, List.not_mem_nil, or_false] at h
  rcases h with rfl | rfl | rfl | rfl <;> rfl
variable {D : Lg} (o : LOk D)
include o
/-- one turn -/
theorem t_turn {ns : List Int} {t : Nat} (ht : t < 6) {s4 s5 s7 s8 s9 s11 s12 s13 s14 s15 s16 s17 s18 s19 : Sl} : ∃ t4 t5 t7 t8 t9 t11 t12 t13 t14 t15 t16 t17 t18 t19, B_law_3 (r20 ns D s4 s5 s7 s8 s9 (.pu (.int (0 + (t : Int)))) s11 s12 s13 s14 s15 s16 s17 s18 s19) = .nx (r20 ns D t4 t5 t7 t8 t9 (.pu (.int (0 + (t : Int)))) t11 t12 t13 t14 t15 t16 t17 t18 t19) := by
  have hm := msLen o
  have he := ensLen o
  have hf := fnsLen o
  have off0 : offs ns D t D.one = 0 := by unfold offs; rw [if_pos rfl]
  have e0 : oIxU D.rows (.int 0) = .ok (.lst (D.ms.map DV.str)) := rfl
  have e1 : oIxU D.rows (.int 1) = .ok (.lst (D.ens.map D.erow)) := rfl
  have e2 : oIxU D.rows (.int 2) = .ok (.lst (D.fns.map D.frow)) := rfl
  have er : asRange1 [.int 4] = .ok ((List.range 4).map fun i : Nat => DV.int (0 + (i : Int))) := rfl
  have l1 : lcD (gN 16) xYes (xOp oSub (xOp oMod (xCall m__law_cell_at (xCons (xVar 0) (xCons (xOp oAdd (xOp oAdd (xC (.int 40)) (xOp oMul (xC (.int 4)) (xVar 10))) (xVar 16)) (xNil)))) (xC (.int 25))) (xC (.int 12))) (r20 ns D s4 s5 s7 s8 s9 (.pu (.int (0 + (t : Int)))) s11 s12 s13 s14 s15 .un s17 s18 s19) ((List.range 4).map fun i : Nat => DV.int (0 + (i : Int))) = .ok ((List.range 4).map fun i : Nat => DV.int (dr ns t i)) :=
    lcD_N fun i hi => ⟨r20 ns D s4 s5 s7 s8 s9 (.pu (.int (0 + (t : Int)))) s11 s12 s13 s14 s15 (.pu (.int (0 + (i : Int)))) s17 s18 s19, rfl, by
      have c := cv_ok (ns := ns) (i := 40 + 4 * (t : Int) + (i : Int)) (by omega)
      simp only [e_sSeq, e_sIf, e_sSet, e_sPar, e_sAsg, e_sRaise, e_sFor, e_sFz, e_sDrop, e_sSetLc, e_xTest, e_xOp, e_xUn, e_xCB, e_xCall, e_xCons, e_xNil, e_xIf, e_xAnd, e_xOr, e_xNot, e_xAndV, e_xOrV, e_xNotV, e_xChain, e_xIsi, e_xSl, e_xPart, e_xNo, e_xSrc, e_xIt, e_xYes, e_lc, e_lcs, e_wn, e_wc, e_asI, e_v0, e_v1, e_v2, e_v3, e_v4, e_v5, e_v6, e_v7, e_v8, e_v9, e_vs, e_xC, R.bind_ok, R.bind_exc, e_asB, e_xS_ok, e_xS_exc, e_sNx, e_nx, e_rt, e_ex, e_sRet, e_xTup, e_xLst, small_ok, List.length_cons, List.length_nil, List.length_map, Nat.reduceAdd, Nat.reduceLeDiff, Nat.zero_le, if_true, if_false, Bool.false_eq_true, outR_nx, outR_rt, outR_ex, List.set_cons_succ, List.set_cons_zero, e_gT, e_gsCons, e_gsNil, e_gN, R.ofO, e_xFld, e_xProps, e_xCon, e_xDic, e_xDict, dictOf_d, Bool.not_true, Bool.not_false, o_int, o_neg, o_sub, o_add, o_gt, o_lt, o_le, o_ge, o_eqi, o_nei, o_eqb, o_neb, ixU_l, ixU_t, ixU_r, lenU_d, lenU_l, lenU_t, lenU_r, listU_N, anyU_N, anyU_l, anyU_t, dicI_N, in_dcN, in_lstN, in_tupN, dcN_len, o_tupl, o_listt, o_lastt, Int.zero_add, o_mul1 (show inM 4 = true from rfl), c, o_mod (show (0 : Int) < 25 by decide)]
      rfl⟩
  have dr4 : (List.range 4).map (fun i : Nat => DV.int (dr ns t i)) = [.int (dr ns t 0), .int (dr ns t 1), .int (dr ns t 2), .int (dr ns t 3)] := rfl
  have ez : asZip [.lst (D.ms.map DV.str), .lst [.int (dr ns t 0), .int (dr ns t 1), .int (dr ns t 2), .int (dr ns t 3)]] = .ok (D.ms.map fun m => .tup [.str m, .int (dr ns t (D.ms.idxOf m))]) := by
    show R.ok (zipD _ _) = _
    rw [zip_ms o (dr ns t)]
  have l2 : ∀ s11 s16 : Sl, lcD (gT 2 (gsCons (gN 17) (gsCons (gN 18) gsNil))) xYes (xTup (xCons (xVar 17) (xCons (xVar 18) xNil))) (r20 ns D s4 s5 s7 s8 s9 (.pu (.int (0 + (t : Int)))) s11 s12 s13 s14 s15 s16 .un .un s19) (D.ms.map fun m => .tup [.str m, .int (dr ns t (D.ms.idxOf m))]) = .ok (D.ms.map fun m => .tup [.str m, .int (dr ns t (D.ms.idxOf m))]) := fun s11 s16 =>
    lcD_N fun m hmm => ⟨r20 ns D s4 s5 s7 s8 s9 (.pu (.int (0 + (t : Int)))) s11 s12 s13 s14 s15 s16 (.pu (.str m)) (.pu (.int (dr ns t (D.ms.idxOf m)))) s19, rfl, rfl⟩
  have ep : putKD (dcN D.ms fun m => .int (dr ns t (D.ms.idxOf m))) (Sum.inr D.one) (.int 0) = dcN D.ms fun m => .int (offs ns D t m) := by
    rw [dcN_put (one_in o)]
    congr 1
    funext m
    unfold offs
    split <;> rfl
  have l3 : ∀ s11 s16 s18 : Sl, lcD (gT 3 (gsCons (gN 8) (gsCons (gN 17) (gsCons (gN 19) gsNil)))) xYes (xTup (xCons (xVar 8) (xCons (xOp oAdd (xVar 19) (xOp oIxU (xVar 12) (xVar 17))) xNil))) (r20 ns D s4 s5 s7 .un s9 (.pu (.int (0 + (t : Int)))) s11 (.pu (offD D (offs ns D t))) s13 s14 s15 s16 .un s18 .un) (D.ens.map D.erow) = .ok (D.ens.map fun n => .tup [.str n, .int (D.clk n + offs ns D t (D.hst n))]) := fun s11 s16 s18 =>
    lcD_N fun n hn => ⟨r20 ns D s4 s5 s7 (.pu (.str n)) s9 (.pu (.int (0 + (t : Int)))) s11 (.pu (offD D (offs ns D t))) s13 s14 s15 s16 (.pu (.str (D.hst n))) s18 (.pu (.int (D.clk n))), rfl, by
      simp only [e_sSeq, e_sIf, e_sSet, e_sPar, e_sAsg, e_sRaise, e_sFor, e_sFz, e_sDrop, e_sSetLc, e_xTest, e_xOp, e_xUn, e_xCB, e_xCall, e_xCons, e_xNil, e_xIf, e_xAnd, e_xOr, e_xNot, e_xAndV, e_xOrV, e_xNotV, e_xChain, e_xIsi, e_xSl, e_xPart, e_xNo, e_xSrc, e_xIt, e_xYes, e_lc, e_lcs, e_wn, e_wc, e_asI, e_v0, e_v1, e_v2, e_v3, e_v4, e_v5, e_v6, e_v7, e_v8, e_v9, e_vs, e_xC, R.bind_ok, R.bind_exc, e_asB, e_xS_ok, e_xS_exc, e_sNx, e_nx, e_rt, e_ex, e_sRet, e_xTup, e_xLst, small_ok, List.length_cons, List.length_nil, List.length_map, Nat.reduceAdd, Nat.reduceLeDiff, Nat.zero_le, if_true, if_false, Bool.false_eq_true, outR_nx, outR_rt, outR_ex, List.set_cons_succ, List.set_cons_zero, e_gT, e_gsCons, e_gsNil, e_gN, R.ofO, e_xFld, e_xProps, e_xCon, e_xDic, e_xDict, dictOf_d, Bool.not_true, Bool.not_false, o_int, o_neg, o_sub, o_add, o_gt, o_lt, o_le, o_ge, o_eqi, o_nei, o_eqb, o_neb, ixU_l, ixU_t, ixU_r, lenU_d, lenU_l, lenU_t, lenU_r, listU_N, anyU_N, anyU_l, anyU_t, dicI_N, in_dcN, in_lstN, in_tupN, dcN_len, o_tupl, o_listt, o_lastt, ix_dcN (o.ev n hn).1]⟩
  have l4 : ∀ s8 s11 s14 s15 s16 s17 s18 s19 : Sl, lcD (gN 5) (xTest (xCall m__law_is_true (xCons (xVar 5) (xCons (xVar 13) (xCons (xVar 12) xNil))))) (xOp oIxU (xVar 5) (xC (.int 0))) (r20 ns D s4 .un s7 s8 s9 (.pu (.int (0 + (t : Int)))) s11 (.pu (offD D (offs ns D t))) (.pu (timD D (offs ns D t))) s14 s15 s16 s17 s18 s19) (D.fns.map D.frow) = .ok ((D.fns.filter fun n => tr D (offs ns D t) (D.fct n)).map DV.str) := fun s8 s11 s14 s15 s16 s17 s18 s19 =>
    lcD_F fun n hn => ⟨r20 ns D s4 (.pu (D.frow n)) s7 s8 s9 (.pu (.int (0 + (t : Int)))) s11 (.pu (offD D (offs ns D t))) (.pu (timD D (offs ns D t))) s14 s15 s16 s17 s18 s19, rfl, by
      simp only [e_sSeq, e_sIf, e_sSet, e_sPar, e_sAsg, e_sRaise, e_sFor, e_sFz, e_sDrop, e_sSetLc, e_xTest, e_xOp, e_xUn, e_xCB, e_xCall, e_xCons, e_xNil, e_xIf, e_xAnd, e_xOr, e_xNot, e_xAndV, e_xOrV, e_xNotV, e_xChain, e_xIsi, e_xSl, e_xPart, e_xNo, e_xSrc, e_xIt, e_xYes, e_lc, e_lcs, e_wn, e_wc, e_asI, e_v0, e_v1, e_v2, e_v3, e_v4, e_v5, e_v6, e_v7, e_v8, e_v9, e_vs, e_xC, R.bind_ok, R.bind_exc, e_asB, e_xS_ok, e_xS_exc, e_sNx, e_nx, e_rt, e_ex, e_sRet, e_xTup, e_xLst, small_ok, List.length_cons, List.length_nil, List.length_map, Nat.reduceAdd, Nat.reduceLeDiff, Nat.zero_le, if_true, if_false, Bool.false_eq_true, outR_nx, outR_rt, outR_ex, List.set_cons_succ, List.set_cons_zero, e_gT, e_gsCons, e_gsNil, e_gN, R.ofO, e_xFld, e_xProps, e_xCon, e_xDic, e_xDict, dictOf_d, Bool.not_true, Bool.not_false, true_ok o hn], rfl⟩
  have ec : ∀ s5 s8 s11 s14 s15 s16 s17 s18 s19 : Sl, xCallO "Log" m_Log_call 2 (xCons (xVar 12) (xNil)) (r20 ns D s4 s5 s7 s8 s9 (.pu (.int (0 + (t : Int)))) s11 (.pu (offD D (offs ns D t))) (.pu (timD D (offs ns D t))) s14 s15 s16 s17 s18 s19) = .ok (timD D (offs ns D t)) := fun s5 s8 s11 s14 s15 s16 s17 s18 s19 => by
    rw [e_xCallO (fs := D.flds) (by rfl)]
    simp only [e_sSeq, e_sIf, e_sSet, e_sPar, e_sAsg, e_sRaise, e_sFor, e_sFz, e_sDrop, e_sSetLc, e_xTest, e_xOp, e_xUn, e_xCB, e_xCall, e_xCons, e_xNil, e_xIf, e_xAnd, e_xOr, e_xNot, e_xAndV, e_xOrV, e_xNotV, e_xChain, e_xIsi, e_xSl, e_xPart, e_xNo, e_xSrc, e_xIt, e_xYes, e_lc, e_lcs, e_wn, e_wc, e_asI, e_v0, e_v1, e_v2, e_v3, e_v4, e_v5, e_v6, e_v7, e_v8, e_v9, e_vs, e_xC, R.bind_ok, R.bind_exc, e_asB, e_xS_ok, e_xS_exc, e_sNx, e_nx, e_rt, e_ex, e_sRet, e_xTup, e_xLst, small_ok, List.length_cons, List.length_nil, List.length_map, Nat.reduceAdd, Nat.reduceLeDiff, Nat.zero_le, if_true, if_false, Bool.false_eq_true, outR_nx, outR_rt, outR_ex, List.set_cons_succ, List.set_cons_zero, e_gT, e_gsCons, e_gsNil, e_gN, R.ofO, e_xFld, e_xProps, e_xCon, e_xDic, e_xDict, dictOf_d, Bool.not_true, Bool.not_false]
    exact call_ok o off0
  have en : oNe (.lst (D.ens.map DV.str)) (.lst (D.ens.map DV.str)) = .ok (.bl false) := ne_same (cmp_strs (n := 7) fun x hx => canL (eN o hx))
  have fl : (D.fns.filter fun n => tr D (offs ns D t) (D.fct n)).length ≤ 16777216 := by
    have := List.length_filter_le (fun n => tr D (offs ns D t) (D.fct n)) D.fns
    omega
  unfold B_law_3
  rw [e_sSeq]
  have x1 : sSetLc 11 (xLcs [16] (xIt asRange1 (xCons (xC (.int 4)) (xNil))) (gN 16) (xYes) (xOp oSub (xOp oMod (xCall m__law_cell_at (xCons (xVar 0) (xCons (xOp oAdd (xOp oAdd (xC (.int 40)) (xOp oMul (xC (.int 4)) (xVar 10))) (xVar 16)) (xNil)))) (xC (.int 25))) (xC (.int 12)))) (r20 ns D s4 s5 s7 s8 s9 (.pu (.int (0 + (t : Int)))) s11 s12 s13 s14 s15 s16 s17 s18 s19) = .nx (r20 ns D s4 s5 s7 s8 s9 (.pu (.int (0 + (t : Int)))) (.pu (.lst [.int (dr ns t 0), .int (dr ns t 1), .int (dr ns t 2), .int (dr ns t 3)])) s12 s13 s14 s15 s16 s17 s18 s19) := by
    simp only [e_sSetLc, e_lcs, e_xIt, e_xCons, e_xNil, e_xC, R.bind_ok, er, e_wc, e_wn, List.set_cons_succ, List.set_cons_zero, l1, small_ok (show ((List.range 4).map fun i : Nat => DV.int (dr ns t i)).length ≤ 16777216 by simp), if_true, e_xS_ok, dr4]
    rfl
  rw [x1, e_nx, e_sSeq]
  have x2 : sSetD 12 (xDict (xCons (xLc [17, 18] (xIt asZip (xCons (xOp oIxU (xVar 1) (xC (.int 0))) (xCons (xVar 11) (xNil)))) (gT 2 (gsCons (gN 17) (gsCons (gN 18) (gsNil)))) (xYes) (xTup (xCons (xVar 17) (xCons (xVar 18) (xNil))))) (xNil))) (r20 ns D s4 s5 s7 s8 s9 (.pu (.int (0 + (t : Int)))) (.pu (.lst [.int (dr ns t 0), .int (dr ns t 1), .int (dr ns t 2), .int (dr ns t 3)])) s12 s13 s14 s15 s16 s17 s18 s19) = .nx (r20 ns D s4 s5 s7 s8 s9 (.pu (.int (0 + (t : Int)))) (.pu (.lst [.int (dr ns t 0), .int (dr ns t 1), .int (dr ns t 2), .int (dr ns t 3)])) (.od (dcN D.ms fun m => .int (dr ns t (D.ms.idxOf m)))) s13 s14 s15 s16 s17 s18 s19) := by
    unfold sSetD
    simp only [e_xDict, e_lc, e_lcs, e_xIt, e_xCons, e_xNil, e_xC, e_xOp, e_v1, e_v0, e_vs, R.bind_ok, e0, ez, e_wc, e_wn, List.set_cons_succ, List.set_cons_zero, l2, List.length_map, small_ok (show D.ms.length ≤ 16777216 by omega), if_true, e_xS_ok, dictOf_N (msNd o)]
  rw [x2, e_nx, e_sSeq]
  have x3 : sPutD 12 (xC (.int 0)) (xOp oIxU (xOp oIxU (xVar 1) (xC (.int 0))) (xC (.int 0))) (r20 ns D s4 s5 s7 s8 s9 (.pu (.int (0 + (t : Int)))) (.pu (.lst [.int (dr ns t 0), .int (dr ns t 1), .int (dr ns t 2), .int (dr ns t 3)])) (.od (dcN D.ms fun m => .int (dr ns t (D.ms.idxOf m)))) s13 s14 s15 s16 s17 s18 s19) = .nx (r20 ns D s4 s5 s7 s8 s9 (.pu (.int (0 + (t : Int)))) (.pu (.lst [.int (dr ns t 0), .int (dr ns t 1), .int (dr ns t 2), .int (dr ns t 3)])) (.od (dcN D.ms fun m => .int (offs ns D t m))) s13 s14 s15 s16 s17 s18 s19) := by
    show xS (xOp oIxU (xOp oIxU (xVar 1) (xC (.int 0))) (xC (.int 0)) (r20 ns D s4 s5 s7 s8 s9 (.pu (.int (0 + (t : Int)))) (.pu (.lst [.int (dr ns t 0), .int (dr ns t 1), .int (dr ns t 2), .int (dr ns t 3)])) (.od (dcN D.ms fun m => .int (dr ns t (D.ms.idxOf m)))) s13 s14 s15 s16 s17 s18 s19)) _ (fun k => match asKey k with
      | some k => if Nat.blt (dcN D.ms fun m => DV.int (dr ns t (D.ms.idxOf m))).length 16777216 then .nx (List.set (r20 ns D s4 s5 s7 s8 s9 (.pu (.int (0 + (t : Int)))) (.pu (.lst [.int (dr ns t 0), .int (dr ns t 1), .int (dr ns t 2), .int (dr ns t 3)])) (.od (dcN D.ms fun m => .int (dr ns t (D.ms.idxOf m)))) s13 s14 s15 s16 s17 s18 s19) 12 (.od (putKD (dcN D.ms fun m => DV.int (dr ns t (D.ms.idxOf m))) k (.int 0)))) else .bad
      | none => .bad) = _
    simp only [e_sSeq, e_sIf, e_sSet, e_sPar, e_sAsg, e_sRaise, e_sFor, e_sFz, e_sDrop, e_sSetLc, e_xTest, e_xOp, e_xUn, e_xCB, e_xCall, e_xCons, e_xNil, e_xIf, e_xAnd, e_xOr, e_xNot, e_xAndV, e_xOrV, e_xNotV, e_xChain, e_xIsi, e_xSl, e_xPart, e_xNo, e_xSrc, e_xIt, e_xYes, e_lc, e_lcs, e_wn, e_wc, e_asI, e_v0, e_v1, e_v2, e_v3, e_v4, e_v5, e_v6, e_v7, e_v8, e_v9, e_vs, e_xC, R.bind_ok, R.bind_exc, e_asB, e_xS_ok, e_xS_exc, e_sNx, e_nx, e_rt, e_ex, e_sRet, e_xTup, e_xLst, small_ok, List.length_cons, List.length_nil, List.length_map, Nat.reduceAdd, Nat.reduceLeDiff, Nat.zero_le, if_true, if_false, Bool.false_eq_true, outR_nx, outR_rt, outR_ex, List.set_cons_succ, List.set_cons_zero, e_gT, e_gsCons, e_gsNil, e_gN, R.ofO, e_xFld, e_xProps, e_xCon, e_xDic, e_xDict, dictOf_d, Bool.not_true, Bool.not_false, o_int, o_neg, o_sub, o_add, o_gt, o_lt, o_le, o_ge, o_eqi, o_nei, o_eqb, o_neb, ixU_l, ixU_t, ixU_r, lenU_d, lenU_l, lenU_t, lenU_r, listU_N, anyU_N, anyU_l, anyU_t, dicI_N, in_dcN, in_lstN, in_tupN, dcN_len, o_tupl, o_listt, o_lastt, e0, ms_at0 o, show asKey (.str D.one) = some (Sum.inr D.one) from rfl, blt_ok (show D.ms.length < 16777216 by omega), ep]
  rw [x3, e_nx]
  have x4 : ∀ F : Ev → SR, sFzD 12 F (r20 ns D s4 s5 s7 s8 s9 (.pu (.int (0 + (t : Int)))) (.pu (.lst [.int (dr ns t 0), .int (dr ns t 1), .int (dr ns t 2), .int (dr ns t 3)])) (.od (dcN D.ms fun m => .int (offs ns D t m))) s13 s14 s15 s16 s17 s18 s19) = F (r20 ns D s4 s5 s7 s8 s9 (.pu (.int (0 + (t : Int)))) (.pu (.lst [.int (dr ns t 0), .int (dr ns t 1), .int (dr ns t 2), .int (dr ns t 3)])) (.pu (offD D (offs ns D t))) s13 s14 s15 s16 s17 s18 s19) := fun _ => rfl
  rw [x4]
  obtain ⟨δ', f1, u7, rfl⟩ := forD_N (g := gN 7) (F := B_law_2) (xs := subs D.fns) (e := dset)
    (fun δ => ∃ s7, δ = r20 ns D s4 s5 s7 s8 s9 (.pu (.int (0 + (t : Int)))) (.pu (.lst [.int (dr ns t 0), .int (dr ns t 1), .int (dr ns t 2), .int (dr ns t 3)])) (.pu (offD D (offs ns D t))) (.pu (timD D (offs ns D t))) (.pu (timD D (offs ns D t))) (.pu (.lst ((D.fns.filter fun n => tr D (offs ns D t) (D.fct n)).map DV.str))) s16 s17 s18 s19)
    (by
      rintro q hq _ ⟨s7, rfl⟩
      exact ⟨_, _, rfl, t_set o off0 hq, .pu (dset q), rfl⟩) _ ⟨s7, rfl⟩
  refine ⟨s4, s5, u7, s8, s9, .pu (.lst [.int (dr ns t 0), .int (dr ns t 1), .int (dr ns t 2), .int (dr ns t 3)]), .pu (offD D (offs ns D t)), .pu (timD D (offs ns D t)), .pu (timD D (offs ns D t)), .pu (.lst ((D.fns.filter fun n => tr D (offs ns D t) (D.fct n)).map DV.str)), s16, s17, s18, s19, ?_⟩
  have e3 : asAnyU (.lst ((subs D.fns).map dset)) = .ok ((subs D.fns).map dset) := rfl
  simp only [e_sSeq, e_sIf, e_sSet, e_sPar, e_sAsg, e_sRaise, e_sFor, e_sFz, e_sDrop, e_sSetLc, e_xTest, e_xOp, e_xUn, e_xCB, e_xCall, e_xCons, e_xNil, e_xIf, e_xAnd, e_xOr, e_xNot, e_xAndV, e_xOrV, e_xNotV, e_xChain, e_xIsi, e_xSl, e_xPart, e_xNo, e_xSrc, e_xIt, e_xYes, e_lc, e_lcs, e_wn, e_wc, e_asI, e_v0, e_v1, e_v2, e_v3, e_v4, e_v5, e_v6, e_v7, e_v8, e_v9, e_vs, e_xC, R.bind_ok, R.bind_exc, e_asB, e_xS_ok, e_xS_exc, e_sNx, e_nx, e_rt, e_ex, e_sRet, e_xTup, e_xLst, small_ok, List.length_cons, List.length_nil, List.length_map, Nat.reduceAdd, Nat.reduceLeDiff, Nat.zero_le, if_true, if_false, Bool.false_eq_true, outR_nx, outR_rt, outR_ex, List.set_cons_succ, List.set_cons_zero, e_gT, e_gsCons, e_gsNil, e_gN, R.ofO, e_xFld, e_xProps, e_xCon, e_xDic, e_xDict, dictOf_d, Bool.not_true, Bool.not_false, o_int, o_neg, o_sub, o_add, o_gt, o_lt, o_le, o_ge, o_eqi, o_nei, o_eqb, o_neb, ixU_l, ixU_t, ixU_r, lenU_d, lenU_l, lenU_t, lenU_r, listU_N, anyU_N, anyU_l, anyU_t, dicI_N, in_dcN, in_lstN, in_tupN, dcN_len, o_tupl, o_listt, o_lastt, e1, e2, l3, small_ok (show D.ens.length ≤ 16777216 by omega), dictOf_N (ensNd o), ec, dic_same, en, l4, small_ok fl, f1]
end
end G31

set_option maxHeartbeats 2000000
namespace G31
open PySem PySem.Spec PyProof.Rows L2 LD LG
theorem e_xGen0 {c mn : Str} {spec : List DV → R (List DV)} {fo : Ev → R DV} {δ : Ev} {fs : List (Str × DV)} (h : fo δ = .ok (.obj c fs)) (hl : fs.lookup mn = none) : xGen0 c mn spec fo δ = spec [.obj c fs] := by
  unfold xGen0
  rw [h]
  dsimp only
  rw [if_pos rfl, hl]
theorem cN {n : Nat} : oNe (.int (n : Int)) (.int (n : Int)) = .ok (.bl false) := ne_same rfl
theorem vl {D : Lg} (o : LOk D) : oLenV "Log" m_Log_len [D.obj] = .ok (.int D.ens.length) := by
  have he := ensLen o
  exact oLenV_ev (fs := D.flds) (len_ok o) (by omega) (by omega)
theorem st4 {op : List DV → R DV} {D : Lg} {δ : Ev} (h2 : xVar 2 δ = .ok D.obj) (h3 : xVar 3 δ = .ok (.lst (D.ens.map DV.str))) (vl : op [D.obj] = .ok (.int D.ens.length)) :
    sIf (xTest (xOp oNe (xCB op (xCons (xVar 2) (xNil))) (xCB oLenU (xCons (xVar 3) (xNil))))) (sRet (xC (.bl false))) (sNx) δ = .nx δ := by
  simp only [e_sIf, e_xTest, e_xOp, e_xCB, e_xCons, e_xNil, h2, h3, R.bind_ok, vl, lenU_l, List.length_map, cN, e_asB, e_xS_ok, Bool.false_eq_true, if_false, e_sNx]
theorem mir_out {n p : Nat} {F : Ev → SR} {ds : List DV} (h : Nat.beq ds.length p = true) : mir n p F ds = outR (F (ds.map Sl.pu ++ List.replicate (n - p) Sl.un)) := by
  unfold mir
  rw [if_pos h]
  generalize F _ = r
  cases r <;> rfl
theorem law_D {ns : List Int} {D : Lg} (o : LOk D) (hD : m__law_log [scr ns, .int 0, .int 6] = .ok D.rows) : m_law [scr ns] = .ok (.bl true) := by
  have hm := msLen o
  have he := ensLen o
  have hf := fnsLen o
  refine (mir_out (by rfl)).trans ?_
  refine (congrArg (fun δ => outR (F_law δ)) (show _ = ([.pu (scr ns), .un, .un, .un, .un, .un, .un, .un, .un, .un, .un, .un, .un, .un, .un, .un, .un, .un, .un, .un] : Ev) from rfl)).trans ?_
  show outR (F_law [.pu (scr ns), .un, .un, .un, .un, .un, .un, .un, .un, .un, .un, .un, .un, .un, .un, .un, .un, .un, .un, .un]) = _
  have e0 : oIxU D.rows (.int 0) = .ok (.lst (D.ms.map DV.str)) := rfl
  have e1 : oIxU D.rows (.int 1) = .ok (.lst (D.ens.map D.erow)) := rfl
  have e2 : oIxU D.rows (.int 2) = .ok (.lst (D.fns.map D.frow)) := rfl
  have sl : (subs D.fns).length ≤ 64 := of_decide_eq_true (List.all_eq_true.mp subs_len _ o.fns)
  have l1 : lcD (gN 4) xYes (xOp oIxU (xVar 4) (xC (.int 0))) [.pu (scr ns), .pu D.rows, .un, .un, .un, .un, .un, .un, .un, .un, .un, .un, .un, .un, .un, .un, .un, .un, .un, .un] (D.ens.map D.erow) = .ok (D.ens.map DV.str) :=
    lcD_N fun n hn => ⟨_, rfl, rfl⟩
  have l2 : lcD (gN 5) xYes (xOp oIxU (xVar 5) (xC (.int 0))) [.pu (scr ns), .pu D.rows, .pu D.obj, .pu (.lst (D.ens.map DV.str)), .un, .un, .un, .un, .un, .un, .un, .un, .un, .un, .un, .un, .un, .un, .un, .un] (D.fns.map D.frow) = .ok (D.fns.map DV.str) :=
    lcD_N fun n hn => ⟨_, rfl, rfl⟩
  have c1 : oNe (.tup [.tup (D.ms.map DV.str), .lst (D.ens.map DV.str), .lst (D.fns.map DV.str)]) (.tup [.tup (D.ms.map DV.str), .lst (D.ens.map DV.str), .lst (D.fns.map DV.str)]) = .ok (.bl false) := ne_same (by
    show ((D.ms.map DV.str).all (cmp 6) && ((D.ens.map DV.str).all (cmp 6) && ((D.fns.map DV.str).all (cmp 6) && true))) = true
    rw [cmp_strs fun x hx => canL (mN o hx), cmp_strs fun x hx => canL (eN o hx), cmp_strs fun x hx => canL (fN o hx)]; rfl)
  have xg : xG (xGen0 "Log" "subsets" m_Log_subsets (xVar 2)) [.pu (scr ns), .pu D.rows, .pu D.obj, .pu (.lst (D.ens.map DV.str)), .un, .un, .un, .un, .un, .un, .un, .un, .un, .un, .un, .un, .un, .un, .un, .un] = .ok ((subs D.fns).map dset) := by
    unfold xG
    rw [e_xGen0 (fs := D.flds) (by rfl) (by rfl), show m_Log_subsets [.obj "Log" D.flds] = _ from subsets_ok o]; rfl
  have l3 : lcD (gN 7) xYes (xVar 7) [.pu (scr ns), .pu D.rows, .pu D.obj, .pu (.lst (D.ens.map DV.str)), .un, .un, .un, .un, .un, .un, .un, .un, .un, .un, .un, .un, .un, .un, .un, .un] ((subs D.fns).map dset) = .ok ((subs D.fns).map dset) :=
    lcD_N fun n hn => ⟨_, rfl, rfl⟩
  have c2 : oNe (.lst ((subs D.fns).map dset)) (.lst ((subs D.fns).map dset)) = .ok (.bl false) := ne_same (List.all_eq_true.mp subs_cmp _ o.fns)
  have l4 : lcD (gN 8) xYes (xTup (xCons (xProps ["Event"] m_Event_machine (xMeth "Log" "__getitem__" m_Log_getitem (xVar 2) (xCons (xVar 8) xNil))) (xCons (xProps ["Event"] m_Event_time (xMeth "Log" "__getitem__" m_Log_getitem (xVar 2) (xCons (xVar 8) xNil))) (xNil)))) (r20 ns D .un .un .un .un .un .un .un .un .un .un .un .un .un .un .un) (D.ens.map DV.str) = .ok (D.ens.map fun n => .tup [.str (D.hst n), .int (D.clk n)]) :=
    lcD_N fun n hn => ⟨r20 ns D .un .un .un (.pu (.str n)) .un .un .un .un .un .un .un .un .un .un .un, rfl, by
      have q : xMeth "Log" "__getitem__" m_Log_getitem (xVar 2) (xCons (xVar 8) xNil) (r20 ns D .un .un .un (.pu (.str n)) .un .un .un .un .un .un .un .un .un .un .un) = .ok (D.eobj n) := by
        rw [e_xMeth (fs := D.flds) (by rfl) (by rfl)]
        simp only [e_sSeq, e_sIf, e_sSet, e_sPar, e_sAsg, e_sRaise, e_sFor, e_sFz, e_sDrop, e_sSetLc, e_xTest, e_xOp, e_xUn, e_xCB, e_xCall, e_xCons, e_xNil, e_xIf, e_xAnd, e_xOr, e_xNot, e_xAndV, e_xOrV, e_xNotV, e_xChain, e_xIsi, e_xSl, e_xPart, e_xNo, e_xSrc, e_xIt, e_xYes, e_lc, e_lcs, e_wn, e_wc, e_asI, e_v0, e_v1, e_v2, e_v3, e_v4, e_v5, e_v6, e_v7, e_v8, e_v9, e_vs, e_xC, R.bind_ok, R.bind_exc, e_asB, e_xS_ok, e_xS_exc, e_sNx, e_nx, e_rt, e_ex, e_sRet, e_xTup, e_xLst, small_ok, List.length_cons, List.length_nil, List.length_map, Nat.reduceAdd, Nat.reduceLeDiff, Nat.zero_le, if_true, if_false, Bool.false_eq_true, outR_nx, outR_rt, outR_ex, List.set_cons_succ, List.set_cons_zero, e_gT, e_gsCons, e_gsNil, e_gN, R.ofO, e_xFld, e_xProps, e_xCon, e_xDic, e_xDict, dictOf_d, Bool.not_true, Bool.not_false]
        exact getitem_ok o hn
      simp only [e_xTup, e_xCons, e_xNil, e_xProps, q, R.bind_ok, ev_mach o, ev_time o]
      rfl⟩
  have l5 : lcD (gN 4) xYes (xSl (xVar 4) (xPart (xC (.int 1))) (xNo)) (r20 ns D .un .un .un .un .un .un .un .un .un .un .un .un .un .un .un) (D.ens.map D.erow) = .ok (D.ens.map fun n => .tup [.str (D.hst n), .int (D.clk n)]) :=
    lcD_N fun n hn => ⟨_, rfl, rfl⟩
  have c3 : oNe (.lst (D.ens.map fun n => .tup [.str (D.hst n), .int (D.clk n)])) (.lst (D.ens.map fun n => .tup [.str (D.hst n), .int (D.clk n)])) = .ok (.bl false) := ne_same (by
    show (D.ens.map fun n => DV.tup [.str (D.hst n), .int (D.clk n)]).all (cmp 7) = true
    rw [List.all_map, List.all_eq_true]
    intro n hn
    show (PyData.canLay0 (.str (D.hst n)) && (true && true)) = true
    rw [canL (mN o (o.ev n hn).1)]; rfl)
  obtain ⟨δ1, f1, u5, u9, rfl⟩ := forD_N (g := gN 5) (F := B_law_1) (xs := D.fns) (e := D.frow)
    (fun δ => ∃ s5 s9, δ = r20 ns D .un s5 .un .un s9 .un .un .un .un .un .un .un .un .un .un)
    (by
      rintro n hn _ ⟨s5, s9, rfl⟩
      exact ⟨_, _, rfl, t_fact o hn, .pu (D.frow n), .pu (D.fobj n), rfl⟩) _ ⟨.un, .un, rfl⟩
  obtain ⟨δ2, f2, t4, t5, t7, t8, t9, t10, t11, t12, t13, t14, t15, t16, t17, t18, t19, rfl⟩ := forD_N (g := gN 10) (F := B_law_3) (xs := List.range 6) (e := fun i : Nat => DV.int (0 + (i : Int)))
    (fun δ => ∃ s4 s5 s7 s8 s9 s10 s11 s12 s13 s14 s15 s16 s17 s18 s19, δ = r20 ns D s4 s5 s7 s8 s9 s10 s11 s12 s13 s14 s15 s16 s17 s18 s19)
    (by
      rintro t ht _ ⟨s4, s5, s7, s8, s9, s10, s11, s12, s13, s14, s15, s16, s17, s18, s19, rfl⟩
      obtain ⟨t4, t5, t7, t8, t9, t11, t12, t13, t14, t15, t16, t17, t18, t19, e⟩ := t_turn o (ns := ns) (List.mem_range.mp ht) (s4 := s4) (s5 := s5) (s7 := s7) (s8 := s8) (s9 := s9) (s11 := s11) (s12 := s12) (s13 := s13) (s14 := s14) (s15 := s15) (s16 := s16) (s17 := s17) (s18 := s18) (s19 := s19)
      exact ⟨_, _, rfl, e, t4, t5, t7, t8, t9, .pu (.int (0 + (t : Int))), t11, t12, t13, t14, t15, t16, t17, t18, t19, rfl⟩) _ ⟨_, _, _, _, _, _, _, _, _, _, _, _, _, _, _, rfl⟩
  have f2 : forD (gN 10) B_law_3 (intsFrom 0 6) (r20 ns D .un u5 .un .un u9 .un .un .un .un .un .un .un .un .un .un) = _ := f2
  have er : asRange1 [.int 6] = .ok (intsFrom 0 6) := rfl
  have ei : oInV true "Log" m_Log_contains (.str "nosuch") D.obj = .ok (.bl true) := by
    rw [show D.obj = .obj "Log" D.flds from rfl, oInV_ev (b := false) (by rw [← show D.obj = .obj "Log" D.flds from rfl, contains_ok o, decide_eq_false (nosuch o)])]
    rfl
  unfold F_law
  refine seq_out (δ' := [.pu (scr ns), .pu D.rows, .un, .un, .un, .un, .un, .un, .un, .un, .un, .un, .un, .un, .un, .un, .un, .un, .un, .un]) ?_ ?_
  · simp only [e_sSeq, e_sIf, e_sSet, e_sPar, e_sAsg, e_sRaise, e_sFor, e_sFz, e_sDrop, e_sSetLc, e_xTest, e_xOp, e_xUn, e_xCB, e_xCall, e_xCons, e_xNil, e_xIf, e_xAnd, e_xOr, e_xNot, e_xAndV, e_xOrV, e_xNotV, e_xChain, e_xIsi, e_xSl, e_xPart, e_xNo, e_xSrc, e_xIt, e_xYes, e_lc, e_lcs, e_wn, e_wc, e_asI, e_v0, e_v1, e_v2, e_v3, e_v4, e_v5, e_v6, e_v7, e_v8, e_v9, e_vs, e_xC, R.bind_ok, R.bind_exc, e_asB, e_xS_ok, e_xS_exc, e_sNx, e_nx, e_rt, e_ex, e_sRet, e_xTup, e_xLst, small_ok, List.length_cons, List.length_nil, List.length_map, Nat.reduceAdd, Nat.reduceLeDiff, Nat.zero_le, if_true, if_false, Bool.false_eq_true, outR_nx, outR_rt, outR_ex, List.set_cons_succ, List.set_cons_zero, e_gT, e_gsCons, e_gsNil, e_gN, R.ofO, e_xFld, e_xProps, e_xCon, e_xDic, e_xDict, dictOf_d, Bool.not_true, Bool.not_false, hD]
  refine seq_out (δ' := [.pu (scr ns), .pu D.rows, .pu D.obj, .pu (.lst (D.ens.map DV.str)), .un, .un, .un, .un, .un, .un, .un, .un, .un, .un, .un, .un, .un, .un, .un, .un]) ?_ ?_
  · simp only [e_sSeq, e_sIf, e_sSet, e_sPar, e_sAsg, e_sRaise, e_sFor, e_sFz, e_sDrop, e_sSetLc, e_xTest, e_xOp, e_xUn, e_xCB, e_xCall, e_xCons, e_xNil, e_xIf, e_xAnd, e_xOr, e_xNot, e_xAndV, e_xOrV, e_xNotV, e_xChain, e_xIsi, e_xSl, e_xPart, e_xNo, e_xSrc, e_xIt, e_xYes, e_lc, e_lcs, e_wn, e_wc, e_asI, e_v0, e_v1, e_v2, e_v3, e_v4, e_v5, e_v6, e_v7, e_v8, e_v9, e_vs, e_xC, R.bind_ok, R.bind_exc, e_asB, e_xS_ok, e_xS_exc, e_sNx, e_nx, e_rt, e_ex, e_sRet, e_xTup, e_xLst, small_ok, List.length_cons, List.length_nil, List.length_map, Nat.reduceAdd, Nat.reduceLeDiff, Nat.zero_le, if_true, if_false, Bool.false_eq_true, outR_nx, outR_rt, outR_ex, List.set_cons_succ, List.set_cons_zero, e_gT, e_gsCons, e_gsNil, e_gN, R.ofO, e_xFld, e_xProps, e_xCon, e_xDic, e_xDict, dictOf_d, Bool.not_true, Bool.not_false, o_int, o_neg, o_sub, o_add, o_gt, o_lt, o_le, o_ge, o_eqi, o_nei, o_eqb, o_neb, ixU_l, ixU_t, ixU_r, lenU_d, lenU_l, lenU_t, lenU_r, listU_N, anyU_N, anyU_l, anyU_t, dicI_N, in_dcN, in_lstN, in_tupN, dcN_len, o_tupl, o_listt, o_lastt, whole_ok o, e1, l1, small_ok (show D.ens.length ≤ 16777216 by omega), show Nat.beq 2 2 = true from rfl]
  refine seq_out (δ' := [.pu (scr ns), .pu D.rows, .pu D.obj, .pu (.lst (D.ens.map DV.str)), .un, .un, .un, .un, .un, .un, .un, .un, .un, .un, .un, .un, .un, .un, .un, .un]) ?_ ?_
  · simp only [e_sSeq, e_sIf, e_sSet, e_sPar, e_sAsg, e_sRaise, e_sFor, e_sFz, e_sDrop, e_sSetLc, e_xTest, e_xOp, e_xUn, e_xCB, e_xCall, e_xCons, e_xNil, e_xIf, e_xAnd, e_xOr, e_xNot, e_xAndV, e_xOrV, e_xNotV, e_xChain, e_xIsi, e_xSl, e_xPart, e_xNo, e_xSrc, e_xIt, e_xYes, e_lc, e_lcs, e_wn, e_wc, e_asI, e_v0, e_v1, e_v2, e_v3, e_v4, e_v5, e_v6, e_v7, e_v8, e_v9, e_vs, e_xC, R.bind_ok, R.bind_exc, e_asB, e_xS_ok, e_xS_exc, e_sNx, e_nx, e_rt, e_ex, e_sRet, e_xTup, e_xLst, small_ok, List.length_cons, List.length_nil, List.length_map, Nat.reduceAdd, Nat.reduceLeDiff, Nat.zero_le, if_true, if_false, Bool.false_eq_true, outR_nx, outR_rt, outR_ex, List.set_cons_succ, List.set_cons_zero, e_gT, e_gsCons, e_gsNil, e_gN, R.ofO, e_xFld, e_xProps, e_xCon, e_xDic, e_xDict, dictOf_d, Bool.not_true, Bool.not_false, o_int, o_neg, o_sub, o_add, o_gt, o_lt, o_le, o_ge, o_eqi, o_nei, o_eqb, o_neb, ixU_l, ixU_t, ixU_r, lenU_d, lenU_l, lenU_t, lenU_r, listU_N, anyU_N, anyU_l, anyU_t, dicI_N, in_dcN, in_lstN, in_tupN, dcN_len, o_tupl, o_listt, o_lastt, machines_ok o, events_ok o, facts_ok o, e0, e2, l2, small_ok (show D.fns.length ≤ 16777216 by omega), c1]
  refine seq_out (δ' := [.pu (scr ns), .pu D.rows, .pu D.obj, .pu (.lst (D.ens.map DV.str)), .un, .un, .un, .un, .un, .un, .un, .un, .un, .un, .un, .un, .un, .un, .un, .un]) ?_ ?_
  · exact st4 rfl rfl (vl o)
  refine seq_out (δ' := r20 ns D .un .un .un .un .un .un .un .un .un .un .un .un .un .un .un) ?_ ?_
  · simp only [e_sSeq, e_sIf, e_sSet, e_sPar, e_sAsg, e_sRaise, e_sFor, e_sFz, e_sDrop, e_sSetLc, e_xTest, e_xOp, e_xUn, e_xCB, e_xCall, e_xCons, e_xNil, e_xIf, e_xAnd, e_xOr, e_xNot, e_xAndV, e_xOrV, e_xNotV, e_xChain, e_xIsi, e_xSl, e_xPart, e_xNo, e_xSrc, e_xIt, e_xYes, e_lc, e_lcs, e_wn, e_wc, e_asI, e_v0, e_v1, e_v2, e_v3, e_v4, e_v5, e_v6, e_v7, e_v8, e_v9, e_vs, e_xC, R.bind_ok, R.bind_exc, e_asB, e_xS_ok, e_xS_exc, e_sNx, e_nx, e_rt, e_ex, e_sRet, e_xTup, e_xLst, small_ok, List.length_cons, List.length_nil, List.length_map, Nat.reduceAdd, Nat.reduceLeDiff, Nat.zero_le, if_true, if_false, Bool.false_eq_true, outR_nx, outR_rt, outR_ex, List.set_cons_succ, List.set_cons_zero, e_gT, e_gsCons, e_gsNil, e_gN, R.ofO, e_xFld, e_xProps, e_xCon, e_xDic, e_xDict, dictOf_d, Bool.not_true, Bool.not_false, o_int, o_neg, o_sub, o_add, o_gt, o_lt, o_le, o_ge, o_eqi, o_nei, o_eqb, o_neb, ixU_l, ixU_t, ixU_r, lenU_d, lenU_l, lenU_t, lenU_r, listU_N, anyU_N, anyU_l, anyU_t, dicI_N, in_dcN, in_lstN, in_tupN, dcN_len, o_tupl, o_listt, o_lastt, xg, l3, small_ok (show (subs D.fns).length ≤ 16777216 by omega)]
  refine seq_out (δ' := r20 ns D .un .un .un .un .un .un .un .un .un .un .un .un .un .un .un) ?_ ?_
  · simp only [e_sSeq, e_sIf, e_sSet, e_sPar, e_sAsg, e_sRaise, e_sFor, e_sFz, e_sDrop, e_sSetLc, e_xTest, e_xOp, e_xUn, e_xCB, e_xCall, e_xCons, e_xNil, e_xIf, e_xAnd, e_xOr, e_xNot, e_xAndV, e_xOrV, e_xNotV, e_xChain, e_xIsi, e_xSl, e_xPart, e_xNo, e_xSrc, e_xIt, e_xYes, e_lc, e_lcs, e_wn, e_wc, e_asI, e_v0, e_v1, e_v2, e_v3, e_v4, e_v5, e_v6, e_v7, e_v8, e_v9, e_vs, e_xC, R.bind_ok, R.bind_exc, e_asB, e_xS_ok, e_xS_exc, e_sNx, e_nx, e_rt, e_ex, e_sRet, e_xTup, e_xLst, small_ok, List.length_cons, List.length_nil, List.length_map, Nat.reduceAdd, Nat.reduceLeDiff, Nat.zero_le, if_true, if_false, Bool.false_eq_true, outR_nx, outR_rt, outR_ex, List.set_cons_succ, List.set_cons_zero, e_gT, e_gsCons, e_gsNil, e_gN, R.ofO, e_xFld, e_xProps, e_xCon, e_xDic, e_xDict, dictOf_d, Bool.not_true, Bool.not_false, o_int, o_neg, o_sub, o_add, o_gt, o_lt, o_le, o_ge, o_eqi, o_nei, o_eqb, o_neb, ixU_l, ixU_t, ixU_r, lenU_d, lenU_l, lenU_t, lenU_r, listU_N, anyU_N, anyU_l, anyU_t, dicI_N, in_dcN, in_lstN, in_tupN, dcN_len, o_tupl, o_listt, o_lastt, law_sets_ok o, c2]
  refine seq_out (δ' := r20 ns D .un .un .un .un .un .un .un .un .un .un .un .un .un .un .un) ?_ ?_
  · simp only [e_sIf, e_xTest, e_xOp, e_lc, e_lcs, e_xSrc, e_v3, e_v0, e_v1, e_xC, R.bind_ok, anyU_l, e_wc, e_wn, List.set_cons_succ, List.set_cons_zero, l4, e1, l5, List.length_map, small_ok (show D.ens.length ≤ 16777216 by omega), if_true, c3, e_asB, e_xS_ok, Bool.false_eq_true, if_false, e_sNx]
  refine seq_out (δ' := r20 ns D .un u5 .un .un u9 .un .un .un .un .un .un .un .un .un .un) ?_ ?_
  · simp only [e_sFor, e_xSrc, e_xOp, e_v1, e_v0, e_xC, R.bind_ok, e2, anyU_l, e_xS_ok, f1]
  refine seq_out (δ' := r20 ns D t4 t5 t7 t8 t9 t10 t11 t12 t13 t14 t15 t16 t17 t18 t19) ?_ ?_
  · simp only [e_sFor, e_xIt, e_xCons, e_xNil, e_xC, R.bind_ok, er, e_xS_ok, f2]
  simp only [e_sSeq, e_sIf, e_sSet, e_sPar, e_sAsg, e_sRaise, e_sFor, e_sFz, e_sDrop, e_sSetLc, e_xTest, e_xOp, e_xUn, e_xCB, e_xCall, e_xCons, e_xNil, e_xIf, e_xAnd, e_xOr, e_xNot, e_xAndV, e_xOrV, e_xNotV, e_xChain, e_xIsi, e_xSl, e_xPart, e_xNo, e_xSrc, e_xIt, e_xYes, e_lc, e_lcs, e_wn, e_wc, e_asI, e_v0, e_v1, e_v2, e_v3, e_v4, e_v5, e_v6, e_v7, e_v8, e_v9, e_vs, e_xC, R.bind_ok, R.bind_exc, e_asB, e_xS_ok, e_xS_exc, e_sNx, e_nx, e_rt, e_ex, e_sRet, e_xTup, e_xLst, small_ok, List.length_cons, List.length_nil, List.length_map, Nat.reduceAdd, Nat.reduceLeDiff, Nat.zero_le, if_true, if_false, Bool.false_eq_true, outR_nx, outR_rt, outR_ex, List.set_cons_succ, List.set_cons_zero, e_gT, e_gsCons, e_gsNil, e_gN, R.ofO, e_xFld, e_xProps, e_xCon, e_xDic, e_xDict, dictOf_d, Bool.not_true, Bool.not_false, o_int, o_neg, o_sub, o_add, o_gt, o_lt, o_le, o_ge, o_eqi, o_nei, o_eqb, o_neb, ixU_l, ixU_t, ixU_r, lenU_d, lenU_l, lenU_t, lenU_r, listU_N, anyU_N, anyU_l, anyU_t, dicI_N, in_dcN, in_lstN, in_tupN, dcN_len, o_tupl, o_listt, o_lastt, ei]
theorem law_ok (ns : List Int) : m_law [.ro (ns.map DV.int)] = .ok (.bl true) := law_D (mk_ok ns) log_ok
end G31

set_option maxHeartbeats 0
namespace G31
open PySem PySem.Spec PyProof.Rows L2 LD
def looseN : List Str := [("TimeError" : Str), ("InvalidEvent" : Str), ("InvalidFact" : Str), ("InvalidLog" : Str), ("InvalidName" : Str), ("InvalidSet" : Str), ("LETTERS" : Str), ("MAX_NAME" : Str), ("MAX_TIME" : Str), ("MAX_MACHINES" : Str), ("MAX_EVENTS" : Str), ("MAX_FACTS" : Str), ("is_integer" : Str), ("is_whole" : Str), ("is_name" : Str), ("Event" : Str), ("Fact" : Str), ("After" : Str), ("Within" : Str), ("Close" : Str), ("are_names" : Str), ("is_event_of" : Str), ("is_fact_of" : Str), ("Log" : Str), ("longer" : Str), ("check_log" : Str), ("check_fact" : Str), ("check_set" : Str), ("are_offsets" : Str), ("check_offsets" : Str), ("times_of" : Str), ("rows_of" : Str), ("are_fitting" : Str), ("fits" : Str), ("_law_cell_at" : Str), ("_law_log" : Str), ("_law_fact" : Str), ("_law_whole" : Str), ("_law_sets" : Str), ("_law_is_true" : Str)]
abbrev R : PySem.W.OpenRow := PySem.W.OpenLaw.row PySem.Challenge.rw_surelater_k31_whole_logs
abbrev hk : PySem.W.Hook := hookL PP 6 fa fn
def ob (s : PySem.W.SharedT) : AlL := obsLG PP 6 fa fn (HandSHeadRun.getT s)
theorem ob_eq (s : PySem.W.SharedT) : ob s = hk.obs s.abs := obsLG_eq (HandSHeadRun.getT_eq s)
theorem run (w : World) : HandSHeadRun.RunEq R (PySem.W.view R.prog [43]) hk ob 40000 looseN w := by
  intro os
  kernel_rfl
end G31

set_option maxHeartbeats 0
open PySem PySem.W PySem.Calls PyProof.Rows
theorem PySem.Challenge.cw_surelater_k31_whole_logs_holds : PySem.Challenge.rw_surelater_k31_whole_logs.Holds := by
  w_on; o_law
  refine HandSHeadRun.head_any (r := OpenLaw.row PySem.Challenge.rw_surelater_k31_whole_logs) (q := view (OpenLaw.row PySem.Challenge.rw_surelater_k31_whole_logs).prog [43]) (H := G31.hk) (ob := G31.ob) (M := 40000) (loose := G31.looseN) (d := HandSHeadRun.topDef (OpenLaw.row PySem.Challenge.rw_surelater_k31_whole_logs).prog 43) (kwd := []) G31.ob_eq
    (by kernel_rfl) (fun s => by kernel_rfl) G31.run (by kernel_rfl) (by kernel_rfl) (by kernel_rfl) (by rfl) (by first | assumption | decide +kernel) (by decide +kernel) ⟨rfl, rfl, rfl, rfl, rfl, by decide +kernel⟩ ?hw ?hc
  case hw => w_witness2
  case hc =>
    refine L2.walk_ofE (l := PySem.Challenge.rw_surelater_k31_whole_logs) (n := 63) (k := 9) (x := "_law_script") (CX := L2.CX0) rfl (by decide) (by kernel_rfl) ⟨rfl, by decide, by decide⟩ ?F (fun _ _ _ _ z => z)
    exact LD.law_F (l := PySem.Challenge.rw_surelater_k31_whole_logs) (fa := G31.fa) (fn := G31.fn) (i := G31.lawFact) (m := G31.m_law) (by rfl) (fun x => G31.ok_law x) (fun ns _ => G31.law_ok ns) (by kernel_rfl)
