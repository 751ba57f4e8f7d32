import PyProof.Rows.All
import Wide.All
import OpenK.AllK
import Wide.FinOn
import HandS.ForMost
import HandS.Walk
import HandS.Flow
import HandS.IsInst
import HandS.Conv
import HandS.TupAny
import HandS.CallSlots
import HandS.WordsExc
import HandS.Wide
import HandS.Deep
import HandS.RaiseMore
import HandS.Defaults
import HandS.More
import HandS.HeadEnd
import HandS.HeadHook4
import HandS.Head2
import PySem.Challenge.RW_handlesagain_k01_rows
set_option Elab.async false
set_option linter.all false
set_option maxRecDepth 100000
set_option maxHeartbeats 4000000
/-! Sm: a plain reading of the program: values that are trees, a heap that is a list, and how HandS's readings follow it. -/
namespace Sm
open PySem L2

/-- a value: trees, but for what is shared and changes (ref). lst: a list that was just made and that nothing else holds; rol: a list that is only read; obj: an instance that is no more changed -/
inductive A where
  | non | bl (b : Bool) | int (i : Int) | str (s : Str) | tup (xs : List A) | obj (c : Str) (xs : List A) | rol (xs : List A) | lst (xs : List A) | ref (n : Nat)
instance : Inhabited A := ⟨.non⟩
/-- what changes -/
inductive O where
  | lst (xs : List A)
  | dct (kvs : List (A × A))
  | ins (c : Str) (fs : List (Str × A))
abbrev Hs := List O
abbrev En := List (Option A)

/-- an answer -/
inductive R (α : Type) where
  | ok (v : α) (h : Hs)
  | exc (c : Str) (xs : List A) (h : Hs)
  | stuck
def R.bind {α β : Type} (r : R α) (f : α → Hs → R β) : R β := match r with
  | .ok v h => f v h
  | .exc c xs h => .exc c xs h
  | .stuck => .stuck
theorem R.bind_ok {α β : Type} (v : α) (h : Hs) (f : α → Hs → R β) : (R.ok v h).bind f = f v h := rfl
theorem R.bind_exc {α β : Type} (c : Str) (xs : List A) (h : Hs) (f : α → Hs → R β) : (R.exc c xs h : R α).bind f = .exc c xs h := rfl
theorem R.bind_stuck {α β : Type} (f : α → Hs → R β) : (R.stuck : R α).bind f = .stuck := rfl

/-- the names: the written part, where a class stands, its attributes in order -/
structure Cn where
  K : PySem.W.Frag
  cls : Str → Addr
  fn : Str → List Str

/-- a list that is only read: one that is locked, or one of the written part -/
def RoL (K : PySem.W.Frag) (H : Hp) (p : Addr) (vs : List V) : Prop := (∃ o, H p = some (.frz o (.lst vs))) ∨
  ∃ (o : Obj) (its : Array Value) (n : Nat), K.lookup p = some o ∧ o.cls = .type "list" ∧ o.dict = none ∧ o.data = .seq its n ∧ its.size ≤ sizeLine ∧ Vals vs its.toList
theorem RoL.sq {K : PySem.W.Frag} {H : Hp} {p : Addr} {vs : List V} (h : RoL K H p vs) : SqL K H p vs := by
  rcases h with ⟨o, h⟩ | h
  · exact .inl (.inr ⟨o, h⟩)
  · exact .inr h
mutual
inductive VR (G : Cn) (r : Nat → Addr) (n : Nat) (H : Hp) : A → V → Prop
  | non : VR G r n H .non .non
  | bl (b : Bool) : VR G r n H (.bl b) (.bl b)
  | int (i : Int) : VR G r n H (.int i) (.int i)
  | str (x : Str) : VR G r n H (.str x) (.str x)
  | tup {p : Addr} {vs : List V} {xs : List A} : SqT G.K H p vs → VRs G r n H xs vs → VR G r n H (.tup xs) (.ref p)
  | rol {p : Addr} {vs : List V} {xs : List A} : RoL G.K H p vs → VRs G r n H xs vs → VR G r n H (.rol xs) (.ref p)
  | obj {p dx : Addr} {vs : List V} {c : Str} {xs : List A} : (∀ i, i < n → r i ≠ p) → H p = some (.ins (G.cls c) dx ((G.fn c).zip vs)) → vs.length = (G.fn c).length → VRs G r n H xs vs → VR G r n H (.obj c xs) (.ref p)
  | ref {i : Nat} : i < n → VR G r n H (.ref i) (.ref (r i))
inductive VRs (G : Cn) (r : Nat → Addr) (n : Nat) (H : Hp) : List A → List V → Prop
  | nil : VRs G r n H [] []
  | cons {x : A} {v : V} {xs : List A} {vs : List V} : VR G r n H x v → VRs G r n H xs vs → VRs G r n H (x :: xs) (v :: vs)
end

def keyA : Key → A
  | .inl i => .int i
  | .inr x => .str x
/-- the pairs of a dict -/
inductive KR (G : Cn) (r : Nat → Addr) (n : Nat) (H : Hp) : List (A × A) → List (Key × V) → Prop
  | nil : KR G r n H [] []
  | cons {k : Key} {x : A} {v : V} {xs : List (A × A)} {vs : List (Key × V)} : VR G r n H x v → KR G r n H xs vs → KR G r n H ((keyA k, x) :: xs) ((k, v) :: vs)
/-- the attributes of an instance -/
inductive FR (G : Cn) (r : Nat → Addr) (n : Nat) (H : Hp) : List (Str × A) → List (Str × V) → Prop
  | nil : FR G r n H [] []
  | cons {k : Str} {x : A} {v : V} {xs : List (Str × A)} {vs : List (Str × V)} : VR G r n H x v → FR G r n H xs vs → FR G r n H ((k, x) :: xs) ((k, v) :: vs)

def OR (G : Cn) (r : Nat → Addr) (n : Nat) (H : Hp) (p : Addr) : O → Prop
  | .lst xs => ∃ vs, H p = some (.lst vs) ∧ VRs G r n H xs vs
  | .dct kvs => ∃ ks, H p = some (.dK ks) ∧ KR G r n H kvs ks
  | .ins c fs => ∃ dx gs, H p = some (.ins (G.cls c) dx gs) ∧ FR G r n H fs gs
/-- the heap is so -/
structure HR (G : Cn) (r : Nat → Addr) (h : Hs) (H : Hp) : Prop where
  inj : ∀ i j, i < h.length → j < h.length → r i = r j → i = j
  ob : ∀ i o, h[i]? = some o → OR G r h.length H (r i) o
/-- what comes later -/
structure Fw (r : Nat → Addr) (n : Nat) (H : Hp) (r' : Nat → Addr) (n' : Nat) (H' : Hp) : Prop where
  le : n ≤ n'
  old : ∀ i, i < n → r' i = r i
  new : ∀ i, n ≤ i → i < n' → H (r' i) = none
  keep : ∀ p o, H p = some o → (∀ i, i < n → r i ≠ p) → H' p = some o
  trk : ∀ p, H' p = none → H p = none

theorem Fw.refl {r : Nat → Addr} {n : Nat} {H : Hp} : Fw r n H r n H := ⟨Nat.le_refl _, fun _ _ => rfl, fun i a b => absurd (Nat.lt_of_lt_of_le b a) (Nat.lt_irrefl _), fun _ _ e _ => e, fun _ e => e⟩
theorem Fw.un {r r' : Nat → Addr} {n n' : Nat} {H H' : Hp} (f : Fw r n H r' n' H') {p : Addr} {o : HO} (hp : H p = some o) (hu : ∀ i, i < n → r i ≠ p) : ∀ i, i < n' → r' i ≠ p := fun i hi e => by
  by_cases h : i < n
  · exact hu i h ((f.old i h).symm.trans e)
  · have q := f.new i (Nat.le_of_not_lt h) hi
    rw [e, hp] at q
    cases q
theorem Fw.trans {r r1 r2 : Nat → Addr} {n n1 n2 : Nat} {H H1 H2 : Hp} (f : Fw r n H r1 n1 H1) (g : Fw r1 n1 H1 r2 n2 H2) : Fw r n H r2 n2 H2 where
  le := Nat.le_trans f.le g.le
  old := fun i hi => (g.old i (Nat.lt_of_lt_of_le hi f.le)).trans (f.old i hi)
  new := fun i h1 h2 => by
    by_cases h : i < n1
    · rw [g.old i h]
      exact f.new i h1 h
    · exact f.trk _ (g.new i (Nat.le_of_not_lt h) h2)
  keep := fun p o e hu => g.keep p o (f.keep p o e hu) (f.un e hu)
  trk := fun p e => f.trk p (g.trk p e)
/-- a new thing that no index has -/
theorem Fw.laid {r : Nat → Addr} {n : Nat} {H : Hp} {p : Addr} {o : HO} (hp : H p = none) : Fw r n H r n (upd H p o) where
  le := Nat.le_refl _
  old := fun _ _ => rfl
  new := fun i a b => absurd (Nat.lt_of_lt_of_le b a) (Nat.lt_irrefl _)
  keep := fun q u e _ => by rw [upd_ne (ne_of_none e hp)]; exact e
  trk := fun q e => by
    by_cases z : q = p
    · rw [z]; exact hp
    · rw [upd_ne z] at e; exact e
/-- what an index has changes -/
theorem Fw.put {r : Nat → Addr} {n i : Nat} {H : Hp} {o : HO} (hi : i < n) : Fw r n H r n (upd H (r i) o) where
  le := Nat.le_refl _
  old := fun _ _ => rfl
  new := fun i a b => absurd (Nat.lt_of_lt_of_le b a) (Nat.lt_irrefl _)
  keep := fun q u e hu => by rw [upd_ne (fun z => hu i hi z.symm)]; exact e
  trk := fun q e => by
    by_cases z : q = r i
    · rw [z, upd_same] at e; cases e
    · rw [upd_ne z] at e; exact e

/-- what the indices have can change -/
def Mm (r : Nat → Addr) (n : Nat) (H : Hp) : Prop := ∀ i, i < n → Mut (H (r i))
theorem OR.mut {G : Cn} {r : Nat → Addr} {n : Nat} {H : Hp} {p : Addr} : ∀ {o : O}, OR G r n H p o → Mut (H p)
  | .lst _, ⟨_, e, _⟩ => by rw [e]; exact True.intro
  | .dct _, ⟨_, e, _⟩ => by rw [e]; exact True.intro
  | .ins _ _, ⟨_, _, e, _⟩ => by rw [e]; exact True.intro
theorem HR.mm {G : Cn} {r : Nat → Addr} {h : Hs} {H : Hp} (q : HR G r h H) : Mm r h.length H := fun i hi => (q.ob i h[i] (List.getElem?_eq_getElem hi)).mut
theorem Mm.ne {r : Nat → Addr} {n : Nat} {H : Hp} (m : Mm r n H) {p : Addr} {o : HO} (hp : H p = some o) (ho : ¬ Mut (some o)) : ∀ i, i < n → r i ≠ p := fun i hi e => by
  have q := m i hi
  rw [e, hp] at q
  exact ho q
theorem Fw.sqT {K : PySem.W.Frag} {r r' : Nat → Addr} {n n' : Nat} {H H' : Hp} (f : Fw r n H r' n' H') (m : Mm r n H) {p : Addr} {vs : List V} (h : SqT K H p vs) : SqT K H' p vs := by
  rcases h with (h | ⟨o, h⟩) | h
  · exact .inl (.inl (f.keep _ _ h (m.ne h fun z => z)))
  · exact .inl (.inr ⟨o, f.keep _ _ h (m.ne h fun z => z)⟩)
  · exact .inr h
theorem Fw.sqL {K : PySem.W.Frag} {r r' : Nat → Addr} {n n' : Nat} {H H' : Hp} (f : Fw r n H r' n' H') {p : Addr} {vs : List V} (hu : ∀ i, i < n → r i ≠ p) (h : SqL K H p vs) : SqL K H' p vs := by
  rcases h with (h | ⟨o, h⟩) | h
  · exact .inl (.inl (f.keep _ _ h hu))
  · exact .inl (.inr ⟨o, f.keep _ _ h hu⟩)
  · exact .inr h

theorem RoL.fw {K : PySem.W.Frag} {r r' : Nat → Addr} {n n' : Nat} {H H' : Hp} {p : Addr} {vs : List V} (h : RoL K H p vs) (m : Mm r n H) (f : Fw r n H r' n' H') : RoL K H' p vs := h.elim (fun ⟨o, h⟩ => .inl ⟨o, f.keep _ _ h (m.ne h fun z => z)⟩) .inr
section
variable {G : Cn} {r r' : Nat → Addr} {n n' : Nat} {H H' : Hp}
mutual
theorem VR.fw (m : Mm r n H) (f : Fw r n H r' n' H') : ∀ {x : A} {v : V}, VR G r n H x v → VR G r' n' H' x v
  | _, _, .non => .non
  | _, _, .bl b => .bl b
  | _, _, .int i => .int i
  | _, _, .str x => .str x
  | _, _, .tup h t => .tup (f.sqT m h) (VRs.fw m f t)
  | _, _, .rol h t => .rol (h.fw m f) (VRs.fw m f t)
  | _, _, .obj hu h l t => .obj (f.un h hu) (f.keep _ _ h hu) l (VRs.fw m f t)
  | _, _, .ref hi => by
    have e := f.old _ hi
    rw [← e]
    exact .ref (Nat.lt_of_lt_of_le hi f.le)
theorem VRs.fw (m : Mm r n H) (f : Fw r n H r' n' H') : ∀ {xs : List A} {vs : List V}, VRs G r n H xs vs → VRs G r' n' H' xs vs
  | _, _, .nil => .nil
  | _, _, .cons a b => .cons (VR.fw m f a) (VRs.fw m f b)
end
theorem KR.fw (m : Mm r n H) (f : Fw r n H r' n' H') : ∀ {xs : List (A × A)} {vs : List (Key × V)}, KR G r n H xs vs → KR G r' n' H' xs vs
  | _, _, .nil => .nil
  | _, _, .cons a b => .cons (a.fw m f) (KR.fw m f b)
theorem FR.fw (m : Mm r n H) (f : Fw r n H r' n' H') : ∀ {xs : List (Str × A)} {vs : List (Str × V)}, FR G r n H xs vs → FR G r' n' H' xs vs
  | _, _, .nil => .nil
  | _, _, .cons a b => .cons (a.fw m f) (FR.fw m f b)
theorem VRs.length : ∀ {xs : List A} {vs : List V}, VRs G r n H xs vs → xs.length = vs.length
  | _, _, .nil => rfl
  | _, _, .cons _ b => congrArg Nat.succ (VRs.length b)
theorem VRs.append : ∀ {xs ys : List A} {vs ws : List V}, VRs G r n H xs vs → VRs G r n H ys ws → VRs G r n H (xs ++ ys) (vs ++ ws)
  | _, _, _, _, .nil, q => q
  | _, _, _, _, .cons a b, q => .cons a (VRs.append b q)
theorem VRs.get : ∀ {xs : List A} {vs : List V} {i : Nat} {x : A}, VRs G r n H xs vs → xs[i]? = some x → ∃ v, vs[i]? = some v ∧ VR G r n H x v
  | _, _, _, _, .nil, e => by simp at e
  | _, _, 0, _, .cons a _, e => by simp at e; subst e; exact ⟨_, rfl, a⟩
  | _, _, i + 1, x, .cons _ b, e => by
    obtain ⟨v, h1, h2⟩ := VRs.get (i := i) (x := x) b (by simpa using e)
    exact ⟨v, by simpa using h1, h2⟩
theorem VRs.getV : ∀ {xs : List A} {vs : List V} {i : Nat} {v : V}, VRs G r n H xs vs → vs[i]? = some v → ∃ x, xs[i]? = some x ∧ VR G r n H x v
  | _, _, _, _, .nil, e => by simp at e
  | _, _, 0, _, .cons a _, e => by simp at e; subst e; exact ⟨_, rfl, a⟩
  | _, _, i + 1, v, .cons _ b, e => by
    obtain ⟨x, h1, h2⟩ := VRs.getV (i := i) (v := v) b (by simpa using e)
    exact ⟨x, by simpa using h1, h2⟩
theorem VRs.set {x : A} {v : V} (a : VR G r n H x v) : ∀ {xs : List A} {vs : List V} (i : Nat), VRs G r n H xs vs → VRs G r n H (xs.set i x) (vs.set i v)
  | _, _, _, .nil => .nil
  | _, _, 0, .cons _ t => .cons a t
  | _, _, i + 1, .cons q t => .cons q (VRs.set a i t)
theorem VRs.take : ∀ {xs : List A} {vs : List V} (k : Nat), VRs G r n H xs vs → VRs G r n H (xs.take k) (vs.take k)
  | _, _, 0, _ => .nil
  | _, _, _ + 1, .nil => .nil
  | _, _, k + 1, .cons a t => .cons a (VRs.take k t)
theorem VRs.drop : ∀ {xs : List A} {vs : List V} (k : Nat), VRs G r n H xs vs → VRs G r n H (xs.drop k) (vs.drop k)
  | _, _, 0, q => q
  | _, _, _ + 1, .nil => .nil
  | _, _, k + 1, .cons _ t => VRs.drop k t
end

section
variable {G : Cn} {r : Nat → Addr} {h : Hs} {H : Hp}
/-- a new thing beside -/
theorem HR.laid (q : HR G r h H) {p : Addr} {o : HO} (hp : H p = none) : HR G r h (upd H p o) := by
  have f : Fw r h.length H r h.length (upd H p o) := Fw.laid hp
  have m := q.mm
  refine ⟨q.inj, fun i ob e => ?_⟩
  have k := q.ob i ob e
  have hne : r i ≠ p := fun z => by
    have mu := k.mut
    rw [z, hp] at mu
    exact mu
  cases ob with
  | lst xs => obtain ⟨vs, e1, e2⟩ := k; exact ⟨vs, by rw [upd_ne hne]; exact e1, e2.fw m f⟩
  | dct xs => obtain ⟨vs, e1, e2⟩ := k; exact ⟨vs, by rw [upd_ne hne]; exact e1, e2.fw m f⟩
  | ins c xs => obtain ⟨dx, vs, e1, e2⟩ := k; exact ⟨dx, vs, by rw [upd_ne hne]; exact e1, e2.fw m f⟩
/-- where the next index leads -/
def ext (r : Nat → Addr) (n : Nat) (p : Addr) : Nat → Addr := fun i => if i = n then p else r i
theorem ext_old {n i : Nat} {p : Addr} (hi : i < n) : ext r n p i = r i := if_neg (Nat.ne_of_lt hi)
theorem ext_new {n : Nat} {p : Addr} : ext r n p n = p := if_pos rfl
/-- a thing that was made gets an index -/
theorem Fw.name {n : Nat} {p : Addr} {H0 H1 : Hp} (f : Fw r n H0 r n H1) (hp : H0 p = none) : Fw r n H0 (ext r n p) (n + 1) H1 where
  le := Nat.le_succ _
  old := fun i hi => ext_old hi
  new := fun i a b => by
    have e : i = n := by omega
    rw [e, ext_new]
    exact hp
  keep := f.keep
  trk := f.trk
/-- as above, behind some steps -/
theorem Fw.nameAt {r0 : Nat → Addr} {n0 n : Nat} {p : Addr} {H0 H1 : Hp} (f : Fw r0 n0 H0 r n H1) (hp : H0 p = none) : Fw r0 n0 H0 (ext r n p) (n + 1) H1 where
  le := Nat.le_succ_of_le f.le
  old := fun i hi => (ext_old (Nat.lt_of_lt_of_le hi f.le)).trans (f.old i hi)
  new := fun i a b => by
    by_cases e : i = n
    · rw [e, ext_new]
      exact hp
    · rw [ext_old (by omega)]
      exact f.new i a (by omega)
  keep := f.keep
  trk := f.trk
/-- only the indices change: the step for VR.fw -/
theorem Fw.nm {n : Nat} {p : Addr} {H : Hp} {r : Nat → Addr} : (∀ i, i < n → ext r n p i = r i) := fun i hi => ext_old hi
end
section
variable {G : Cn} {r r' : Nat → Addr} {n n' : Nat} {H : Hp}
mutual
/-- the heap is the same, there are more indices, none of them at what is held by a tree -/
theorem VR.more (le : n ≤ n') (old : ∀ i, i < n → r' i = r i) (ni : ∀ i, n ≤ i → i < n' → ∀ C dx fs, H (r' i) ≠ some (.ins C dx fs)) : ∀ {x : A} {v : V}, VR G r n H x v → VR G r' n' H x v
  | _, _, .non => .non
  | _, _, .bl b => .bl b
  | _, _, .int i => .int i
  | _, _, .str x => .str x
  | _, _, .tup h t => .tup h (VRs.more le old ni t)
  | _, _, .rol h t => .rol h (VRs.more le old ni t)
  | _, _, .obj hu h l t => .obj (fun i hi e => by
      by_cases q : i < n
      · exact hu i q ((old i q).symm.trans e)
      · exact ni i (Nat.le_of_not_lt q) hi _ _ _ (by rw [e]; exact h)) h l (VRs.more le old ni t)
  | _, _, .ref hi => by
    have e := old _ hi
    rw [← e]
    exact .ref (Nat.lt_of_lt_of_le hi le)
theorem VRs.more (le : n ≤ n') (old : ∀ i, i < n → r' i = r i) (ni : ∀ i, n ≤ i → i < n' → ∀ C dx fs, H (r' i) ≠ some (.ins C dx fs)) : ∀ {xs : List A} {vs : List V}, VRs G r n H xs vs → VRs G r' n' H xs vs
  | _, _, .nil => .nil
  | _, _, .cons a b => .cons (VR.more le old ni a) (VRs.more le old ni b)
end
theorem KR.more (le : n ≤ n') (old : ∀ i, i < n → r' i = r i) (ni : ∀ i, n ≤ i → i < n' → ∀ C dx fs, H (r' i) ≠ some (.ins C dx fs)) : ∀ {xs : List (A × A)} {vs : List (Key × V)}, KR G r n H xs vs → KR G r' n' H xs vs
  | _, _, .nil => .nil
  | _, _, .cons a b => .cons (a.more le old ni) (KR.more le old ni b)
theorem FR.more (le : n ≤ n') (old : ∀ i, i < n → r' i = r i) (ni : ∀ i, n ≤ i → i < n' → ∀ C dx fs, H (r' i) ≠ some (.ins C dx fs)) : ∀ {xs : List (Str × A)} {vs : List (Str × V)}, FR G r n H xs vs → FR G r' n' H xs vs
  | _, _, .nil => .nil
  | _, _, .cons a b => .cons (a.more le old ni) (FR.more le old ni b)
end
section
variable {G : Cn} {r : Nat → Addr} {h : Hs} {H : Hp} {p : Addr}
/-- a list that no index has gets one -/
theorem HR.box (q : HR G r h H) {xs : List A} {vs : List V} (hp : H p = some (.lst vs)) (hu : ∀ i, i < h.length → r i ≠ p) (hx : VRs G r h.length H xs vs) : HR G (ext r h.length p) (h ++ [.lst xs]) H := by
  have hl : (h ++ [O.lst xs]).length = h.length + 1 := by simp
  have old : ∀ i, i < h.length → ext r h.length p i = r i := fun i hi => ext_old hi
  have ni : ∀ i, h.length ≤ i → i < h.length + 1 → ∀ C dx fs, H (ext r h.length p i) ≠ some (.ins C dx fs) := fun i a b C dx fs e => by
    have z : i = h.length := by omega
    rw [z, ext_new, hp] at e
    cases e
  refine ⟨fun i j hi hj e => ?_, fun i o e => ?_⟩
  · rw [hl] at hi hj
    by_cases z1 : i = h.length <;> by_cases z2 : j = h.length
    · omega
    · rw [z1, ext_new, ext_old (by omega)] at e
      exact absurd e.symm (hu j (by omega))
    · rw [z2, ext_new, ext_old (by omega)] at e
      exact absurd e (hu i (by omega))
    · rw [ext_old (by omega), ext_old (by omega)] at e
      exact q.inj i j (by omega) (by omega) e
  · rw [hl]
    by_cases z : i < h.length
    · rw [List.getElem?_append_left z] at e
      rw [ext_old z]
      have k := q.ob i o e
      cases o with
      | lst xs => obtain ⟨vs, e1, e2⟩ := k; exact ⟨vs, e1, e2.more (Nat.le_succ _) old ni⟩
      | dct xs => obtain ⟨vs, e1, e2⟩ := k; exact ⟨vs, e1, e2.more (Nat.le_succ _) old ni⟩
      | ins c xs => obtain ⟨dx, vs, e1, e2⟩ := k; exact ⟨dx, vs, e1, e2.more (Nat.le_succ _) old ni⟩
    · have hi : i = h.length := by
        have := (List.getElem?_eq_some_iff.mp e).1
        rw [hl] at this
        omega
      subst hi
      rw [List.getElem?_append_right (Nat.le_refl _), Nat.sub_self] at e
      cases e
      rw [ext_new]
      exact ⟨vs, hp, hx.more (Nat.le_succ _) old ni⟩
/-- a list that an index has is changed -/
theorem HR.put (q : HR G r h H) {i : Nat} {xs : List A} {vs : List V} (hi : i < h.length) (hx : VRs G r h.length H xs vs) (hm : ∀ C dx fs, H (r i) ≠ some (.ins C dx fs)) : HR G r (h.set i (.lst xs)) (upd H (r i) (.lst vs)) := by
  have f : Fw r h.length H r h.length (upd H (r i) (.lst vs)) := Fw.put hi
  have m := q.mm
  refine ⟨fun a b ha hb e => ?_, fun j o e => ?_⟩
  · rw [List.length_set] at ha hb
    exact q.inj a b ha hb e
  · rw [List.length_set]
    by_cases z : i = j
    · subst z
      rw [List.getElem?_set_self hi] at e
      cases e
      exact ⟨vs, upd_same, hx.fw m f⟩
    · rw [List.getElem?_set_ne z] at e
      have k := q.ob j o e
      have hj : j < h.length := (List.getElem?_eq_some_iff.mp e).1
      have hne : r j ≠ r i := fun w => z (q.inj j i hj hi w).symm
      cases o with
      | lst xs => obtain ⟨vs, e1, e2⟩ := k; exact ⟨vs, by rw [upd_ne hne]; exact e1, e2.fw m f⟩
      | dct xs => obtain ⟨vs, e1, e2⟩ := k; exact ⟨vs, by rw [upd_ne hne]; exact e1, e2.fw m f⟩
      | ins c xs => obtain ⟨dx, vs, e1, e2⟩ := k; exact ⟨dx, vs, by rw [upd_ne hne]; exact e1, e2.fw m f⟩
end
end Sm

namespace Sm
open PySem L2

/-- what an expression hands on: a value, or a list that was just made (H0: the heap ahead) -/
inductive WR (G : Cn) (H0 : Hp) (r : Nat → Addr) (n : Nat) (H : Hp) : A → V → Prop
  | val {x : A} {v : V} : VR G r n H x v → WR G H0 r n H x v
  | tmp {p : Addr} {xs : List A} {vs : List V} : H p = some (.lst vs) → VRs G r n H xs vs → (∀ i, i < n → r i ≠ p) → H0 p = none → WR G H0 r n H (.lst xs) (.ref p)
/-- the slots -/
inductive ER (G : Cn) (r : Nat → Addr) (n : Nat) (H : Hp) : En → St → Prop
  | nil : ER G r n H [] []
  | skip {v : Option V} {a : En} {s : St} : ER G r n H a s → ER G r n H (none :: a) (v :: s)
  | cons {x : A} {v : V} {a : En} {s : St} : VR G r n H x v → ER G r n H a s → ER G r n H (some x :: a) (some v :: s)
section
variable {G : Cn} {r r' : Nat → Addr} {n n' : Nat} {H H' H0 : Hp}
theorem ER.fw (m : Mm r n H) (f : Fw r n H r' n' H') : ∀ {a : En} {s : St}, ER G r n H a s → ER G r' n' H' a s
  | _, _, .nil => .nil
  | _, _, .skip t => .skip (ER.fw m f t)
  | _, _, .cons q t => .cons (q.fw m f) (ER.fw m f t)
theorem ER.get : ∀ {a : En} {s : St} {i : Nat} {x : A}, ER G r n H a s → a[i]? = some (some x) → ∃ v, s[i]? = some (some v) ∧ VR G r n H x v
  | _, _, _, _, .nil, e => by simp at e
  | _, _, 0, _, .skip _, e => by simp at e
  | _, _, 0, _, .cons q _, e => by simp at e; subst e; exact ⟨_, rfl, q⟩
  | _, _, i + 1, x, .skip t, e => by
    obtain ⟨v, h1, h2⟩ := ER.get (i := i) (x := x) t (by simpa using e)
    exact ⟨v, by simpa using h1, h2⟩
  | _, _, i + 1, x, .cons _ t, e => by
    obtain ⟨v, h1, h2⟩ := ER.get (i := i) (x := x) t (by simpa using e)
    exact ⟨v, by simpa using h1, h2⟩
theorem ER.set {x : A} {v : V} (q : VR G r n H x v) : ∀ {a : En} {s : St} (i : Nat), ER G r n H a s → ER G r n H (a.set i (some x)) (s.set i (some v))
  | _, _, _, .nil => .nil
  | _, _, 0, .skip t => .cons q t
  | _, _, 0, .cons _ t => .cons q t
  | _, _, i + 1, .skip t => .skip (ER.set q i t)
  | _, _, i + 1, .cons p t => .cons p (ER.set q i t)
theorem ER.unset {v : Option V} : ∀ {a : En} {s : St} (i : Nat), ER G r n H a s → ER G r n H (a.set i none) (s.set i v)
  | _, _, _, .nil => .nil
  | _, _, 0, .skip t => .skip t
  | _, _, 0, .cons _ t => .skip t
  | _, _, i + 1, .skip t => .skip (ER.unset i t)
  | _, _, i + 1, .cons p t => .cons p (ER.unset i t)
theorem ER.length : ∀ {a : En} {s : St}, ER G r n H a s → a.length = s.length
  | _, _, .nil => rfl
  | _, _, .skip t => congrArg Nat.succ (ER.length t)
  | _, _, .cons _ t => congrArg Nat.succ (ER.length t)
/-- the start of a def -/
theorem ER.start : ∀ {xs : List A} {vs : List V} (k : Nat), VRs G r n H xs vs → ER G r n H (xs.map some ++ List.replicate k none) (vs.map some ++ List.replicate k none)
  | _, _, k, .nil => by
    induction k with
    | zero => exact .nil
    | succ k ih => exact .skip ih
  | _, _, k, .cons q t => .cons q (ER.start k t)
theorem WR.fw {x : A} {v : V} (m : Mm r n H) (f : Fw r n H r' n' H') (w : WR G H0 r n H x v) : WR G H0 r' n' H' x v := by
  cases w with
  | val q => exact .val (q.fw m f)
  | tmp h1 h2 h3 h4 => exact .tmp (f.keep _ _ h1 h3) (h2.fw m f) (f.un h1 h3) h4
theorem WR.back {x : A} {v : V} {Ha : Hp} (k : ∀ p, H0 p = none → Ha p = none) (w : WR G H0 r n H x v) : WR G Ha r n H x v := by
  cases w with
  | val q => exact .val q
  | tmp h1 h2 h3 h4 => exact .tmp h1 h2 h3 (k _ h4)
end

/-- the error's own attributes -/
def XR (G : Cn) (H0 : Hp) (r : Nat → Addr) (n : Nat) (H : Hp) (c : Str) (xs : List A) : Option Addr → Prop
  | none => xs = [] ∧ G.fn c = []
  | some d => H0 d = none ∧ ∃ vs, H d = some (.xd ((G.fn c).zip vs)) ∧ vs.length = (G.fn c).length ∧ VRs G r n H xs vs
/-- what must hold behind -/
def Post {α β : Type} (G : Cn) (rel : Hp → (Nat → Addr) → Nat → Hp → α → β → Prop) (X : XK) (r : Nat → Addr) (n : Nat) (H : Hp) (Q : β → Hp → Prop) : R α → Prop
  | .ok v h' => ∀ r' H' w, Fw r n H r' h'.length H' → HR G r' h' H' → rel H r' h'.length H' v w → Q w H'
  | .exc c xs h' => ∀ r' H' d, Fw r n H r' h'.length H' → HR G r' h' H' → XR G H r' h'.length H' c xs d → X (.ref (G.cls c)) d H'
  | .stuck => False
theorem Post.imp {α β : Type} {G : Cn} {rel : Hp → (Nat → Addr) → Nat → Hp → α → β → Prop} {X : XK} {r : Nat → Addr} {n : Nat} {H : Hp} {Q Q' : β → Hp → Prop} {a : R α} (h : Post G rel X r n H Q a) (k : ∀ w H', Q w H' → Q' w H') : Post G rel X r n H Q' a := by
  cases a with
  | ok v h' => exact fun r' H' w f q z => k _ _ (h r' H' w f q z)
  | exc c xs h' => exact h
  | stuck => exact h

/-- an expression's reading follows f -/
def SE (G : Cn) (W : WX) (t : TE) (f : En → Hs → R A) : Prop := ∀ (r : Nat → Addr) (h : Hs) (H : Hp) (a : En) (s : St) (Q : VK), HR G r h H → ER G r h.length H a s → Post G (WR G) (fun c d => W c d s) r h.length H Q (f a h) → t s H Q
/-- a list of arguments, each one boxed -/
def SA (G : Cn) (W : WX) (t : TA) (f : En → Hs → R (List A)) : Prop := ∀ (r : Nat → Addr) (h : Hs) (H : Hp) (a : En) (s : St) (Q : List V → Hp → Prop), HR G r h H → ER G r h.length H a s → Post G (fun _ => VRs G) (fun c d => W c d s) r h.length H Q (f a h) → t s H Q
/-- one argument, not boxed -/
def SA1 (G : Cn) (W : WX) (t : TA) (f : En → Hs → R A) : Prop := ∀ (r : Nat → Addr) (h : Hs) (H : Hp) (a : En) (s : St) (Q : List V → Hp → Prop), HR G r h H → ER G r h.length H a s → Post G (WR G) (fun c d => W c d s) r h.length H (fun w H' => Q [w] H') (f a h) → t s H Q
/-- a test -/
def ST (G : Cn) (W : WX) (t : TT) (f : En → Hs → R Bool) : Prop := ∀ (r : Nat → Addr) (h : Hs) (H : Hp) (a : En) (s : St) (Q : Bool → Hp → Prop), HR G r h H → ER G r h.length H a s → Post G (fun _ _ _ _ b c => b = c) (fun c d => W c d s) r h.length H Q (f a h) → t s H Q

/-- a relation to the heap ahead goes back -/
def Bk {γ δ : Type} (rel' : Hp → (Nat → Addr) → Nat → Hp → γ → δ → Prop) : Prop := ∀ (Ha Hb : Hp) (r : Nat → Addr) (n : Nat) (Hc : Hp) (x : γ) (y : δ), (∀ p, Ha p = none → Hb p = none) → rel' Ha r n Hc x y → rel' Hb r n Hc x y
/-- from a later state -/
theorem Post.shift {γ δ : Type} {G : Cn} {rel' : Hp → (Nat → Addr) → Nat → Hp → γ → δ → Prop} {X : XK} {r r1 : Nat → Addr} {n n1 : Nat} {H H1 : Hp} {Q : δ → Hp → Prop} {a : R γ}
    (back : Bk rel') (f1 : Fw r n H r1 n1 H1) (hp : Post G rel' X r n H Q a) : Post G rel' X r1 n1 H1 Q a := by
  cases a with
  | ok v2 h2 => exact fun r2 H2 w2 f2 q2 z2 => hp r2 H2 w2 (f1.trans f2) q2 (back _ _ _ _ _ _ _ f1.trk z2)
  | exc c xs h2 =>
    intro r2 H2 d f2 q2 z2
    refine hp r2 H2 d (f1.trans f2) q2 ?_
    cases d with
    | none => exact z2
    | some d => exact ⟨f1.trk _ z2.1, z2.2⟩
  | stuck => exact hp
section
variable {α β γ δ : Type} {G : Cn} {rel : Hp → (Nat → Addr) → Nat → Hp → α → β → Prop} {rel' : Hp → (Nat → Addr) → Nat → Hp → γ → δ → Prop} {X : XK} {r : Nat → Addr} {h : Hs} {H : Hp} {Q : δ → Hp → Prop}
/-- a step behind a step -/
theorem Post.bind {a : R α} {f : α → Hs → R γ} {P : β → Hp → Prop}
    (back : Bk rel')
    (hp : Post G rel' X r h.length H Q (a.bind f))
    (k : ∀ v h1 r1 H1 w, Fw r h.length H r1 h1.length H1 → HR G r1 h1 H1 → rel H r1 h1.length H1 v w → Post G rel' X r1 h1.length H1 Q (f v h1) → P w H1) : Post G rel X r h.length H P a := by
  cases a with
  | ok v h1 => exact fun r1 H1 w f1 q1 z => k v h1 r1 H1 w f1 q1 z (Post.shift back f1 hp)
  | exc c xs h1 => exact hp
  | stuck => exact hp
end
/-- a list that was just made gets an index -/
def bx (x : A) (h : Hs) : R A := match x with
  | .lst xs => .ok (.ref h.length) (h ++ [.lst xs])
  | x => .ok x h
theorem VR.bx {G : Cn} {r : Nat → Addr} {n : Nat} {H : Hp} {x : A} {v : V} {h : Hs} (z : VR G r n H x v) : bx x h = .ok x h := by
  cases z <;> rfl
section
variable {γ δ : Type} {G : Cn} {rel' : Hp → (Nat → Addr) → Nat → Hp → γ → δ → Prop} {X : XK} {r : Nat → Addr} {h : Hs} {H : Hp} {Q : δ → Hp → Prop}
/-- a step and its box -/
theorem Post.bindB {a : R A} {f : A → Hs → R γ} {P : V → Hp → Prop}
    (back : Bk rel')
    (hp : Post G rel' X r h.length H Q ((a.bind bx).bind f))
    (k : ∀ v h1 r1 H1 w, Fw r h.length H r1 h1.length H1 → HR G r1 h1 H1 → VR G r1 h1.length H1 v w → Post G rel' X r1 h1.length H1 Q (f v h1) → P w H1) : Post G (WR G) X r h.length H P a := by
  cases a with
  | ok v h1 =>
    intro r1 H1 w f1 q1 z
    cases z with
    | val z =>
      have hp' : Post G rel' X r h.length H Q (f v h1) := by
        have e : ((R.ok v h1).bind Sm.bx).bind f = f v h1 := by
          rw [R.bind_ok, z.bx, R.bind_ok]
        rw [e] at hp
        exact hp
      exact k v h1 r1 H1 w f1 q1 z (Post.shift back f1 hp')
    | @tmp p xs vs h1' h2 h3 h4 =>
      have hl : (h1 ++ [O.lst xs]).length = h1.length + 1 := by simp
      have f2 : Fw r h.length H (ext r1 h1.length p) (h1 ++ [O.lst xs]).length H1 := by
        rw [hl]
        exact f1.nameAt h4
      have hp' : Post G rel' X r h.length H Q (f (.ref h1.length) (h1 ++ [O.lst xs])) := hp
      have z2 : VR G (ext r1 h1.length p) (h1 ++ [O.lst xs]).length H1 (.ref h1.length) (.ref p) := by
        have e : V.ref p = V.ref (ext r1 h1.length p h1.length) := by rw [ext_new]
        rw [e]
        exact .ref (by simp)
      exact k (.ref h1.length) (h1 ++ [O.lst xs]) (ext r1 h1.length p) H1 (.ref p) f2 (q1.box h1' h3 h2) z2 (Post.shift back f2 hp')
  | exc c xs h1 => exact hp
  | stuck => exact hp
end

/-! ### the relations go back -/
theorem backWR {G : Cn} : Bk (WR G) := fun _ _ _ _ _ _ _ k w => w.back k
theorem backN {α β : Type} {rel : (Nat → Addr) → Nat → Hp → α → β → Prop} : Bk (fun _ => rel) := fun _ _ _ _ _ _ _ _ w => w

/-! ### expressions -/
section
variable {G : Cn} {W : WX}
def eVar (i : Nat) : En → Hs → R A := fun a h => match a[i]? with
  | some (some v) => .ok v h
  | _ => .stuck
theorem se_var (i : Nat) : SE G W (tVar i) (eVar i) := by
  intro r h H a s Q q e hp
  unfold eVar at hp
  cases z : a[i]? with
  | none => rw [z] at hp; exact hp.elim
  | some o =>
    rw [z] at hp
    cases o with
    | none => exact hp.elim
    | some x =>
      obtain ⟨v, h1, h2⟩ := e.get z
      exact ⟨v, h1, hp r H v .refl q (.val h2)⟩
def eC (x : A) : En → Hs → R A := fun _ h => .ok x h
theorem se_c {x : A} {v : V} (k : ∀ r n H, VR G r n H x v) : SE G W (tC v) (eC x) := fun r h H a s Q q e hp => hp r H v .refl q (.val (k _ _ _))
theorem se_int (i : Int) : SE G W (tC (.int i)) (eC (.int i)) := se_c fun _ _ _ => .int i
theorem se_bl (b : Bool) : SE G W (tC (.bl b)) (eC (.bl b)) := se_c fun _ _ _ => .bl b
theorem se_str (x : Str) : SE G W (tC (.str x)) (eC (.str x)) := se_c fun _ _ _ => .str x
theorem se_non : SE G W (tC .non) (eC .non) := se_c fun _ _ _ => .non

/-- two values -/
def SR2 (G : Cn) (r2 : R2) (f : A → A → Hs → R A) : Prop := ∀ (r : Nat → Addr) (h : Hs) (H : Hp) (x y : A) (v w : V) (Ha Hb : Hp) (Q : VK) (X : XK), HR G r h H → WR G Ha r h.length H x v → WR G Hb r h.length H y w → Post G (WR G) X r h.length H Q (f x y h) → r2 v w H Q
def eOp (fa fb : En → Hs → R A) (f : A → A → Hs → R A) : En → Hs → R A := fun a h => (fa a h).bind fun x h1 => (fb a h1).bind fun y h2 => f x y h2
theorem se_op {ta tb : TE} {fa fb : En → Hs → R A} {r2 : R2} {f : A → A → Hs → R A} (hr : SR2 G r2 f) (ha : SE G W ta fa) (hb : SE G W tb fb) : SE G W (tOp r2 ta tb) (eOp fa fb f) := by
  intro r h H a s Q q e hp
  refine ha r h H a s _ q e (Post.bind backWR hp fun x h1 r1 H1 v f1 q1 z1 hp1 => ?_)
  refine hb r1 h1 H1 a s _ q1 (e.fw q.mm f1) (Post.bind backWR hp1 fun y h2 r2 H2 w f2 q2 z2 hp2 => ?_)
  exact hr r2 h2 H2 x y v w H H1 Q _ q2 (z1.fw q1.mm f2) z2 hp2
/-- one value -/
def SR1 (G : Cn) (r1 : V → Hp → VK → Prop) (f : A → Hs → R A) : Prop := ∀ (r : Nat → Addr) (h : Hs) (H : Hp) (x : A) (v : V) (Ha : Hp) (Q : VK) (X : XK), HR G r h H → WR G Ha r h.length H x v → Post G (WR G) X r h.length H Q (f x h) → r1 v H Q
def eUn (fa : En → Hs → R A) (f : A → Hs → R A) : En → Hs → R A := fun a h => (fa a h).bind f
theorem se_un {ta : TE} {fa : En → Hs → R A} {r1 : V → Hp → VK → Prop} {f : A → Hs → R A} (hr : SR1 G r1 f) (ha : SE G W ta fa) : SE G W (tUn r1 ta) (eUn fa f) := by
  intro r h H a s Q q e hp
  exact ha r h H a s _ q e (Post.bind backWR hp fun x h1 r1 H1 v f1 q1 z1 hp1 => hr r1 h1 H1 x v H Q _ q1 z1 hp1)

/-! ### arguments -/
def aNil : En → Hs → R (List A) := fun _ h => .ok [] h
def aCons (fa : En → Hs → R A) (fr : En → Hs → R (List A)) : En → Hs → R (List A) := fun a h => ((fa a h).bind bx).bind fun x h1 => (fr a h1).bind fun xs h2 => .ok (x :: xs) h2
theorem sa_nil : SA G W tNil aNil := fun r h H a s Q q e hp => hp r H [] .refl q .nil
theorem sa_cons {ta : TE} {tr : TA} {fa : En → Hs → R A} {fr : En → Hs → R (List A)} (ha : SE G W ta fa) (hr : SA G W tr fr) : SA G W (tCons ta tr) (aCons fa fr) := by
  intro r h H a s Q q e hp
  refine ha r h H a s _ q e (Post.bindB backN hp fun x h1 r1 H1 v f1 q1 z1 hp1 => ?_)
  refine hr r1 h1 H1 a s _ q1 (e.fw q.mm f1) (Post.bind backN hp1 fun ys h2 r2 H2 ws f2 q2 z2 hp2 => ?_)
  exact hp2 r2 H2 _ .refl q2 (.cons (z1.fw q1.mm f2) z2)
theorem sa_one {ta : TE} {fa : En → Hs → R A} (ha : SE G W ta fa) : SA1 G W (tCons ta tNil) fa := fun r h H a s Q q e hp => ha r h H a s _ q e hp

def eTup (fa : En → Hs → R (List A)) : En → Hs → R A := fun a h => (fa a h).bind fun xs h1 => if xs.length ≤ 16777216 then .ok (.tup xs) h1 else .stuck
theorem se_tup {t : TA} {fa : En → Hs → R (List A)} (ha : SA G W t fa) : SE G W (tTup t) (eTup fa) := by
  intro r h H a s Q q e hp
  refine ha r h H a s _ q e (Post.bind backWR hp fun xs h1 r1 H1 vs f1 q1 z1 hp1 => ?_)
  by_cases hz : xs.length ≤ 16777216
  · rw [if_pos hz] at hp1
    refine ⟨by rw [← z1.length, sizeLine_eq]; exact hz, fun p hp0 => ?_⟩
    exact hp1 r1 _ _ (.laid hp0) (q1.laid hp0) (.val (.tup (.inl (.inl upd_same)) (z1.fw q1.mm (.laid hp0))))
  · rw [if_neg hz] at hp1
    exact hp1.elim
def eLst (fa : En → Hs → R (List A)) : En → Hs → R A := fun a h => (fa a h).bind fun xs h1 => if xs.length ≤ 16777216 then .ok (.lst xs) h1 else .stuck
theorem se_lst {t : TA} {fa : En → Hs → R (List A)} (ha : SA G W t fa) : SE G W (tLst t) (eLst fa) := by
  intro r h H a s Q q e hp
  refine ha r h H a s _ q e (Post.bind backWR hp fun xs h1 r1 H1 vs f1 q1 z1 hp1 => ?_)
  by_cases hz : xs.length ≤ 16777216
  · rw [if_pos hz] at hp1
    refine ⟨by rw [← z1.length, sizeLine_eq]; exact hz, fun p hp0 => ?_⟩
    refine hp1 r1 _ _ (.laid hp0) (q1.laid hp0) (.tmp upd_same (z1.fw q1.mm (.laid hp0)) (fun i hi e => ?_) hp0)
    have mu := q1.mm i hi
    rw [e, hp0] at mu
    exact mu
  · rw [if_neg hz] at hp1
    exact hp1.elim
end
end Sm

namespace Sm
open PySem L2

/-! ### a def's promise by a function -/
def spOf (G : Cn) (k : Nat) (m : List A → Hs → R A) : Sp := fun vs H Q E => ∃ (r : Nat → Addr) (h : Hs) (xs : List A), HR G r h H ∧ VRs G r h.length H xs vs ∧ xs.length = k ∧ Post G (WR G) E r h.length H Q (m xs h)
theorem spOf.len {G : Cn} {k : Nat} {m : List A → Hs → R A} : ∀ vs H Q E, spOf G k m vs H Q E → vs.length = k := fun vs H Q E ⟨r, h, xs, _, q, e, _⟩ => q.length.symm.trans e

section
variable {G : Cn} {W : WX}
def eCall (k : Nat) (fa : En → Hs → R (List A)) (ds : List A) (m : List A → Hs → R A) : En → Hs → R A := fun a h => (fa a h).bind fun xs h1 => if xs.length + ds.length = k then m (xs ++ ds) h1 else .stuck
theorem se_call {t : TA} {fa : En → Hs → R (List A)} {k : Nat} {m : List A → Hs → R A} {ds : List A} {dvs : List V} (hd : ∀ r n H, VRs G r n H ds dvs) (ha : SA G W t fa) : SE G W (tCallSD (spOf G k m) dvs (WE W) t) (eCall k fa ds m) := by
  intro r h H a s Q q e hp
  refine ha r h H a s _ q e (Post.bind backWR hp fun xs h1 r1 H1 vs f1 q1 z1 hp1 => ?_)
  by_cases hk : xs.length + ds.length = k
  · rw [if_pos hk] at hp1
    exact ⟨r1, h1, xs ++ ds, q1, z1.append (hd _ _ _), by rw [List.length_append]; exact hk, hp1⟩
  · rw [if_neg hk] at hp1
    exact hp1.elim

/-! ### statements -/
inductive Rs where
  | nx (a : En) (h : Hs)
  | rt (v : A) (h : Hs)
  | bk (a : En) (h : Hs)
  | ct (a : En) (h : Hs)
  | exc (c : Str) (xs : List A) (a : En) (h : Hs)
  | stuck
def R.toS {α : Type} (x : R α) (a : En) (f : α → Hs → Rs) : Rs := match x with
  | .ok v h => f v h
  | .exc c xs h => .exc c xs a h
  | .stuck => .stuck
def Rs.andThen (x : Rs) (f : En → Hs → Rs) : Rs := match x with
  | .nx a h => f a h
  | y => y
def PostS (G : Cn) (W : WX) (r : Nat → Addr) (n : Nat) (H : Hp) (D : Ends) : Rs → Prop
  | .nx a h' => ∀ r' H' s', Fw r n H r' h'.length H' → HR G r' h' H' → ER G r' h'.length H' a s' → D.nx s' H'
  | .rt v h' => ∀ r' H' w, Fw r n H r' h'.length H' → HR G r' h' H' → WR G H r' h'.length H' v w → D.rt w H'
  | .bk a h' => ∀ r' H' s', Fw r n H r' h'.length H' → HR G r' h' H' → ER G r' h'.length H' a s' → D.bk s' H'
  | .ct a h' => ∀ r' H' s', Fw r n H r' h'.length H' → HR G r' h' H' → ER G r' h'.length H' a s' → D.ct s' H'
  | .exc c xs a h' => ∀ r' H' d s', Fw r n H r' h'.length H' → HR G r' h' H' → ER G r' h'.length H' a s' → XR G H r' h'.length H' c xs d → W (.ref (G.cls c)) d s' H'
  | .stuck => False
def SS (G : Cn) (W : WX) (t : TS) (f : En → Hs → Rs) : Prop := ∀ (r : Nat → Addr) (h : Hs) (H : Hp) (a : En) (s : St) (D : Ends), HR G r h H → ER G r h.length H a s → PostS G W r h.length H D (f a h) → t D s H
theorem XR.back {G : Cn} {Ha Hb : Hp} {r : Nat → Addr} {n : Nat} {H : Hp} {c : Str} {xs : List A} (k : ∀ p, Ha p = none → Hb p = none) : ∀ {d : Option Addr}, XR G Ha r n H c xs d → XR G Hb r n H c xs d
  | none, h => h
  | some _, h => ⟨k _ h.1, h.2⟩
theorem PostS.shift {r r1 : Nat → Addr} {n n1 : Nat} {H H1 : Hp} {D : Ends} {x : Rs} (f1 : Fw r n H r1 n1 H1) (hp : PostS G W r n H D x) : PostS G W r1 n1 H1 D x := by
  cases x with
  | nx a h => exact fun r' H' s' f q e => hp r' H' s' (f1.trans f) q e
  | bk a h => exact fun r' H' s' f q e => hp r' H' s' (f1.trans f) q e
  | ct a h => exact fun r' H' s' f q e => hp r' H' s' (f1.trans f) q e
  | rt v h => exact fun r' H' w f q z => hp r' H' w (f1.trans f) q (z.back f1.trk)
  | exc c xs a h => exact fun r' H' d s' f q e z => hp r' H' d s' (f1.trans f) q e (z.back f1.trk)
  | stuck => exact hp
section
variable {α β : Type} {rel : Hp → (Nat → Addr) → Nat → Hp → α → β → Prop} {r : Nat → Addr} {h : Hs} {H : Hp} {a : En} {s : St} {D : Ends}
theorem PostS.bind {x : R α} {f : α → Hs → Rs} {P : β → Hp → Prop} (q : HR G r h H) (e : ER G r h.length H a s) (hp : PostS G W r h.length H D (x.toS a f))
    (k : ∀ v h1 r1 H1 w, Fw r h.length H r1 h1.length H1 → HR G r1 h1 H1 → ER G r1 h1.length H1 a s → rel H r1 h1.length H1 v w → PostS G W r1 h1.length H1 D (f v h1) → P w H1) : Post G rel (fun c d => W c d s) r h.length H P x := by
  cases x with
  | ok v h1 => exact fun r1 H1 w f1 q1 z => k v h1 r1 H1 w f1 q1 (e.fw q.mm f1) z (PostS.shift f1 hp)
  | exc c xs h1 => exact fun r1 H1 d f1 q1 z => hp r1 H1 d s f1 q1 (e.fw q.mm f1) z
  | stuck => exact hp
theorem PostS.bindB {x : R A} {f : A → Hs → Rs} {P : V → Hp → Prop} (q : HR G r h H) (e : ER G r h.length H a s) (hp : PostS G W r h.length H D ((x.bind bx).toS a f))
    (k : ∀ v h1 r1 H1 w, Fw r h.length H r1 h1.length H1 → HR G r1 h1 H1 → ER G r1 h1.length H1 a s → VR G r1 h1.length H1 v w → PostS G W r1 h1.length H1 D (f v h1) → P w H1) : Post G (WR G) (fun c d => W c d s) r h.length H P x := by
  cases x with
  | ok v h1 =>
    intro r1 H1 w f1 q1 z
    cases z with
    | val z =>
      have e2 : ((R.ok v h1).bind Sm.bx).toS a f = f v h1 := by
        rw [R.bind_ok, z.bx]
        all_goals rfl
      rw [e2] at hp
      exact k v h1 r1 H1 w f1 q1 (e.fw q.mm f1) z (PostS.shift f1 hp)
    | @tmp p xs vs h1' h2 h3 h4 =>
      have hl : (h1 ++ [O.lst xs]).length = h1.length + 1 := by simp
      have f2 : Fw r h.length H (ext r1 h1.length p) (h1 ++ [O.lst xs]).length H1 := by
        rw [hl]
        exact f1.nameAt h4
      have hp' : PostS G W r h.length H D (f (.ref h1.length) (h1 ++ [O.lst xs])) := hp
      have z2 : VR G (ext r1 h1.length p) (h1 ++ [O.lst xs]).length H1 (.ref h1.length) (.ref p) := by
        have e : V.ref p = V.ref (ext r1 h1.length p h1.length) := by rw [ext_new]
        rw [e]
        exact .ref (by simp)
      exact k (.ref h1.length) (h1 ++ [O.lst xs]) (ext r1 h1.length p) H1 (.ref p) f2 (q1.box h1' h3 h2) (e.fw q.mm f2) z2 (PostS.shift f2 hp')
  | exc c xs h1 => exact fun r1 H1 d f1 q1 z => hp r1 H1 d s f1 q1 (e.fw q.mm f1) z
  | stuck => exact hp
end
def sNext : En → Hs → Rs := fun a h => .nx a h
theorem ss_next : SS G W tNext sNext := fun r h H a s D q e hp => hp r H s .refl q e
def sSeq (f g : En → Hs → Rs) : En → Hs → Rs := fun a h => (f a h).andThen g
theorem ss_seq {t u : TS} {f g : En → Hs → Rs} (hf : SS G W t f) (hg : SS G W u g) : SS G W (tSeq t u) (sSeq f g) := by
  intro r h H a s D q e hp
  refine hf r h H a s _ q e ?_
  unfold sSeq at hp
  cases z : f a h with
  | nx a1 h1 =>
    rw [z] at hp
    exact fun r1 H1 s1 f1 q1 e1 => hg r1 h1 H1 a1 s1 D q1 e1 (PostS.shift f1 hp)
  | rt v h1 => rw [z] at hp; exact hp
  | bk a1 h1 => rw [z] at hp; exact hp
  | ct a1 h1 => rw [z] at hp; exact hp
  | exc c xs a1 h1 => rw [z] at hp; exact hp
  | stuck => rw [z] at hp; exact hp.elim
def sBreak : En → Hs → Rs := fun a h => .bk a h
theorem ss_break : SS G W tBreak sBreak := fun r h H a s D q e hp => hp r H s .refl q e
def sCont : En → Hs → Rs := fun a h => .ct a h
theorem ss_cont : SS G W tCont sCont := fun r h H a s D q e hp => hp r H s .refl q e
def sExpr (f : En → Hs → R A) : En → Hs → Rs := fun a h => (f a h).toS a fun _ h1 => .nx a h1
theorem ss_expr {t : TE} {f : En → Hs → R A} (hf : SE G W t f) : SS G W (tDrop t) (sExpr f) := fun r h H a s D q e hp =>
  hf r h H a s _ q e (PostS.bind q e hp fun v h1 r1 H1 w f1 q1 e1 z1 hp1 => hp1 r1 H1 s .refl q1 e1)
def sRet (f : En → Hs → R A) : En → Hs → Rs := fun a h => (f a h).toS a fun v h1 => .rt v h1
theorem ss_ret {t : TE} {f : En → Hs → R A} (hf : SE G W t f) : SS G W (tRet t) (sRet f) := fun r h H a s D q e hp => by
  refine hf r h H a s _ q e ?_
  unfold sRet at hp
  cases z : f a h with
  | ok v h1 => rw [z] at hp; exact hp
  | exc c xs h1 => rw [z] at hp; exact fun r1 H1 d f1 q1 z => hp r1 H1 d s f1 q1 (e.fw q.mm f1) z
  | stuck => rw [z] at hp; exact hp
def sRetN : En → Hs → Rs := fun _ h => .rt .non h
theorem ss_retN : SS G W tRetN sRetN := fun r h H a s D q e hp => hp r H .non .refl q (.val .non)
def sIf (c : En → Hs → R Bool) (f g : En → Hs → Rs) : En → Hs → Rs := fun a h => (c a h).toS a fun b h1 => if b = true then f a h1 else g a h1
theorem ss_if {c : TT} {t u : TS} {fc : En → Hs → R Bool} {f g : En → Hs → Rs} (hc : ST G W c fc) (hf : SS G W t f) (hg : SS G W u g) : SS G W (tIfS c t u) (sIf fc f g) := by
  intro r h H a s D q e hp
  refine hc r h H a s _ q e (PostS.bind q e hp fun b h1 r1 H1 w f1 q1 e1 z1 hp1 => ?_)
  subst z1
  cases b with
  | true => rw [if_pos rfl] at hp1 ⊢; exact hf r1 h1 H1 a s D q1 e1 hp1
  | false => rw [if_neg Bool.false_ne_true] at hp1 ⊢; exact hg r1 h1 H1 a s D q1 e1 hp1
def sSet (i : Nat) (f : En → Hs → R A) : En → Hs → Rs := fun a h => ((f a h).bind bx).toS a fun x h1 => .nx (a.set i (some x)) h1
theorem ss_set {i : Nat} {t : TE} {f : En → Hs → R A} (hf : SE G W t f) : SS G W (tAsg t (gName i)) (sSet i f) := fun r h H a s D q e hp =>
  hf r h H a s _ q e (PostS.bindB q e hp fun v h1 r1 H1 w f1 q1 e1 z1 hp1 => hp1 r1 H1 _ .refl q1 (e1.set z1 i))

/-! ### tests -/
def cTest (f : En → Hs → R A) : En → Hs → R Bool := fun a h => (f a h).bind fun x h1 => match x with
  | .bl b => .ok b h1
  | _ => .stuck
theorem VR.bl_inv {r : Nat → Addr} {n : Nat} {H H0 : Hp} {b : Bool} {v : V} (w : WR G H0 r n H (.bl b) v) : v = .bl b := by
  cases w with
  | val w => cases w; rfl
theorem st_test {t : TE} {f : En → Hs → R A} (hf : SE G W t f) : ST G W (tTest t) (cTest f) := by
  intro r h H a s Q q e hp
  refine hf r h H a s _ q e (Post.bind backN hp fun x h1 r1 H1 v f1 q1 z1 hp1 => ?_)
  cases x with
  | bl b =>
    refine ⟨b, VR.bl_inv z1, ?_⟩
    exact hp1 r1 H1 b .refl q1 rfl
  | _ => exact hp1.elim
/-- the truth of a value -/
def truA (x : A) (h : Hs) : R Bool := match x with
  | .non => .ok false h
  | .bl b => .ok b h
  | .int i => .ok (i != 0) h
  | .str y => if y.length ≤ 16777216 then .ok ((y.length : Int) != 0) h else .stuck
  | .tup xs => .ok (!xs.isEmpty) h
  | .lst xs => .ok (!xs.isEmpty) h
  | .rol xs => .ok (!xs.isEmpty) h
  | .ref n => match h[n]? with
    | some (.lst xs) => .ok (!xs.isEmpty) h
    | some (.dct kvs) => .ok (!kvs.isEmpty) h
    | _ => .stuck
  | .obj _ _ => .stuck
theorem VRs.isEmpty {r : Nat → Addr} {n : Nat} {H : Hp} {xs : List A} {vs : List V} (q : VRs G r n H xs vs) : xs.isEmpty = vs.isEmpty := by
  cases q <;> rfl
theorem KR.isEmpty {r : Nat → Addr} {n : Nat} {H : Hp} {xs : List (A × A)} {vs : List (Key × V)} (q : KR G r n H xs vs) : xs.isEmpty = vs.isEmpty := by
  cases q <;> rfl
theorem tru_of {r : Nat → Addr} {h : Hs} {H H0 : Hp} {x : A} {v : V} {X : XK} {Q : Bool → Hp → Prop} (q : HR G r h H) (w : WR G H0 r h.length H x v) (hp : Post G (fun _ _ _ _ b c => b = c) X r h.length H Q (truA x h)) : ∃ k, TruV G.K v H k ∧ Q k H := by
  cases w with
  | tmp h1 h2 h3 h4 => exact ⟨_, .inl ⟨_, .inl (.inl h1), rfl⟩, hp r H _ .refl q (by rw [h2.isEmpty])⟩
  | val z =>
    cases z with
    | non => exact ⟨false, rfl, hp r H false .refl q rfl⟩
    | bl b => exact ⟨b, rfl, hp r H b .refl q rfl⟩
    | int i => exact ⟨_, rfl, hp r H _ .refl q rfl⟩
    | str y =>
      have hp' : Post G (fun _ _ _ _ b c => b = c) X r h.length H Q (if y.length ≤ 16777216 then R.ok ((y.length : Int) != 0) h else .stuck) := hp
      by_cases hz : y.length ≤ 16777216
      · rw [if_pos hz] at hp'
        exact ⟨_, ⟨by rw [sizeLine_eq]; exact hz, rfl⟩, hp' r H _ .refl q rfl⟩
      · rw [if_neg hz] at hp'
        exact hp'.elim
    | tup h1 h2 => exact ⟨_, .inr (.inl ⟨_, h1, rfl⟩), hp r H _ .refl q (by rw [h2.isEmpty])⟩
    | rol h1 h2 => exact ⟨_, .inl ⟨_, h1.sq, rfl⟩, hp r H _ .refl q (by rw [h2.isEmpty])⟩
    | obj _ _ _ _ => exact hp.elim
    | @ref i hi =>
      have hp' : Post G (fun _ _ _ _ b c => b = c) X r h.length H Q (match h[i]? with
        | some (.lst xs) => R.ok (!xs.isEmpty) h
        | some (.dct kvs) => .ok (!kvs.isEmpty) h
        | _ => .stuck) := hp
      cases z : h[i]? with
      | none => rw [z] at hp'; exact hp'.elim
      | some o =>
        rw [z] at hp'
        have k := q.ob i o z
        cases o with
        | lst xs =>
          obtain ⟨vs, e1, e2⟩ := k
          exact ⟨_, .inl ⟨_, .inl (.inl e1), rfl⟩, hp' r H _ .refl q (by rw [e2.isEmpty])⟩
        | dct kvs =>
          obtain ⟨vs, e1, e2⟩ := k
          exact ⟨_, .inr (.inr ⟨_, e1, rfl⟩), hp' r H _ .refl q (by rw [e2.isEmpty])⟩
        | ins c fs => exact hp'.elim
def tTru (K : PySem.W.Frag) (t : TE) : TT := fun σ H Q => t σ H fun x H' => ∃ k, TruV K x H' k ∧ Q k H'
def cTru (f : En → Hs → R A) : En → Hs → R Bool := fun a h => (f a h).bind truA
theorem st_tru {t : TE} {f : En → Hs → R A} (hf : SE G W t f) : ST G W (tTru G.K t) (cTru f) := fun r h H a s Q q e hp =>
  hf r h H a s _ q e (Post.bind backN hp fun x h1 r1 H1 v f1 q1 z1 hp1 => tru_of q1 z1 hp1)
theorem pt_tru {X : Cx} {e : Expr} {t : TE} (ha : PE X e t) (he : ∀ whole, isTrue e X.env whole = (do let v ← whole; standAt e.pos; holding [v] (truthy v)) := by intro _; rfl) : PT X e (tTru X.K t) := pt_truth ha he
def cAnd (f g : En → Hs → R Bool) : En → Hs → R Bool := fun a h => (f a h).bind fun b h1 => if b = true then g a h1 else .ok false h1
theorem st_and {t u : TT} {f g : En → Hs → R Bool} (hf : ST G W t f) (hg : ST G W u g) : ST G W (tAnd t u) (cAnd f g) := by
  intro r h H a s Q q e hp
  refine hf r h H a s _ q e (Post.bind backN hp fun b h1 r1 H1 w f1 q1 z1 hp1 => ?_)
  subst z1
  cases b with
  | true => rw [if_pos rfl] at hp1 ⊢; exact hg r1 h1 H1 a s Q q1 (e.fw q.mm f1) hp1
  | false => rw [if_neg Bool.false_ne_true] at hp1 ⊢; exact hp1 r1 H1 false .refl q1 rfl
def cOr (f g : En → Hs → R Bool) : En → Hs → R Bool := fun a h => (f a h).bind fun b h1 => if b = true then .ok true h1 else g a h1
theorem st_or {t u : TT} {f g : En → Hs → R Bool} (hf : ST G W t f) (hg : ST G W u g) : ST G W (tOr t u) (cOr f g) := by
  intro r h H a s Q q e hp
  refine hf r h H a s _ q e (Post.bind backN hp fun b h1 r1 H1 w f1 q1 z1 hp1 => ?_)
  subst z1
  cases b with
  | true => rw [if_pos rfl] at hp1 ⊢; exact hp1 r1 H1 true .refl q1 rfl
  | false => rw [if_neg Bool.false_ne_true] at hp1 ⊢; exact hg r1 h1 H1 a s Q q1 (e.fw q.mm f1) hp1
def cNot (f : En → Hs → R Bool) : En → Hs → R Bool := fun a h => (f a h).bind fun b h1 => .ok (!b) h1
theorem st_not {t : TT} {f : En → Hs → R Bool} (hf : ST G W t f) : ST G W (tNot t) (cNot f) := by
  intro r h H a s Q q e hp
  refine hf r h H a s _ q e (Post.bind backN hp fun b h1 r1 H1 w f1 q1 z1 hp1 => ?_)
  subst z1
  exact hp1 r1 H1 _ .refl q1 rfl
/-! ### and, or, not as values; a if t else b -/
def eIf (c : En → Hs → R Bool) (f g : En → Hs → R A) : En → Hs → R A := fun a h => (c a h).bind fun b h1 => if b = true then f a h1 else g a h1
theorem se_if {c : TT} {t u : TE} {fc : En → Hs → R Bool} {f g : En → Hs → R A} (hc : ST G W c fc) (hf : SE G W t f) (hg : SE G W u g) : SE G W (tIf c t u) (eIf fc f g) := by
  intro r h H a s Q q e hp
  refine hc r h H a s _ q e (Post.bind backWR hp fun b h1 r1 H1 w f1 q1 z1 hp1 => ?_)
  subst z1
  cases b with
  | true => rw [if_pos rfl] at hp1 ⊢; exact hf r1 h1 H1 a s Q q1 (e.fw q.mm f1) hp1
  | false => rw [if_neg Bool.false_ne_true] at hp1 ⊢; exact hg r1 h1 H1 a s Q q1 (e.fw q.mm f1) hp1
/-- the first operand's truth; what is handed on is boxed nowhere: a list that was just made may not be handed on by or -/
def nl : A → Bool
  | .lst _ => false
  | _ => true
def eOr (f g : En → Hs → R A) : En → Hs → R A := fun a h => (f a h).bind fun x h1 => (truA x h1).bind fun b h2 => if b = true then .ok x h2 else g a h2
theorem truA_heap {x : A} {h h' : Hs} {b : Bool} (e : truA x h = .ok b h') : h' = h := by
  unfold truA at e
  split at e <;> first | (cases e; rfl) | cases e | (split at e <;> first | (cases e; rfl) | cases e)
theorem truA_noexc {x : A} {h h' : Hs} {c : Str} {xs : List A} : truA x h ≠ .exc c xs h' := by
  intro e
  unfold truA at e
  split at e <;> first | cases e | (split at e <;> cases e)
theorem se_or {t u : TE} {f g : En → Hs → R A} (hf : SE G W t f) (hg : SE G W u g) : SE G W (tOrT G.K t u) (eOr f g) := by
  intro r h H a s Q q e hp
  refine hf r h H a s _ q e ?_
  cases zf : f a h with
  | exc c xs h1 => unfold eOr at hp; rw [zf] at hp; exact hp
  | stuck => unfold eOr at hp; rw [zf] at hp; exact hp
  | ok x h1 =>
    unfold eOr at hp
    rw [zf] at hp
    intro r1 H1 v f1 q1 z1
    have hp1 : Post G (WR G) (fun c d => W c d s) r h.length H Q ((truA x h1).bind fun b h2 => if b = true then .ok x h2 else g a h2) := hp
    refine tru_of (X := fun _ _ _ => False) (Q := fun k H' => if k = true then Q v H' else u s H' Q) q1 z1 ?_
    cases zt : truA x h1 with
    | exc c xs h2 => exact (truA_noexc zt).elim
    | stuck => rw [zt] at hp1; exact hp1
    | ok b h2 =>
      have eh := truA_heap zt
      subst eh
      rw [zt] at hp1
      intro r2 H2 b' f2 q2 zb
      subst zb
      have hp2 : Post G (WR G) (fun c d => W c d s) r h.length H Q (if b = true then .ok x h2 else g a h2) := hp1
      cases b with
      | true =>
        rw [if_pos rfl] at hp2 ⊢
        exact hp2 r2 H2 v (f1.trans f2) q2 (z1.fw q1.mm f2)
      | false =>
        rw [if_neg Bool.false_ne_true] at hp2 ⊢
        exact hg r2 h2 H2 a s Q q2 (e.fw q.mm (f1.trans f2)) (Post.shift backWR (f1.trans f2) hp2)
def eAnd (f g : En → Hs → R A) : En → Hs → R A := fun a h => (f a h).bind fun x h1 => (truA x h1).bind fun b h2 => if b = true then g a h2 else .ok x h2
theorem se_and {t u : TE} {f g : En → Hs → R A} (hf : SE G W t f) (hg : SE G W u g) : SE G W (tAndT G.K t u) (eAnd f g) := by
  intro r h H a s Q q e hp
  refine hf r h H a s _ q e ?_
  cases zf : f a h with
  | exc c xs h1 => unfold eAnd at hp; rw [zf] at hp; exact hp
  | stuck => unfold eAnd at hp; rw [zf] at hp; exact hp
  | ok x h1 =>
    unfold eAnd at hp
    rw [zf] at hp
    intro r1 H1 v f1 q1 z1
    have hp1 : Post G (WR G) (fun c d => W c d s) r h.length H Q ((truA x h1).bind fun b h2 => if b = true then g a h2 else .ok x h2) := hp
    refine tru_of (X := fun _ _ _ => False) (Q := fun k H' => if k = true then u s H' Q else Q v H') q1 z1 ?_
    cases zt : truA x h1 with
    | exc c xs h2 => exact (truA_noexc zt).elim
    | stuck => rw [zt] at hp1; exact hp1
    | ok b h2 =>
      have eh := truA_heap zt
      subst eh
      rw [zt] at hp1
      intro r2 H2 b' f2 q2 zb
      subst zb
      have hp2 : Post G (WR G) (fun c d => W c d s) r h.length H Q (if b = true then g a h2 else .ok x h2) := hp1
      cases b with
      | false =>
        rw [if_neg Bool.false_ne_true] at hp2 ⊢
        exact hp2 r2 H2 v (f1.trans f2) q2 (z1.fw q1.mm f2)
      | true =>
        rw [if_pos rfl] at hp2 ⊢
        exact hg r2 h2 H2 a s Q q2 (e.fw q.mm (f1.trans f2)) (Post.shift backWR (f1.trans f2) hp2)
def eNot (f : En → Hs → R A) : En → Hs → R A := fun a h => (f a h).bind fun x h1 => (truA x h1).bind fun b h2 => .ok (.bl (!b)) h2
theorem se_not {t : TE} {f : En → Hs → R A} (hf : SE G W t f) : SE G W (tNotT G.K t) (eNot f) := by
  intro r h H a s Q q e hp
  refine hf r h H a s _ q e (Post.bind backWR hp fun x h1 r1 H1 v f1 q1 z1 hp1 => ?_)
  exact tru_of q1 z1 (Post.bind backWR hp1 fun b h2 r2 H2 w f2 q2 z2 hp2 => by subst z2; exact hp2 r2 H2 _ .refl q2 (.val (.bl _)))
end
end Sm

namespace Sm
open PySem L2

/-! ### what is walked -/
structure Src where
  items : List A
  g : Option Nat
/-- the list that is walked stands as it was -/
noncomputable def Src.ok (s : Src) (h : Hs) : Bool := match s.g with
  | none => true
  | some m => @decide (h[m]? = some (.lst s.items)) (Classical.propDecidable _)
def JR (G : Cn) (r : Nat → Addr) (n : Nat) (H : Hp) (src : Src) (J : It) : Prop := ∃ (Gd : Hp → Prop) (Y : Nat → Hp → V → Hp → Prop), Walk J src.items.length Gd Y ∧
  ∀ (r2 : Nat → Addr) (h2 : Hs) (H2 : Hp), Fw r n H r2 h2.length H2 → HR G r2 h2 H2 → src.ok h2 = true → Gd H2 ∧ ∀ (i : Nat) (x : V) (H3 : Hp), i < src.items.length → Y i H2 x H3 →
    ∃ y, src.items[i]? = some y ∧ Fw r2 h2.length H2 r2 h2.length H3 ∧ HR G r2 h2 H3 ∧ VR G r2 h2.length H3 y x
def SI (G : Cn) (W : WX) (wi : TI) (f : En → Hs → R Src) : Prop := ∀ (r : Nat → Addr) (h : Hs) (H : Hp) (a : En) (s : St) (Q : It → Hp → Prop), HR G r h H → ER G r h.length H a s → Post G (fun _ => JR G) (fun c d => W c d s) r h.length H Q (f a h) → wi s H Q
/-- a target -/
def SG (G : Cn) (ix : List Nat) (g : TG) (f : A → En → Option En) : Prop := ∀ (r : Nat → Addr) (h : Hs) (H : Hp) (a : En) (s : St) (x : A) (v : V) (Q : St → Hp → Prop), HR G r h H → ER G r h.length H a s → VR G r h.length H x v →
  (∃ a', f x a = some a' ∧ ∀ s', ER G r h.length H a' s' → s'.length = s.length → (∀ j, j ∉ ix → s'[j]? = s[j]?) → Q s' H) → g v s H Q
section
variable {G : Cn} {W : WX}
def gNm (i : Nat) : A → En → Option En := fun x a => some (a.set i (some x))
theorem sg_name (i : Nat) : SG G [i] (gName i) (gNm i) := fun r h H a s x v Q q e z ⟨a', h1, h2⟩ => by
  cases h1
  refine h2 _ (e.set z i) (List.length_set ..) fun j hj => ?_
  rw [List.getElem?_set_ne]
  intro e
  exact hj (by rw [e]; exact List.mem_cons_self ..)
noncomputable def forL (g : A → En → Option En) (b : En → Hs → Rs) (src : Src) : List A → En → Hs → Rs
  | [], a, h => if src.ok h = true then .nx a h else .stuck
  | x :: l, a, h => if src.ok h = true then (match g x a with
    | none => .stuck
    | some a1 => match b a1 h with
      | .nx a2 h2 => forL g b src l a2 h2
      | .ct a2 h2 => forL g b src l a2 h2
      | .bk a2 h2 => .nx a2 h2
      | y => y) else .stuck
noncomputable def sFor (fi : En → Hs → R Src) (g : A → En → Option En) (b : En → Hs → Rs) : En → Hs → Rs := fun a h => (fi a h).toS a fun src h1 => forL g b src src.items a h1
theorem ss_for {wi : TI} {tg : TG} {tb : TS} {fi : En → Hs → R Src} {g : A → En → Option En} {b : En → Hs → Rs} {ix : List Nat} (hi : SI G W wi fi) (hg : SG G ix tg g) (hb : SS G W tb b) : SS G W (tFor wi tg tb) (sFor fi g b) := by
  intro r h H a s D q e hp
  refine hi r h H a s _ q e (PostS.bind q e hp fun src h1 r1 H1 J f1 q1 e1 z1 hp1 => ?_)
  obtain ⟨Gd, Y, wk, hk⟩ := z1
  have okOf : ∀ {r2 h2 H2 a2} (l : List A), PostS G W r2 (List.length h2) H2 D (forL g b src l a2 h2) → src.ok h2 = true := fun {r2 h2 H2 a2} l hp2 => by
    cases l with
    | nil =>
      unfold forL at hp2
      by_cases z : src.ok h2 = true
      · exact z
      · rw [if_neg z] at hp2
        exact hp2.elim
    | cons x l =>
      unfold forL at hp2
      by_cases z : src.ok h2 = true
      · exact z
      · rw [if_neg z] at hp2
        exact hp2.elim
  refine for_it wk (fun i s2 H2 => ∃ r2 h2 a2, Fw r1 h1.length H1 r2 h2.length H2 ∧ HR G r2 h2 H2 ∧ ER G r2 h2.length H2 a2 s2 ∧ PostS G W r2 h2.length H2 D (forL g b src (src.items.drop i) a2 h2))
    ⟨r1, h1, a, .refl, q1, e1, hp1⟩ (fun i s2 H2 _ ⟨r2, h2, a2, f2, q2, e2, hp2⟩ => (hk r2 h2 H2 f2 q2 (okOf _ hp2)).1) ?_ ?_
  · rintro i x s2 H2 H3 hin ⟨r2, h2, a2, f2, q2, e2, hp2⟩ hy
    have hok := okOf _ hp2
    obtain ⟨y, hy1, f3, q3, z3⟩ := (hk r2 h2 H2 f2 q2 hok).2 i x H3 hin hy
    have hdrop : src.items.drop i = y :: src.items.drop (i + 1) := by
      rw [List.drop_eq_getElem_cons hin]
      congr 1
      rw [List.getElem?_eq_getElem hin] at hy1
      exact Option.some.inj hy1
    rw [hdrop] at hp2
    unfold forL at hp2
    rw [if_pos hok] at hp2
    refine hg r2 h2 H3 a2 s2 y x _ q3 (e2.fw q2.mm f3) z3 ?_
    cases zg : g y a2 with
    | none => rw [zg] at hp2; exact hp2.elim
    | some a3 =>
      rw [zg] at hp2
      refine ⟨a3, rfl, fun s3 e3 _ _ => ?_⟩
      refine hb r2 h2 H3 a3 s3 _ q3 e3 ?_
      have hp3 : PostS G W r2 h2.length H2 D (match b a3 h2 with
        | .nx a2 h2 => forL g b src (src.items.drop (i + 1)) a2 h2
        | .ct a2 h2 => forL g b src (src.items.drop (i + 1)) a2 h2
        | .bk a2 h2 => .nx a2 h2
        | y => y) := hp2
      cases zb : b a3 h2 with
      | nx a4 h4 =>
        rw [zb] at hp3
        exact fun r4 H4 s4 f4 q4 e4 => ⟨r4, h4, a4, f2.trans (f3.trans f4), q4, e4, PostS.shift (f3.trans f4) hp3⟩
      | ct a4 h4 =>
        rw [zb] at hp3
        exact fun r4 H4 s4 f4 q4 e4 => ⟨r4, h4, a4, f2.trans (f3.trans f4), q4, e4, PostS.shift (f3.trans f4) hp3⟩
      | bk a4 h4 => rw [zb] at hp3; exact fun r4 H4 s4 f4 q4 e4 => hp3 r4 H4 s4 (f3.trans f4) q4 e4
      | rt v h4 => rw [zb] at hp3; exact fun r4 H4 w f4 q4 z4 => hp3 r4 H4 w (f3.trans f4) q4 (z4.back f3.trk)
      | exc c xs a4 h4 => rw [zb] at hp3; exact fun r4 H4 d s4 f4 q4 e4 z4 => hp3 r4 H4 d s4 (f3.trans f4) q4 e4 (z4.back f3.trk)
      | stuck => rw [zb] at hp3; exact hp3.elim
  · rintro s2 H2 ⟨r2, h2, a2, f2, q2, e2, hp2⟩
    have hok := okOf _ hp2
    rw [List.drop_length] at hp2
    unfold forL at hp2
    rw [if_pos hok] at hp2
    exact hp2 r2 H2 s2 .refl q2 e2

/-! ### the sources -/
/-- a list, a tuple, a text -/
def itA (x : A) (h : Hs) : R Src := match x with
  | .tup xs => .ok ⟨xs, none⟩ h
  | .lst xs => .ok ⟨xs, none⟩ h
  | .rol xs => .ok ⟨xs, none⟩ h
  | .str z => .ok ⟨z.cps.toList.map fun c => .str ⟨#[c]⟩, none⟩ h
  | .ref n => match h[n]? with
    | some (.lst xs) => .ok ⟨xs, some n⟩ h
    | _ => .stuck
  | _ => .stuck
def iAny (K : PySem.W.Frag) (t : TE) : TI := fun σ H R => t σ H fun x H1 => (∃ a, x = .ref a ∧ (∃ xs, SqL K H1 a xs) ∧ R (Itl K a) H1) ∨ (∃ a, x = .ref a ∧ (∃ xs, SqT K H1 a xs) ∧ R (Itt K a) H1) ∨ (∃ y, x = .str y ∧ R (Its y) H1)
theorem pi_any {X : Cx} {tg l : Expr} {t : TE} (hl : PE X l t) : PI X tg l (iAny X.K t) := ⟨fun pins s σ H Rk I h => by
  refine thn (hl.run pins s σ H _ I h) fun v s1 ⟨x, H1, I1, r1, q1⟩ => ?_
  rcases q1 with ⟨a, e, ⟨xs, hq⟩, q⟩ | ⟨a, e, ⟨xs, hq⟩, q⟩ | ⟨y, e, q⟩
  · subst e
    cases r1
    obtain ⟨its, _, p, _⟩ := I1.list hq
    exact wpAny_pyIter_list p.isList (pi_one (tk := s1.toks) I1 _ (turn_list a _) ⟨_, Heap.get?_push_size _ rfl, rfl, rfl⟩ q)
  · subst e
    cases r1
    obtain ⟨its, _, p, _⟩ := I1.tuple hq
    exact wpAny_pyIter_tuple p (pi_one (tk := s1.toks) I1 _ (turn_tuple a _) ⟨_, Heap.get?_push_size _ rfl, rfl, rfl⟩ q)
  · subst e
    obtain ⟨t, rfl⟩ := r1
    cases ha : y.cps.all (· < 128) with
    | false => exact wpAny_pyIter_wide ha (pi_one (tk := s1.toks) I1 _ (turn_str _ y t "str_iterator" (.inr rfl)) ⟨_, Heap.get?_push_size _ rfl, rfl, rfl⟩ q)
    | true => exact wpAny_pyIter_ascii ha (pi_one (tk := s1.toks) I1 _ (turn_str _ y t "str_ascii_iterator" (.inl rfl)) ⟨_, Heap.get?_push_size _ rfl, rfl, rfl⟩ q)⟩
end
section
variable {G : Cn} {W : WX}
theorem yat {r2 : Nat → Addr} {h2 : Hs} {H2 : Hp} {xs : List A} {vs : List V} (q2 : HR G r2 h2 H2) (z : VRs G r2 h2.length H2 xs vs) : ∀ (i : Nat) (x : V) (H3 : Hp), i < xs.length → YAt vs i H2 x H3 →
    ∃ y, xs[i]? = some y ∧ Fw r2 h2.length H2 r2 h2.length H3 ∧ HR G r2 h2 H3 ∧ VR G r2 h2.length H3 y x := fun i x H3 hi ⟨e1, e2⟩ => by
  subst e1
  obtain ⟨y, hy, hv⟩ := z.getV e2
  exact ⟨y, hy, .refl, q2, hv⟩
/-- how a value is walked: one of three ways -/
theorem it_of {r : Nat → Addr} {h : Hs} {H H0 : Hp} {x : A} {v : V} {X : XK} {Q : It → Hp → Prop} (q : HR G r h H) (w : WR G H0 r h.length H x v) (hp : Post G (fun _ => JR G) X r h.length H Q (itA x h)) :
    (∃ a, v = .ref a ∧ (∃ xs, SqL G.K H a xs) ∧ Q (Itl G.K a) H) ∨ (∃ a, v = .ref a ∧ (∃ xs, SqT G.K H a xs) ∧ Q (Itt G.K a) H) ∨ (∃ y, v = .str y ∧ Q (Its y) H) := by
  cases w with
  | @tmp p xs vs h1 h2 h3 h4 =>
    refine .inl ⟨p, rfl, ⟨vs, .inl (.inl h1)⟩, hp r H _ .refl q ?_⟩
    refine ⟨_, _, (show (Src.mk xs none).items.length = vs.length from h2.length) ▸ walk_list, fun r2 h2' H2 f2 q2 _ => ⟨.inl (.inl (f2.keep _ _ h1 h3)), yat q2 (h2.fw q.mm f2)⟩⟩
  | val z =>
    cases z with
    | non => exact hp.elim
    | bl b => exact hp.elim
    | int i => exact hp.elim
    | obj _ _ _ _ => exact hp.elim
    | str y =>
      refine .inr (.inr ⟨y, rfl, hp r H _ .refl q ?_⟩)
      have hl : (Src.mk (y.cps.toList.map fun c => A.str ⟨#[c]⟩) none).items.length = y.cps.size := by simp
      refine ⟨_, _, hl ▸ walk_str, fun r2 h2' H2 f2 q2 _ => ⟨True.intro, fun i x H3 hi hy => ?_⟩⟩
      obtain ⟨e1, c, e2, e3⟩ := hy
      subst e1 e3
      refine ⟨.str ⟨#[c]⟩, ?_, .refl, q2, .str _⟩
      simp [e2]
    | @tup p vs xs h1 h2 =>
      refine .inr (.inl ⟨p, rfl, ⟨vs, h1⟩, hp r H _ .refl q ?_⟩)
      exact ⟨_, _, (show (Src.mk xs none).items.length = vs.length from h2.length) ▸ walk_tup, fun r2 h2' H2 f2 q2 _ => ⟨f2.sqT q.mm h1, yat q2 (h2.fw q.mm f2)⟩⟩
    | @rol p vs xs h1 h2 =>
      refine .inl ⟨p, rfl, ⟨vs, h1.sq⟩, hp r H _ .refl q ?_⟩
      exact ⟨_, _, (show (Src.mk xs none).items.length = vs.length from h2.length) ▸ walk_list, fun r2 h2' H2 f2 q2 _ => ⟨(h1.fw q.mm f2).sq, yat q2 (h2.fw q.mm f2)⟩⟩
    | @ref i hi =>
      have hp' : Post G (fun _ => JR G) X r h.length H Q (match h[i]? with
        | some (.lst xs) => R.ok (⟨xs, some i⟩ : Src) h
        | _ => .stuck) := hp
      cases z : h[i]? with
      | none => rw [z] at hp'; exact hp'.elim
      | some o =>
        rw [z] at hp'
        have k := q.ob i o z
        cases o with
        | dct kvs => exact hp'.elim
        | ins c fs => exact hp'.elim
        | lst xs =>
          obtain ⟨vs, e1, e2⟩ := k
          refine .inl ⟨r i, rfl, ⟨vs, .inl (.inl e1)⟩, hp' r H _ .refl q ?_⟩
          refine ⟨fun H2 => ∃ us, SqL G.K H2 (r i) us ∧ us.length = xs.length, fun j H2 y H3 => H3 = H2 ∧ ∀ us, SqL G.K H2 (r i) us → us[j]? = some y, ⟨fun j H2 hj ⟨us, s1, s2⟩ => ⟨us, us[j]'(by rw [s2]; exact hj), s1, by simp⟩, fun H2 ⟨us, s1, s2⟩ => ⟨us, s1, by rw [s2]; exact Nat.le_refl _⟩, fun j H2 y H3 hj ⟨us, s1, s2⟩ hy => hy⟩, ?_⟩
          intro r2 h2 H2 f2 q2 hok
          have hg : h2[i]? = some (.lst xs) := by
            have this : @decide (h2[i]? = some (.lst xs)) (Classical.propDecidable _) = true := hok
            exact @of_decide_eq_true _ (Classical.propDecidable _) this
          obtain ⟨us, g1, g2⟩ := q2.ob i _ hg
          rw [f2.old i hi] at g1
          refine ⟨⟨us, .inl (.inl g1), g2.length.symm⟩, fun j y H3 hj hy => ?_⟩
          obtain ⟨e3, hy⟩ := hy
          subst e3
          obtain ⟨z1, z2, z3⟩ := g2.getV (hy us (.inl (.inl g1)))
          exact ⟨z1, z2, .refl, q2, z3⟩
def iAnyF (f : En → Hs → R A) : En → Hs → R Src := fun a h => (f a h).bind itA
theorem si_any {t : TE} {f : En → Hs → R A} (hf : SE G W t f) : SI G W (iAny G.K t) (iAnyF f) := fun r h H a s Q q e hp =>
  hf r h H a s _ q e (Post.bind backN hp fun x h1 r1 H1 v f1 q1 z1 hp1 => it_of q1 z1 hp1)
/-- range(n), range(a, b) -/
def rgItems (lo : Int) (n : Nat) : List A := (List.range n).map fun (i : Nat) => .int (lo + (i : Int))
theorem rgItems_length (lo : Int) (n : Nat) : (rgItems lo n).length = n := by simp [rgItems]
theorem rg_jr {r : Nat → Addr} {n : Nat} {H : Hp} (lo : Int) (k : Nat) : JR G r n H ⟨rgItems lo k, none⟩ (Itr lo k) := by
  have hw : Walk (Itr lo k) (Src.mk (rgItems lo k) none).items.length (fun _ => True) (YFn fun i => .int (lo + i)) := by
    rw [show (Src.mk (rgItems lo k) none).items.length = k from rgItems_length lo k]
    exact walk_range
  refine ⟨_, _, hw, fun r2 h2 H2 f2 q2 _ => ⟨True.intro, fun i x H3 hi hy => ?_⟩⟩
  obtain ⟨e1, e2⟩ := hy
  subst e1 e2
  have hi' : i < k := by
    have : i < (rgItems lo k).length := hi
    rw [rgItems_length] at this
    exact this
  refine ⟨.int (lo + i), ?_, .refl, q2, .int _⟩
  simp [rgItems, hi']
def rg1 (xs : List A) (h : Hs) : R Src := match xs with
  | [.int j] => if -(2 ^ 62) ≤ j ∧ j < 2 ^ 62 then .ok ⟨rgItems 0 j.toNat, none⟩ h else .stuck
  | _ => .stuck
def iRg1 (fa : En → Hs → R (List A)) : En → Hs → R Src := fun a h => (fa a h).bind rg1
theorem VR.int_inv {r : Nat → Addr} {n : Nat} {H : Hp} {i : Int} {v : V} (w : VR G r n H (.int i) v) : v = .int i := by
  cases w; rfl
theorem VR.str_inv {r : Nat → Addr} {n : Nat} {H : Hp} {i : Str} {v : V} (w : VR G r n H (.str i) v) : v = .str i := by
  cases w; rfl
theorem si_rg1 {ta : TA} {fa : En → Hs → R (List A)} (ha : SA G W ta fa) : SI G W (iRng1 ta) (iRg1 fa) := by
  intro r h H a s Q q e hp
  refine ha r h H a s _ q e (Post.bind backN hp fun xs h1 r1 H1 vs f1 q1 z1 hp1 => ?_)
  unfold rg1 at hp1
  split at hp1
  · rename_i j
    split at hp1
    · rename_i hb
      cases z1 with
      | cons z1 z2 =>
        cases z2
        have := z1.int_inv
        subst this
        exact ⟨j, rfl, hb.1, hb.2, hp1 r1 H1 _ .refl q1 (rg_jr 0 j.toNat)⟩
    · exact hp1.elim
  · exact hp1.elim
def rg2 (xs : List A) (h : Hs) : R Src := match xs with
  | [.int i, .int j] => if -(2 ^ 62) ≤ i ∧ i < 2 ^ 62 ∧ -(2 ^ 62) ≤ j ∧ j < 2 ^ 62 then .ok ⟨rgItems i (j - i).toNat, none⟩ h else .stuck
  | _ => .stuck
def iRg2 (fa : En → Hs → R (List A)) : En → Hs → R Src := fun a h => (fa a h).bind rg2
theorem si_rg2 {ta : TA} {fa : En → Hs → R (List A)} (ha : SA G W ta fa) : SI G W (iRng2 ta) (iRg2 fa) := by
  intro r h H a s Q q e hp
  refine ha r h H a s _ q e (Post.bind backN hp fun xs h1 r1 H1 vs f1 q1 z1 hp1 => ?_)
  unfold rg2 at hp1
  split at hp1
  · rename_i i j
    split at hp1
    · rename_i hb
      cases z1 with
      | cons z1 z2 =>
        cases z2 with
        | cons z2 z3 =>
          cases z3
          have := z1.int_inv
          subst this
          have := z2.int_inv
          subst this
          exact ⟨i, j, rfl, hb, hp1 r1 H1 _ .refl q1 (rg_jr i (j - i).toNat)⟩
    · exact hp1.elim
  · exact hp1.elim

/-! ### comprehensions -/
def wipeA (a : En) : List Nat → En
  | [] => a
  | v :: vs => (wipeA a vs).set v none
theorem ER.wipe {r : Nat → Addr} {n : Nat} {H : Hp} {a : En} {s : St} (e : ER G r n H a s) : ∀ vs : List Nat, ER G r n H (wipeA a vs) (L2.wipe s vs)
  | [] => e
  | v :: vs => (ER.wipe e vs).unset v
theorem wipe_get (j : Nat) : ∀ (vs : List Nat) (s : St), (L2.wipe s vs)[j]? = if j ∈ vs ∧ j < s.length then some none else s[j]? := by
  intro vs
  induction vs with
  | nil => intro s; simp [L2.wipe]
  | cons v vs ih =>
    intro s
    unfold L2.wipe
    by_cases hv : v = j
    · subst hv
      by_cases hj : v < s.length
      · rw [List.getElem?_set_self (by rw [wipe_length]; exact hj)]
        simp [hj]
      · rw [List.getElem?_eq_none (by rw [List.length_set, wipe_length]; omega)]
        simp [hj, List.getElem?_eq_none (Nat.le_of_not_lt hj)]
    · rw [List.getElem?_set_ne hv, ih s]
      have : (j ∈ v :: vs) ↔ j ∈ vs := by
        rw [List.mem_cons]
        constructor
        · rintro (e | e)
          · exact absurd e.symm hv
          · exact e
        · exact .inr
      simp only [this]
theorem wipe_eq {s s' : St} {vs : List Nat} (hl : s'.length = s.length) (h : ∀ j, j ∉ vs → s'[j]? = s[j]?) : L2.wipe s' vs = L2.wipe s vs := by
  refine List.ext_getElem? fun j => ?_
  rw [wipe_get, wipe_get]
  by_cases hj : j ∈ vs
  · simp only [hj, true_and, hl]
    by_cases h2 : j < s.length
    · simp [h2]
    · simp [h2, List.getElem?_eq_none (Nat.le_of_not_lt h2), List.getElem?_eq_none (l := s') (i := j) (by omega)]
  · simp only [hj, false_and, if_false]
    exact h j hj
theorem wipe_wipe {s : St} {vs : List Nat} : L2.wipe (L2.wipe s vs) vs = L2.wipe s vs := wipe_eq (wipe_length _ _) fun j hj => by
  rw [wipe_get]
  simp [hj]
/-- a value gets its index -/
theorem bx_ok {r : Nat → Addr} {h : Hs} {H H0 : Hp} {r0 : Nat → Addr} {n0 : Nat} {x : A} {v : V} (f0 : Fw r0 n0 H0 r h.length H) (q : HR G r h H) (w : WR G H0 r h.length H x v) :
    ∃ x' h' r', bx x h = .ok x' h' ∧ Fw r0 n0 H0 r' h'.length H ∧ HR G r' h' H ∧ VR G r' h'.length H x' v := by
  cases w with
  | val z => exact ⟨x, h, r, z.bx, f0, q, z⟩
  | @tmp p xs vs h1 h2 h3 h4 =>
    have hl : (h ++ [O.lst xs]).length = h.length + 1 := by simp
    refine ⟨.ref h.length, h ++ [.lst xs], ext r h.length p, rfl, ?_, q.box h1 h3 h2, ?_⟩
    · rw [hl]
      exact f0.nameAt h4
    · have e : V.ref p = V.ref (ext r h.length p h.length) := by rw [ext_new]
      rw [e]
      exact .ref (by simp)
section
variable {r : Nat → Addr} {n : Nat} {H : Hp} {p : Addr} {ws us : List V}
theorem SqT.side {K : PySem.W.Frag} {q : Addr} {vs : List V} (hp : H p = some (.lst ws)) (h : SqT K H q vs) : SqT K (upd H p (.lst us)) q vs := by
  rcases h with (h | ⟨o, h⟩) | h
  · exact .inl (.inl (by rw [upd_ne (ne_of h hp (by intro z; cases z))]; exact h))
  · exact .inl (.inr ⟨o, by rw [upd_ne (ne_of h hp (by intro z; cases z))]; exact h⟩)
  · exact .inr h
mutual
/-- a list that no tree holds is changed -/
theorem VR.side (hp : H p = some (.lst ws)) : ∀ {x : A} {v : V}, VR G r n H x v → VR G r n (upd H p (.lst us)) x v
  | _, _, .non => .non
  | _, _, .bl b => .bl b
  | _, _, .int i => .int i
  | _, _, .str x => .str x
  | _, _, .tup h t => .tup (SqT.side hp h) (VRs.side hp t)
  | _, _, .rol h t => .rol (h.elim (fun ⟨o, h⟩ => .inl ⟨o, by rw [upd_ne (ne_of h hp (by intro z; cases z))]; exact h⟩) .inr) (VRs.side hp t)
  | _, _, .obj hu h l t => .obj hu (by rw [upd_ne (ne_of h hp (by intro z; cases z))]; exact h) l (VRs.side hp t)
  | _, _, .ref hi => .ref hi
theorem VRs.side (hp : H p = some (.lst ws)) : ∀ {xs : List A} {vs : List V}, VRs G r n H xs vs → VRs G r n (upd H p (.lst us)) xs vs
  | _, _, .nil => .nil
  | _, _, .cons a b => .cons (VR.side hp a) (VRs.side hp b)
end
theorem KR.side (hp : H p = some (.lst ws)) : ∀ {xs : List (A × A)} {vs : List (Key × V)}, KR G r n H xs vs → KR G r n (upd H p (.lst us)) xs vs
  | _, _, .nil => .nil
  | _, _, .cons a b => .cons (a.side hp) (KR.side hp b)
theorem FR.side (hp : H p = some (.lst ws)) : ∀ {xs : List (Str × A)} {vs : List (Str × V)}, FR G r n H xs vs → FR G r n (upd H p (.lst us)) xs vs
  | _, _, .nil => .nil
  | _, _, .cons a b => .cons (a.side hp) (FR.side hp b)
theorem HR.side {h : Hs} (q : HR G r h H) (hp : H p = some (.lst ws)) (hu : ∀ i, i < h.length → r i ≠ p) : HR G r h (upd H p (.lst us)) := by
  refine ⟨q.inj, fun i o e => ?_⟩
  have k := q.ob i o e
  have hne := hu i (List.getElem?_eq_some_iff.mp e).1
  cases o with
  | lst xs => obtain ⟨vs, e1, e2⟩ := k; exact ⟨vs, by rw [upd_ne hne]; exact e1, e2.side hp⟩
  | dct xs => obtain ⟨vs, e1, e2⟩ := k; exact ⟨vs, by rw [upd_ne hne]; exact e1, e2.side hp⟩
  | ins c xs => obtain ⟨dx, vs, e1, e2⟩ := k; exact ⟨dx, vs, by rw [upd_ne hne]; exact e1, e2.side hp⟩
/-- what H0 does not know is changed -/
theorem Fw.side {r0 : Nat → Addr} {n0 : Nat} {H0 : Hp} {o : HO} (f : Fw r0 n0 H0 r n H) (hp : H0 p = none) : Fw r0 n0 H0 r n (upd H p o) where
  le := f.le
  old := f.old
  new := f.new
  keep := fun q u e hu => by rw [upd_ne (ne_of_none e hp)]; exact f.keep q u e hu
  trk := fun q e => by
    by_cases z : q = p
    · rw [z]; exact hp
    · rw [upd_ne z] at e; exact f.trk q e
end
/-- the list that a comprehension makes; nothing may be raised in it -/
noncomputable def lcL (g : A → En → Option En) (c : En → Hs → R Bool) (f : En → Hs → R A) (src : Src) (a : En) : List A → List A → Hs → R (List A)
  | acc, [], h => if src.ok h = true then .ok acc h else .stuck
  | acc, x :: l, h => if src.ok h = true then (match g x a with
    | none => .stuck
    | some a1 => match c a1 h with
      | .ok true h1 => (match (f a1 h1).bind bx with
        | .ok y h2 => lcL g c f src a (acc ++ [y]) l h2
        | _ => .stuck)
      | .ok false h1 => lcL g c f src a acc l h1
      | _ => .stuck) else .stuck
noncomputable def eLc (fi : En → Hs → R Src) (g : A → En → Option En) (c : En → Hs → R Bool) (f : En → Hs → R A) (vs : List Nat) : En → Hs → R A := fun a h => (fi a h).bind fun src h1 =>
  if src.items.length ≤ 16777216 then (lcL g c f src (wipeA a vs) [] src.items h1).bind fun xs h2 => .ok (.lst xs) h2 else .stuck
def W0 : WX := fun _ _ _ _ => False
def cYes : En → Hs → R Bool := fun _ h => .ok true h
theorem st_yes : ST G W tYes cYes := fun r h H a s Q q e hp => hp r H true .refl q rfl
theorem se_lc {wi : TI} {tg : TG} {tt : TT} {te : TE} {vs ix : List Nat} {fi : En → Hs → R Src} {g : A → En → Option En} {c : En → Hs → R Bool} {f : En → Hs → R A} (hi : SI G W wi fi) (hg : SG G ix tg g) (hix : ∀ j ∈ ix, j ∈ vs) (hc : ST G W0 tt c) (hf : SE G W0 te f) :
    SE G W (tLc wi tg tt te vs) (eLc fi g c f vs) := by
  intro r h H a s Q q e hp
  refine hi r h H a s _ q e (Post.bind backWR hp fun src h1 r1 H1 J f1 q1 z1 hp1 => ?_)
  obtain ⟨Gd, Y, wk, hk⟩ := z1
  by_cases hsz : src.items.length ≤ 16777216
  case neg => rw [if_neg hsz] at hp1; exact hp1.elim
  rw [if_pos hsz] at hp1
  intro D hD
  have e1 := e.fw q.mm f1
  have okOf : ∀ {r2 h2 H2 Q2} {acc} (l : List A), Post (β := V) G (WR G) (fun c d => W c d s) r2 (List.length h2) H2 Q2 ((lcL g c f src (wipeA a vs) acc l h2).bind fun xs h2 => .ok (.lst xs) h2) → src.ok h2 = true := fun {r2 h2 H2 Q2 acc} l hp2 => by
    cases l with
    | nil =>
      unfold lcL at hp2
      by_cases z : src.ok h2 = true
      · exact z
      · rw [if_neg z] at hp2
        exact hp2.elim
    | cons x l =>
      unfold lcL at hp2
      by_cases z : src.ok h2 = true
      · exact z
      · rw [if_neg z] at hp2
        exact hp2.elim
  have unD : ∀ i, i < h1.length → r1 i ≠ D := fun i hi e => by
    have mu := q1.mm i hi
    rw [e, hD] at mu
    exact mu
  refine lc_it wk (fun i H2 => ∃ r2 h2 acc ws, Fw r1 h1.length H1 r2 h2.length H2 ∧ HR G r2 h2 H2 ∧ H2 D = some (.lst ws) ∧ VRs G r2 h2.length H2 acc ws ∧ (∀ i, i < h2.length → r2 i ≠ D) ∧ acc.length ≤ i ∧ Post G (WR G) (fun c d => W c d s) r1 h1.length H1 Q ((lcL g c f src (wipeA a vs) acc (src.items.drop i) h2).bind fun xs h2 => .ok (.lst xs) h2))
    ⟨r1, h1, [], [], .laid hD, q1.laid hD, upd_same, .nil, unD, Nat.le_refl _, hp1⟩ (fun i H2 _ ⟨r2, h2, acc, ws, f2, q2, _, _, _, _, hp2⟩ => ?_) ?_ ?_
  · exact (hk r2 h2 H2 f2 q2 (okOf _ (Post.shift backWR f2 hp2))).1
  · rintro i x H2 H3 hin ⟨r2, h2, acc, ws, f2, q2, d2, v2, u2, l2, hp2⟩ hy
    have hok := okOf _ (Post.shift backWR f2 hp2)
    obtain ⟨y, hy1, f3, q3, z3⟩ := (hk r2 h2 H2 f2 q2 hok).2 i x H3 hin hy
    have hdrop : src.items.drop i = y :: src.items.drop (i + 1) := by
      rw [List.drop_eq_getElem_cons hin]
      congr 1
      rw [List.getElem?_eq_getElem hin] at hy1
      exact Option.some.inj hy1
    rw [hdrop] at hp2
    unfold lcL at hp2
    rw [if_pos hok] at hp2
    have e2 : ER G r2 h2.length H3 (wipeA a vs) (L2.wipe s vs) := ((e1.fw q1.mm f2).fw q2.mm f3).wipe vs
    refine hg r2 h2 H3 (wipeA a vs) (L2.wipe s vs) y x _ q3 e2 z3 ?_
    cases zg : g y (wipeA a vs) with
    | none => rw [zg] at hp2; exact hp2.elim
    | some a3 =>
      rw [zg] at hp2
      refine ⟨a3, rfl, fun s3 e3 l3 k3 => ⟨?_, ?_⟩⟩
      · exact (wipe_eq l3 fun j hj => k3 j fun z => hj (hix j z)).trans wipe_wipe
      · have d3 : H3 D = some (.lst ws) := f3.keep _ _ d2 u2
        refine hc r2 h2 H3 a3 s3 _ q3 e3 ?_
        have hp3 : Post G (WR G) (fun c d => W c d s) r1 h1.length H1 Q ((match c a3 h2 with
          | .ok true h1 => (match (f a3 h1).bind bx with
            | .ok y h2 => lcL g c f src (wipeA a vs) (acc ++ [y]) (src.items.drop (i + 1)) h2
            | _ => .stuck)
          | .ok false h1 => lcL g c f src (wipeA a vs) acc (src.items.drop (i + 1)) h1
          | _ => .stuck).bind fun xs h2 => .ok (.lst xs) h2) := hp2
        cases zc : c a3 h2 with
        | exc c xs h4 => rw [zc] at hp3; exact hp3.elim
        | stuck => rw [zc] at hp3; exact hp3.elim
        | ok b h4 =>
          rw [zc] at hp3
          intro r4 H4 b' f4 q4 zb
          subst zb
          have d4 : H4 D = some (.lst ws) := f4.keep _ _ d3 u2
          have u4 : ∀ i, i < h4.length → r4 i ≠ D := f4.un d3 u2
          cases b with
          | false =>
            rw [if_neg Bool.false_ne_true]
            exact ⟨r4, h4, acc, ws, f2.trans (f3.trans f4), q4, d4, (v2.fw q2.mm f3).fw q3.mm f4, u4, Nat.le_succ_of_le l2, hp3⟩
          | true =>
            rw [if_pos rfl]
            refine hf r4 h4 H4 a3 s3 _ q4 (e3.fw q3.mm f4) ?_
            have hp4 : Post G (WR G) (fun c d => W c d s) r1 h1.length H1 Q ((match (f a3 h4).bind bx with
              | .ok y h2 => lcL g c f src (wipeA a vs) (acc ++ [y]) (src.items.drop (i + 1)) h2
              | _ => .stuck).bind fun xs h2 => .ok (.lst xs) h2) := hp3
            cases zf : f a3 h4 with
            | exc c xs h5 => rw [zf] at hp4; exact hp4.elim
            | stuck => rw [zf] at hp4; exact hp4.elim
            | ok v h5 =>
              rw [zf, R.bind_ok] at hp4
              intro r5 H5 w f5 q5 z5
              obtain ⟨v6, h6, r6, eb, f6, q6, z6⟩ := bx_ok f5 q5 z5
              rw [eb] at hp4
              have d6 : H5 D = some (.lst ws) := f6.keep _ _ d4 u4
              have u6 : ∀ i, i < h6.length → r6 i ≠ D := f6.un d4 u4
              have hl : ws.length = acc.length := v2.length.symm
              have f1to : Fw r1 h1.length H1 r6 h6.length H5 := f2.trans (f3.trans (f4.trans f6))
              refine ⟨ws, d6, by rw [sizeLine_eq, hl]; omega, r6, h6, acc ++ [v6], ws ++ [w], f1to.side hD, q6.side d6 u6, upd_same, ?_, u6, by rw [List.length_append]; exact Nat.succ_le_succ l2, hp4⟩
              exact ((((v2.fw q2.mm f3).fw q3.mm f4).fw q4.mm f6).append (.cons z6 .nil)).side d6
  · rintro H2 ⟨r2, h2, acc, ws, f2, q2, d2, v2, u2, l2, hp2⟩
    have hok := okOf _ (Post.shift backWR f2 hp2)
    rw [List.drop_length] at hp2
    unfold lcL at hp2
    rw [if_pos hok] at hp2
    exact hp2 r2 H2 _ f2 q2 (.tmp d2 v2 u2 hD)
end
end Sm

namespace Sm
open PySem L2
/-! ### a def -/
def mDef (n : Nat) (fb : En → Hs → Rs) : List A → Hs → R A := fun xs h => match fb (xs.map some ++ List.replicate (n - xs.length) none) h with
  | .nx _ h' => .ok .non h'
  | .rt v h' => .ok v h'
  | .exc c ys _ h' => .exc c ys h'
  | _ => .stuck
theorem run_def {G : Cn} {N : List Str} {t : TS} {fb : En → Hs → Rs} {k : Nat} {vs : List V} {H : Hp} {Q : VK} {E : XK} (hs : SS G (fun c d _ H => E c d H) t fb) (h : spOf G k (mDef N.length fb) vs H Q E) :
    t { nx := fun _ H' => Q .non H', rt := Q } (L2.start N vs) H := by
  obtain ⟨r, h, xs, q, z, hl, hp⟩ := h
  refine hs r h H (xs.map some ++ List.replicate (N.length - xs.length) none) _ _ q ?_ ?_
  · unfold L2.start
    rw [← z.length]
    exact ER.start _ z
  · unfold mDef at hp
    cases zf : fb (xs.map some ++ List.replicate (N.length - xs.length) none) h with
    | nx a h' => rw [zf] at hp; exact fun r' H' s' f q' e => hp r' H' .non f q' (.val .non)
    | rt v h' => rw [zf] at hp; exact hp
    | exc c ys a h' => rw [zf] at hp; exact fun r' H' d s' f q' e x => hp r' H' d f q' x
    | bk a h' => rw [zf] at hp; exact hp.elim
    | ct a h' => rw [zf] at hp; exact hp.elim
    | stuck => rw [zf] at hp; exact hp.elim
section
variable {P : Program} {w : World} {K : PySem.W.Frag} {mg : Str → Option Value} {base : Heap} {x qual : Str} {params : Arguments} {body : List Stmt} {scope : Scope} {dvs : List V} {kws : List (Str × V)} {f : Addr} {fd : FuncData}
theorem ok_def {N ps : List Str} {k : Nat} (G : Cn) (F : FunD K x qual params body scope dvs kws f fd) (S : FnScope N ps scope) (fb : En → Hs → Rs)
    (hb : ∀ (cdv : Value) (A : Around) (outer : List Env) (s : Shared) (H : Hp) (E : XK), Room k (cxOf (L2.CX P w) P w K mg base N qual scope f cdv A outer s H E).A → Takes (cxOf (L2.CX P w) P w K mg base N qual scope f cdv A outer s H E) (fun c d _ H => E c d H) →
      PassesOwn (model P w) (cxOf (L2.CX P w) P w K mg base N qual scope f cdv A outer s H E).A (cxOf (L2.CX P w) P w K mg base N qual scope f cdv A outer s H E).env (cxOf (L2.CX P w) P w K mg base N qual scope f cdv A outer s H E).xe →
      ∃ t, PSs (cxOf (L2.CX P w) P w K mg base N qual scope f cdv A outer s H E) body t ∧ SS G (fun c d _ H => E c d H) t fb) :
    FnOk P w K mg base (L2.CX P w) (k + 1) f fd ps (spOf G ps.length (mDef N.length fb)) := by
  refine F.ok S spOf.len fun cdv A outer s H vs Q E hr h => ?_
  obtain ⟨t, ht, hs⟩ := hb cdv A outer s H E hr (takes_of rfl rfl rfl rfl) (passes_of rfl)
  exact ⟨t, ht, run_def hs h⟩
end

/-! ### what a value reads as -/
section
variable {G : Cn} {W : WX}
/-- a list that can be changed -/
def mlist (x : A) (h : Hs) : Option (List A) := match x with
  | .lst xs => some xs
  | .ref n => match h[n]? with
    | some (.lst xs) => some xs
    | _ => none
  | _ => none
theorem mlist_of {r : Nat → Addr} {h : Hs} {H H0 : Hp} {x : A} {v : V} {xs : List A} (q : HR G r h H) (w : WR G H0 r h.length H x v) (e : mlist x h = some xs) : ∃ p vs, v = .ref p ∧ H p = some (.lst vs) ∧ VRs G r h.length H xs vs := by
  cases w with
  | tmp h1 h2 h3 h4 => cases e; exact ⟨_, _, rfl, h1, h2⟩
  | val z =>
    cases z with
    | non => cases e
    | bl b => cases e
    | int i => cases e
    | str y => cases e
    | tup _ _ => cases e
    | rol _ _ => cases e
    | obj _ _ _ _ => cases e
    | @ref i hi =>
      have e' : (match h[i]? with
        | some (.lst xs) => some xs
        | _ => none) = some xs := e
      cases z : h[i]? with
      | none => rw [z] at e'; cases e'
      | some o =>
        rw [z] at e'
        have k := q.ob i o z
        cases o with
        | lst ys => cases e'; obtain ⟨vs, k1, k2⟩ := k; exact ⟨_, _, rfl, k1, k2⟩
        | dct _ => cases e'
        | ins _ _ => cases e'
/-- a list that can be read -/
def rlist (x : A) (h : Hs) : Option (List A) := match x with
  | .rol xs => some xs
  | x => mlist x h
theorem rlist_of {r : Nat → Addr} {h : Hs} {H H0 : Hp} {x : A} {v : V} {xs : List A} (q : HR G r h H) (w : WR G H0 r h.length H x v) (e : rlist x h = some xs) : ∃ p vs, v = .ref p ∧ SqL G.K H p vs ∧ VRs G r h.length H xs vs := by
  by_cases hx : ∃ ys, x = .rol ys
  · obtain ⟨ys, rfl⟩ := hx
    cases e
    cases w with
    | val z =>
      cases z with
      | rol h1 h2 => exact ⟨_, _, rfl, h1.sq, h2⟩
  · have e' : mlist x h = some xs := by
      cases x <;> first | exact e | exact absurd ⟨_, rfl⟩ hx
    obtain ⟨p, vs, h1, h2, h3⟩ := mlist_of q w e'
    exact ⟨p, vs, h1, .inl (.inl h2), h3⟩
theorem WR.of_int {r : Nat → Addr} {n : Nat} {H H0 : Hp} {i : Int} {v : V} (w : WR G H0 r n H (.int i) v) : v = .int i := by cases w with | val z => cases z; rfl
theorem WR.of_str {r : Nat → Addr} {n : Nat} {H H0 : Hp} {i : Str} {v : V} (w : WR G H0 r n H (.str i) v) : v = .str i := by cases w with | val z => cases z; rfl
theorem WR.of_bl {r : Nat → Addr} {n : Nat} {H H0 : Hp} {i : Bool} {v : V} (w : WR G H0 r n H (.bl i) v) : v = .bl i := by cases w with | val z => cases z; rfl
theorem WR.of_non {r : Nat → Addr} {n : Nat} {H H0 : Hp} {v : V} (w : WR G H0 r n H .non v) : v = .non := by cases w with | val z => cases z; rfl
theorem WR.of_tup {r : Nat → Addr} {n : Nat} {H H0 : Hp} {v : V} {xs : List A} (w : WR G H0 r n H (.tup xs) v) : ∃ p vs, v = .ref p ∧ SqT G.K H p vs ∧ VRs G r n H xs vs := by
  cases w with
  | val z => cases z with | tup h1 h2 => exact ⟨_, _, rfl, h1, h2⟩
/-- a new list is told -/
theorem new_lst {r : Nat → Addr} {h : Hs} {H : Hp} {X : XK} {Q : VK} {xs : List A} {vs : List V} (q : HR G r h H) (z : VRs G r h.length H xs vs) (hp : Post G (WR G) X r h.length H Q (.ok (.lst xs) h)) : ∀ p, H p = none → Q (.ref p) (upd H p (.lst vs)) := fun p hn => by
  refine hp r _ _ (.laid hn) (q.laid hn) (.tmp upd_same (z.fw q.mm (.laid hn)) (fun i hi e => ?_) hn)
  have mu := q.mm i hi
  rw [e, hn] at mu
  exact mu
theorem new_tup {r : Nat → Addr} {h : Hs} {H : Hp} {X : XK} {Q : VK} {xs : List A} {vs : List V} (q : HR G r h H) (z : VRs G r h.length H xs vs) (hp : Post G (WR G) X r h.length H Q (.ok (.tup xs) h)) : ∀ p, H p = none → Q (.ref p) (upd H p (.tup vs)) := fun p hn =>
  hp r _ _ (.laid hn) (q.laid hn) (.val (.tup (.inl (.inl upd_same)) (z.fw q.mm (.laid hn))))
/-- a value that stands is told -/
theorem told {r : Nat → Addr} {h : Hs} {H : Hp} {X : XK} {Q : VK} {x : A} {v : V} (q : HR G r h H) (z : VR G r h.length H x v) (hp : Post G (WR G) X r h.length H Q (.ok x h)) : Q v H := hp r H v .refl q (.val z)

/-! ### operators -/
theorem OpR.or {X : Cx} {f : Value → Value → Sem Value} {r r' : R2} (h : OpR X f r) (h' : OpR X f r') : OpR X f (fun x y H Q => r x y H Q ∨ r' x y H Q) := fun pins s σ H x y v u Q I rx ry q => q.elim (h pins s σ H x y v u Q I rx ry) (h' pins s σ H x y v u Q I rx ry)
def rAddU (K : PySem.W.Frag) : R2 := fun x y H Q => (rI0 (fun i j => .int (i + j)) x y H Q ∨ (∃ i j, x = .str i ∧ y = .str j ∧ i.length + j.length ≤ sizeLine ∧ Q (.str (i ++ j)) H)) ∨ rCat x y H Q ∨ rCatA K x y H Q
theorem op_addU {X : Cx} : OpR X (binaryOp .Add) (rAddU X.K) := (op_add.or op_add_str).or (op_cat.or op_catA)
def addA (x y : A) (h : Hs) : R A := match x, y with
  | .int i, .int j => .ok (.int (i + j)) h
  | .str i, .str j => if i.length + j.length ≤ 16777216 then .ok (.str (i ++ j)) h else .stuck
  | .tup xs, .tup ys => if xs.length + ys.length ≤ 16777216 then .ok (.tup (xs ++ ys)) h else .stuck
  | x, y => match mlist x h, mlist y h with
    | some xs, some ys => if xs.length + ys.length ≤ 16777216 then .ok (.lst (xs ++ ys)) h else .stuck
    | _, _ => .stuck
theorem sr_add : SR2 G (rAddU G.K) addA := by
  intro r h H x y v w Ha Hb Q X q z1 z2 hp
  unfold addA at hp
  split at hp
  · rename_i i j
    exact .inl (.inl ⟨i, j, z1.of_int, z2.of_int, told q (.int _) hp⟩)
  · rename_i i j
    split at hp
    · rename_i hz
      exact .inl (.inr ⟨i, j, z1.of_str, z2.of_str, by rw [sizeLine_eq]; exact hz, told q (.str _) hp⟩)
    · exact hp.elim
  · rename_i xs ys
    split at hp
    · rename_i hz
      obtain ⟨p, vs, e1, s1, t1⟩ := z1.of_tup
      obtain ⟨p', us, e2, s2, t2⟩ := z2.of_tup
      refine .inr (.inr ⟨p, p', vs, us, e1, e2, s1, s2, by rw [sizeLine_eq, ← t1.length, ← t2.length]; exact hz, fun e => ?_, fun _ e => ?_, fun _ _ => new_tup q (t1.append t2) hp⟩)
      · subst e
        have : xs = [] := by cases t1; rfl
        subst this
        exact told q (.tup s2 t2) hp
      · subst e
        have : ys = [] := by cases t2; rfl
        subst this
        rw [List.append_nil] at hp
        exact told q (.tup s1 t1) hp
    · exact hp.elim
  · split at hp
    · rename_i xs ys e1 e2
      split at hp
      · rename_i hz
        obtain ⟨p, vs, e1, s1, t1⟩ := mlist_of q z1 e1
        obtain ⟨p', us, e2, s2, t2⟩ := mlist_of q z2 e2
        exact .inr (.inl ⟨p, p', vs, us, e1, e2, s1, s2, by rw [sizeLine_eq, ← t1.length, ← t2.length]; exact hz, new_lst q (t1.append t2) hp⟩)
      · exact hp.elim
    · exact hp.elim
/-- ints alone -/
def intA (c : Int → Int → Prop) [∀ i j, Decidable (c i j)] (g : Int → Int → A) (x y : A) (h : Hs) : R A := match x, y with
  | .int i, .int j => if c i j then .ok (g i j) h else .stuck
  | _, _ => .stuck
theorem sr_int {c C : Int → Int → Prop} [∀ i j, Decidable (c i j)] {g : Int → Int → A} {gv : Int → Int → V} (hc : ∀ i j, c i j → C i j) (hg : ∀ i j r n H, VR G r n H (g i j) (gv i j)) : SR2 G (rI C gv) (intA c g) := by
  intro r h H x y v w Ha Hb Q X q z1 z2 hp
  unfold intA at hp
  split at hp
  · rename_i i j
    split at hp
    · rename_i hz
      exact ⟨i, j, z1.of_int, z2.of_int, hc i j hz, told q (hg _ _ _ _ _) hp⟩
    · exact hp.elim
  · exact hp.elim
def intA0 (g : Int → Int → A) (x y : A) (h : Hs) : R A := match x, y with
  | .int i, .int j => .ok (g i j) h
  | _, _ => .stuck
theorem sr_int0 {g : Int → Int → A} {gv : Int → Int → V} (hg : ∀ i j r n H, VR G r n H (g i j) (gv i j)) : SR2 G (rI0 gv) (intA0 g) := by
  intro r h H x y v w Ha Hb Q X q z1 z2 hp
  unfold intA0 at hp
  split at hp
  · rename_i i j
    exact ⟨i, j, z1.of_int, z2.of_int, told q (hg _ _ _ _ _) hp⟩
  · exact hp.elim
def subA : A → A → Hs → R A := intA0 fun i j => .int (i - j)
theorem sr_sub : SR2 G (rI0 fun i j => .int (i - j)) subA := sr_int0 fun _ _ _ _ _ => .int _
def ltA : A → A → Hs → R A := intA0 fun i j => .bl (decide (i < j))
theorem sr_lt : SR2 G (rI0 fun i j => .bl (decide (i < j))) ltA := sr_int0 fun _ _ _ _ _ => .bl _
def leA : A → A → Hs → R A := intA0 fun i j => .bl (decide (i ≤ j))
theorem sr_le : SR2 G (rI0 fun i j => .bl (decide (i ≤ j))) leA := sr_int0 fun _ _ _ _ _ => .bl _
def gtA : A → A → Hs → R A := intA0 fun i j => .bl (decide (j < i))
theorem sr_gt : SR2 G (rI0 fun i j => .bl (decide (j < i))) gtA := sr_int0 fun _ _ _ _ _ => .bl _
def geA : A → A → Hs → R A := intA0 fun i j => .bl (decide (j ≤ i))
theorem sr_ge : SR2 G (rI0 fun i j => .bl (decide (j ≤ i))) geA := sr_int0 fun _ _ _ _ _ => .bl _
def modA : A → A → Hs → R A := intA (fun _ j => j ≠ 0) fun i j => .int (i.fmod j)
theorem sr_mod : SR2 G (rI (fun _ j => j ≠ 0) fun i j => .int (i.fmod j)) modA := sr_int (fun _ _ h => h) fun _ _ _ _ _ => .int _
/-- // by a positive number -/
def fdivA : A → A → Hs → R A := intA (fun _ j => 0 < j ∧ j.natAbs.log2 < 9000) fun i j => .int (i / j)
theorem sr_fdiv : SR2 G (rI CDivW fun i j => .int (i / j)) fdivA := sr_int (fun _ _ h => h) fun _ _ _ _ _ => .int _
def powA : A → A → Hs → R A := intA (fun i j => 0 ≤ j ∧ j ≤ 1000000 ∧ i.natAbs < 2 ^ 64) fun i j => .int (i ^ j.toNat)
theorem sr_pow : SR2 G (rI CPow fun i j => .int (i ^ j.toNat)) powA := sr_int (fun _ _ h => h) fun _ _ _ _ _ => .int _
/-- ints; a list so many times -/
def rMulU : R2 := fun x y H Q => rI CMul (fun i j => .int (i * j)) x y H Q ∨ rRep x y H Q
theorem op_mulU {X : Cx} : OpR X (binaryOp .Mult) rMulU := op_mul.or op_rep
def mulA (x y : A) (h : Hs) : R A := match x, y with
  | .int i, .int j => if (-(2 ^ 64) < i ∧ i < 2 ^ 64) ∨ (-(2 ^ 64) < j ∧ j < 2 ^ 64) then .ok (.int (i * j)) h else .stuck
  | x, .int k => match mlist x h with
    | some xs => if -(2 ^ 63) ≤ k ∧ k < 2 ^ 63 ∧ xs.length * k.toNat ≤ 16777216 then .ok (.lst (List.replicate k.toNat xs).flatten) h else .stuck
    | _ => .stuck
  | _, _ => .stuck
theorem VRs.rep {r : Nat → Addr} {n : Nat} {H : Hp} {xs : List A} {vs : List V} (z : VRs G r n H xs vs) : ∀ k : Nat, VRs G r n H (List.replicate k xs).flatten (List.replicate k vs).flatten
  | 0 => .nil
  | k + 1 => by
    rw [List.replicate_succ, List.replicate_succ, List.flatten_cons, List.flatten_cons]
    exact z.append (VRs.rep z k)
theorem sr_mul : SR2 G rMulU mulA := by
  intro r h H x y v w Ha Hb Q X q z1 z2 hp
  unfold mulA at hp
  split at hp
  · rename_i i j
    split at hp
    · rename_i hz
      exact .inl ⟨i, j, z1.of_int, z2.of_int, hz, told q (.int _) hp⟩
    · exact hp.elim
  · rename_i k _
    split at hp
    · rename_i xs e
      split at hp
      · rename_i hz
        obtain ⟨p, vs, e1, s1, t1⟩ := mlist_of q z1 e
        exact .inr ⟨p, k, vs, e1, z2.of_int, s1, hz.1, hz.2.1, by rw [sizeLine_eq, ← t1.length]; exact hz.2.2, new_lst q (t1.rep _) hp⟩
      · exact hp.elim
    · exact hp.elim
  · exact hp.elim
def negA (x : A) (h : Hs) : R A := match x with
  | .int i => .ok (.int (-i)) h
  | _ => .stuck
theorem sr_neg : SR1 G (rU fun i => .int (-i)) negA := by
  intro r h H x v Ha Q X q z1 hp
  unfold negA at hp
  split at hp
  · rename_i i
    exact ⟨i, z1.of_int, told q (.int _) hp⟩
  · exact hp.elim
/-! ### is None -/
def isNon : A → Bool
  | .non => true
  | _ => false
def isNA (x y : A) (h : Hs) : R A := match y with
  | .non => .ok (.bl (isNon x)) h
  | _ => .stuck
def notNA (x y : A) (h : Hs) : R A := match y with
  | .non => .ok (.bl (!isNon x)) h
  | _ => .stuck
theorem WR.non_iff {r : Nat → Addr} {n : Nat} {H H0 : Hp} {x : A} {v : V} (w : WR G H0 r n H x v) : decide (v = .non) = isNon x := by
  cases w with
  | tmp _ _ _ _ => rfl
  | val z => cases z <;> rfl
theorem sr_isN : SR2 G (fun x y H Q => y = .non ∧ Q (.bl (decide (x = .non))) H) isNA := by
  intro r h H x y v w Ha Hb Q X q z1 z2 hp
  unfold isNA at hp
  split at hp
  · refine ⟨z2.of_non, ?_⟩
    rw [z1.non_iff]
    exact told q (.bl _) hp
  · exact hp.elim
theorem sr_notN : SR2 G (fun x y H Q => y = .non ∧ Q (.bl (!decide (x = .non))) H) notNA := by
  intro r h H x y v w Ha Hb Q X q z1 z2 hp
  unfold notNA at hp
  split at hp
  · refine ⟨z2.of_non, ?_⟩
    rw [z1.non_iff]
    exact told q (.bl _) hp
  · exact hp.elim
/-! ### chains -/
def eChain (f g : A → A → Hs → R A) (fa fb fc : En → Hs → R A) : En → Hs → R A := fun a h => (fa a h).bind fun x h1 => (fb a h1).bind fun y h2 => (f x y h2).bind fun z h3 => match z with
  | .bl true => (fc a h3).bind fun w h4 => g y w h4
  | .bl false => .ok (.bl false) h3
  | _ => .stuck
theorem se_chain {ta tb tc : TE} {fa fb fc : En → Hs → R A} {r2 r3 : R2} {f g : A → A → Hs → R A} (hr : SR2 G r2 f) (hr3 : SR2 G r3 g) (ha : SE G W ta fa) (hb : SE G W tb fb) (hc : SE G W tc fc) : SE G W (tChain r2 r3 ta tb tc) (eChain f g fa fb fc) := by
  intro r h H a s Q q e hp
  refine ha r h H a s _ q e (Post.bind backWR hp fun x h1 r1 H1 v f1 q1 z1 hp1 => ?_)
  refine hb r1 h1 H1 a s _ q1 (e.fw q.mm f1) (Post.bind backWR hp1 fun y h2 r2 H2 w f2 q2 z2 hp2 => ?_)
  refine hr r2 h2 H2 x y v w H H1 _ _ q2 (z1.fw q1.mm f2) z2 (Post.bind backWR hp2 fun z h3 r3 H3 u f3 q3 z3 hp3 => ?_)
  have e3 := e.fw q.mm (f1.trans (f2.trans f3))
  have z23 := z2.fw q2.mm f3
  cases z with
  | bl b =>
    refine ⟨b, z3.of_bl, ?_⟩
    cases b with
    | true =>
      rw [if_pos rfl]
      refine hc r3 h3 H3 a s _ q3 e3 (Post.bind backWR hp3 fun k h4 r4 H4 o f4 q4 z4 hp4 => ?_)
      exact hr3 r4 h4 H4 y k w o H1 H3 _ _ q4 (z23.fw q3.mm f4) z4 hp4
    | false =>
      rw [if_neg Bool.false_ne_true]
      exact told q3 (.bl false) hp3
  | _ => exact hp3.elim
end
end Sm

namespace Sm
open PySem L2
/-! ### data -/
def mapO {α β : Type} (f : α → Option β) : List α → Option (List β)
  | [] => some []
  | x :: xs => match f x, mapO f xs with
    | some y, some ys => some (y :: ys)
    | _, _ => none
theorem mapO_cons {α β : Type} {f : α → Option β} {x : α} {xs : List α} {l : List β} (h : mapO f (x :: xs) = some l) : ∃ y ys, f x = some y ∧ mapO f xs = some ys ∧ l = y :: ys := by
  unfold mapO at h
  cases e1 : f x with
  | none => rw [e1] at h; cases h
  | some y =>
    cases e2 : mapO f xs with
    | none => rw [e1, e2] at h; cases h
    | some ys => rw [e1, e2] at h; cases h; exact ⟨y, ys, rfl, rfl, rfl⟩
/-- what a value is as data, of at most k levels -/
def rdD : Nat → Hs → A → Option PyData
  | 0, _, _ => none
  | k + 1, h, x => match x with
    | .non => some .none
    | .bl b => some (.bool b)
    | .int i => some (.int i)
    | .str s => if PyData.strOk s = true then some (.str s) else none
    | .tup xs => (mapO (rdD k h) xs).map .tuple
    | .lst xs => (mapO (rdD k h) xs).map .list
    | .rol xs => (mapO (rdD k h) xs).map .list
    | .ref n => match h[n]? with
      | some (.lst xs) => (mapO (rdD k h) xs).map .list
      | _ => none
    | .obj _ _ => none
section
variable {G : Cn} {W : WX}
theorem rdD_all {r : Nat → Addr} {h : Hs} {H : Hp} {k : Nat} (ih : ∀ (x : A) (v : V) (d : PyData), VR G r h.length H x v → rdD k h x = some d → Dp G.K H v d) : ∀ {xs : List A} {vs : List V} {ds : List PyData}, VRs G r h.length H xs vs → mapO (rdD k h) xs = some ds → DpAll G.K H vs ds
  | _, _, ds, .nil, e => by cases e; exact .nil
  | _, _, ds, .cons z zs, e => by
    obtain ⟨y, ys, e1, e2, rfl⟩ := mapO_cons e
    exact .cons (ih _ _ _ z e1) (rdD_all ih zs e2)
theorem rdD_dp {r : Nat → Addr} {h : Hs} {H : Hp} (q : HR G r h H) : ∀ (k : Nat) (x : A) (v : V) (d : PyData), VR G r h.length H x v → rdD k h x = some d → Dp G.K H v d
  | 0, _, _, _, _, e => by cases e
  | k + 1, x, v, d, z, e => by
    have ih := rdD_dp q k
    have opt : ∀ {xs : List A} {c : List PyData → PyData}, (mapO (rdD k h) xs).map c = some d → ∃ ds, mapO (rdD k h) xs = some ds ∧ d = c ds := fun {xs c} e => by
      cases e1 : mapO (rdD k h) xs with
      | none => rw [e1] at e; cases e
      | some ds => rw [e1] at e; cases e; exact ⟨ds, rfl, rfl⟩
    cases z with
    | non => cases e; exact .non
    | bl b => cases e; exact .bl b
    | int i => cases e; exact .int i
    | str s =>
      have e' : (if PyData.strOk s = true then some (PyData.str s) else none) = some d := e
      split at e'
      · cases e'; exact .str s
      · cases e'
    | tup h1 h2 => obtain ⟨ds, e1, rfl⟩ := opt e; exact .tup h1 (rdD_all ih h2 e1)
    | rol h1 h2 => obtain ⟨ds, e1, rfl⟩ := opt e; exact .lst h1.sq (rdD_all ih h2 e1)
    | obj _ _ _ _ => cases e
    | @ref i hi =>
      have e' : (match h[i]? with
        | some (.lst xs) => (mapO (rdD k h) xs).map PyData.list
        | _ => none) = some d := e
      cases zz : h[i]? with
      | none => rw [zz] at e'; cases e'
      | some o =>
        rw [zz] at e'
        have kk := q.ob i o zz
        cases o with
        | dct _ => cases e'
        | ins _ _ => cases e'
        | lst xs =>
          obtain ⟨vs, k1, k2⟩ := kk
          obtain ⟨ds, e1, rfl⟩ := opt e'
          exact .lst (.inl (.inl k1)) (rdD_all ih k2 e1)
theorem rdD_wr {r : Nat → Addr} {h : Hs} {H H0 : Hp} (q : HR G r h H) {k : Nat} {x : A} {v : V} {d : PyData} (w : WR G H0 r h.length H x v) (e : rdD k h x = some d) : Dp G.K H v d := by
  cases w with
  | val z => exact rdD_dp q k x v d z e
  | tmp h1 h2 h3 h4 =>
    cases k with
    | zero => cases e
    | succ k =>
      have e' : (mapO (rdD k h) _).map PyData.list = some d := e
      rename_i xs _
      cases e1 : mapO (rdD k h) xs with
      | none => rw [e1] at e'; cases e'
      | some ds => rw [e1] at e'; cases e'; exact .lst (.inl (.inl h1)) (rdD_all (rdD_dp q k) h2 e1)
theorem rdD_lay {h : Hs} : ∀ (k : Nat) (x : A) (d : PyData), rdD k h x = some d → d.canLay0 = true ∧ d.depth ≤ k
  | 0, _, _, e => by cases e
  | k + 1, x, d, e => by
    have ih := rdD_lay (h := h) k
    have all : ∀ {xs : List A} {ds : List PyData}, mapO (rdD k h) xs = some ds → PyData.canLayAll0 ds = true ∧ PyData.depthAll ds ≤ k := fun {xs} => by
      induction xs with
      | nil => intro ds e; cases e; exact ⟨by simp only [PyData.canLayAll0], by simp only [PyData.depthAll]; exact Nat.zero_le _⟩
      | cons x xs ih2 =>
        intro ds e
        obtain ⟨y, ys, e1, e2, rfl⟩ := mapO_cons e
        obtain ⟨a1, a2⟩ := ih _ _ e1
        obtain ⟨b1, b2⟩ := ih2 e2
        refine ⟨by simp only [PyData.canLayAll0, a1, b1, Bool.and_self], ?_⟩
        simp only [PyData.depthAll]
        omega
    have tupc : ∀ {xs : List A}, (mapO (rdD k h) xs).map PyData.tuple = some d → d.canLay0 = true ∧ d.depth ≤ k + 1 := fun {xs} e => by
      cases e1 : mapO (rdD k h) xs with
      | none => rw [e1] at e; cases e
      | some ds =>
        rw [e1] at e
        cases e
        obtain ⟨a1, a2⟩ := all e1
        refine ⟨by simp only [PyData.canLay0]; exact a1, ?_⟩
        simp only [PyData.depth]
        omega
    have lstc : ∀ {xs : List A}, (mapO (rdD k h) xs).map PyData.list = some d → d.canLay0 = true ∧ d.depth ≤ k + 1 := fun {xs} e => by
      cases e1 : mapO (rdD k h) xs with
      | none => rw [e1] at e; cases e
      | some ds =>
        rw [e1] at e
        cases e
        obtain ⟨a1, a2⟩ := all e1
        refine ⟨by simp only [PyData.canLay0]; exact a1, ?_⟩
        simp only [PyData.depth]
        omega
    cases x with
    | non => cases e; exact ⟨by simp only [PyData.canLay0], by simp only [PyData.depth]; exact Nat.zero_le _⟩
    | bl b => cases e; exact ⟨by simp only [PyData.canLay0], by simp only [PyData.depth]; exact Nat.zero_le _⟩
    | int i => cases e; exact ⟨by simp only [PyData.canLay0], by simp only [PyData.depth]; exact Nat.zero_le _⟩
    | str s =>
      have e' : (if PyData.strOk s = true then some (PyData.str s) else none) = some d := e
      split at e'
      · rename_i hs
        cases e'
        exact ⟨by simp only [PyData.canLay0]; exact hs, by simp only [PyData.depth]; exact Nat.zero_le _⟩
      · cases e'
    | tup xs => exact tupc e
    | lst xs => exact lstc e
    | rol xs => exact lstc e
    | obj _ _ => cases e
    | ref i =>
      have e' : (match h[i]? with
        | some (.lst xs) => (mapO (rdD k h) xs).map PyData.list
        | _ => none) = some d := e
      cases zz : h[i]? with
      | none => rw [zz] at e'; cases e'
      | some o =>
        rw [zz] at e'
        cases o with
        | dct _ => cases e'
        | ins _ _ => cases e'
        | lst xs => exact lstc e'
theorem rdD_shaped {h : Hs} {k : Nat} {x : A} {d : PyData} (hk : k ≤ 64) (e : rdD k h x = some d) : SeqAt.shaped d = true := by
  obtain ⟨a, b⟩ := rdD_lay k x d e
  unfold SeqAt.shaped
  rw [a, decide_eq_true (Nat.le_trans b hk)]
  rfl
/-! ### == and != -/
/-- a list or tuple against an empty one of its kind, whatever it holds -/
def rEqZ (K : PySem.W.Frag) : R2 := fun x y H Q => ∃ p q vs, x = .ref p ∧ y = .ref q ∧ ((SqT K H p vs ∧ SqT K H q []) ∨ (SqL K H p vs ∧ SqL K H q [])) ∧ Q (.bl vs.isEmpty) H
theorem op_eqZ {X : Cx} (hu : X.A.units + 64 < cLine) : OpR X (compareOp .Eq) (rEqZ X.K) := by
  intro pins s σ H x y v u Q I rx ry h
  obtain ⟨p, q, vs, rfl, rfl, h, hq⟩ := h
  obtain rfl : v = Value.ref p := rx
  obtain rfl : u = Value.ref q := ry
  have hu0 : X.A.units < cLine := by omega
  rcases h with ⟨h1, h2⟩ | ⟨h1, h2⟩
  · obtain ⟨its, rv, ⟨o, ho, hc, n, hd⟩, _⟩ := I.tuple h1
    obtain ⟨its2, rv2, ⟨o2, ho2, hc2, n2, hd2⟩, _⟩ := I.tuple h2
    cases rv2
    have e : ((List.range (min its.toArray.size (#[] : Array Value).size)).all (fun _ => true) && its.toArray.size == (#[] : Array Value).size) = vs.isEmpty := by
      have := rv.length
      cases vs with
      | nil => cases its with
        | nil => rfl
        | cons _ _ => cases this
      | cons a b => cases its with
        | nil => cases this
        | cons _ _ => simp
    have k := SeqAt.RcAt.tuples (A := X.A) (s := s) (e := fun _ => true) (⟨o, ho, hc, n, hd⟩ : s.heap.IsTuple p _) (⟨o2, ho2, hc2, n2, hd2⟩ : s.heap.IsTuple q _) hu0 (fun j _ j2 => absurd j2 (Nat.not_lt_zero _))
    rw [e] at k
    exact k _ _ _ _ ⟨.bl _, H, I, rfl, hq⟩
  · obtain ⟨its, rv, ⟨o, n, ho, hc, _, hd⟩, _⟩ := I.list h1
    obtain ⟨its2, rv2, ⟨o2, n2, ho2, hc2, _, hd2⟩, _⟩ := I.list h2
    cases rv2
    have hl : s.heap.IsList p its.toArray := ⟨_, ho, hc, _, hd⟩
    have hl2 : s.heap.IsList q #[] := ⟨_, ho2, hc2, _, hd2⟩
    cases vs with
    | nil =>
      cases rv
      have k := SeqAt.RcAt.lists (A := X.A) (s := s) (e := fun _ => true) hl hl2 rfl hu0 (fun j _ j2 => absurd j2 (Nat.not_lt_zero _))
      exact k _ _ _ _ ⟨.bl _, H, I, rfl, hq⟩
    | cons a b =>
      cases rv
      exact SeqAt.RcAt.lists_lengths (A := X.A) (s := s) hl hl2 (by simp) hu0 _ _ _ _ ⟨.bl _, H, I, rfl, hq⟩
def rEqU (K : PySem.W.Frag) : R2 := fun x y H Q => (rEq x y H Q ∨ rEqD K x y H Q) ∨ rEqZ K x y H Q
def rNeU (K : PySem.W.Frag) : R2 := fun x y H Q => rNe x y H Q ∨ rNeD K x y H Q
theorem op_eqU {X : Cx} (hu : X.A.units + 64 < cLine) : OpR X (compareOp .Eq) (rEqU X.K) := (op_eq.or (op_eqD hu)).or (op_eqZ hu)
theorem op_neU {X : Cx} (hu : X.A.units + 64 < cLine) : OpR X (compareOp .NotEq) (rNeU X.K) := op_ne.or (op_neD hu)
/-- equal or not, where it is told -/
def eqB (x y : A) (h : Hs) : Option Bool := match x, y with
  | .int i, .int j => some (decide (i = j))
  | .str i, .str j => some (decide (i = j))
  | .bl i, .bl j => some (decide (i = j))
  | x, y => match rdD 60 h x, rdD 60 h y with
    | some d, some e => some (PyData.eqv d e)
    | _, _ => none
/-- is it told by y's being empty? -/
def eqZ (x y : A) (h : Hs) : Option Bool := match y with
  | .tup [] => (match x with
    | .tup xs => some xs.isEmpty
    | _ => none)
  | .tup _ => none
  | y => match rlist y h with
    | some [] => (match rlist x h with
      | some xs => some xs.isEmpty
      | none => none)
    | _ => none
def eqA (x y : A) (h : Hs) : R A := match eqZ x y h with
  | some b => .ok (.bl b) h
  | none => match eqB x y h with
    | some b => .ok (.bl b) h
    | none => .stuck
theorem eqZ_of {r : Nat → Addr} {h : Hs} {H Ha Hb : Hp} {x y : A} {v w : V} {b : Bool} (q : HR G r h H) (z1 : WR G Ha r h.length H x v) (z2 : WR G Hb r h.length H y w) (e : eqZ x y h = some b) :
    ∃ p q vs, v = .ref p ∧ w = .ref q ∧ ((SqT G.K H p vs ∧ SqT G.K H q []) ∨ (SqL G.K H p vs ∧ SqL G.K H q [])) ∧ b = vs.isEmpty := by
  have em : ∀ {xs : List A} {vs : List V}, VRs G r h.length H xs vs → xs.isEmpty = vs.isEmpty := fun z => by cases z <;> rfl
  unfold eqZ at e
  split at e
  · split at e
    · cases e
      obtain ⟨p, vs, e1, s1, t1⟩ := z1.of_tup
      obtain ⟨p2, vs2, e2, s2, t2⟩ := z2.of_tup
      cases t2
      exact ⟨p, p2, vs, e1, e2, .inl ⟨s1, s2⟩, em t1⟩
    · cases e
  · cases e
  · split at e
    · rename_i e0
      split at e
      · rename_i xs e1
        cases e
        obtain ⟨p, vs, f1, s1, t1⟩ := rlist_of q z1 e1
        obtain ⟨p2, vs2, f2, s2, t2⟩ := rlist_of q z2 e0
        cases t2
        exact ⟨p, p2, vs, f1, f2, .inr ⟨s1, s2⟩, em t1⟩
      · cases e
    · cases e
def neA (x y : A) (h : Hs) : R A := match eqB x y h with
  | some b => .ok (.bl (!b)) h
  | none => .stuck
theorem eqB_of {r : Nat → Addr} {h : Hs} {H Ha Hb : Hp} {x y : A} {v w : V} {b : Bool} (q : HR G r h H) (z1 : WR G Ha r h.length H x v) (z2 : WR G Hb r h.length H y w) (e : eqB x y h = some b) :
    (scal v w = true ∧ decide (v = w) = b) ∨ ∃ d d', Dp G.K H v d ∧ Dp G.K H w d' ∧ SeqAt.shaped d = true ∧ SeqAt.shaped d' = true ∧ PyData.eqv d d' = b := by
  unfold eqB at e
  split at e
  · cases e
    have h1 := z1.of_int
    have h2 := z2.of_int
    subst h1 h2
    refine .inl ⟨rfl, ?_⟩
    rw [decide_eq_decide]
    exact ⟨fun k => V.int.inj k, fun k => by rw [k]⟩
  · cases e
    have h1 := z1.of_str
    have h2 := z2.of_str
    subst h1 h2
    refine .inl ⟨rfl, ?_⟩
    rw [decide_eq_decide]
    exact ⟨fun k => V.str.inj k, fun k => by rw [k]⟩
  · cases e
    have h1 := z1.of_bl
    have h2 := z2.of_bl
    subst h1 h2
    refine .inl ⟨rfl, ?_⟩
    rw [decide_eq_decide]
    exact ⟨fun k => V.bl.inj k, fun k => by rw [k]⟩
  · split at e
    · rename_i d d' e1 e2
      cases e
      exact .inr ⟨d, d', rdD_wr q z1 e1, rdD_wr q z2 e2, rdD_shaped (by decide) e1, rdD_shaped (by decide) e2, rfl⟩
    · cases e
theorem sr_eq : SR2 G (rEqU G.K) eqA := by
  intro r h H x y v w Ha Hb Q X q z1 z2 hp
  unfold eqA at hp
  split at hp
  · rename_i b e
    obtain ⟨p, p2, vs, e1, e2, e3, rfl⟩ := eqZ_of q z1 z2 e
    exact .inr ⟨p, p2, vs, e1, e2, e3, told q (.bl _) hp⟩
  · split at hp
    · rename_i b e
      rcases eqB_of q z1 z2 e with ⟨k1, k2⟩ | ⟨d, d', k1, k2, k3, k4, k5⟩
      · exact .inl (.inl ⟨k1, by rw [k2]; exact told q (.bl _) hp⟩)
      · exact .inl (.inr ⟨d, d', k1, k2, k3, k4, by rw [k5]; exact told q (.bl _) hp⟩)
    · exact hp.elim
theorem sr_ne : SR2 G (rNeU G.K) neA := by
  intro r h H x y v w Ha Hb Q X q z1 z2 hp
  unfold neA at hp
  split at hp
  · rename_i b e
    rcases eqB_of q z1 z2 e with ⟨k1, k2⟩ | ⟨d, d', k1, k2, k3, k4, k5⟩
    · exact .inl ⟨k1, by rw [k2]; exact told q (.bl _) hp⟩
    · exact .inr ⟨d, d', k1, k2, k3, k4, by rw [k5]; exact told q (.bl _) hp⟩
  · exact hp.elim

/-! ### items, slices -/
theorem atI_vr {r : Nat → Addr} {n : Nat} {H : Hp} {xs : List A} {vs : List V} {i : Int} {x : A} (z : VRs G r n H xs vs) (e : atI xs i = some x) : ∃ v, atI vs i = some v ∧ VR G r n H x v := by
  unfold atI at e ⊢
  rw [← z.length]
  cases e1 : ixN xs.length i with
  | none => rw [e1] at e; cases e
  | some j => rw [e1] at e; exact z.get e
def ixA (x y : A) (h : Hs) : R A := match y with
  | .int i => match x with
    | .tup xs => (match atI xs i with
      | some v => .ok v h
      | none => .stuck)
    | .str z => if z.length ≤ 16777216 then (match atI z.cps.toList i with
      | some c => .ok (.str ⟨#[c]⟩) h
      | none => .stuck) else .stuck
    | x => match rlist x h with
      | some xs => (match atI xs i with
        | some v => .ok v h
        | none => .stuck)
      | none => .stuck
  | _ => .stuck
theorem sr_ix : SR2 G (rIx G.K) ixA := by
  intro r h H x y v w Ha Hb Q X q z1 z2 hp
  unfold ixA at hp
  split at hp
  · rename_i i
    have hw := z2.of_int
    split at hp
    · rename_i xs
      split at hp
      · rename_i u e
        obtain ⟨p, vs, e1, s1, t1⟩ := z1.of_tup
        obtain ⟨u', e2, t2⟩ := atI_vr t1 e
        exact .inr (.inl ⟨p, vs, i, u', e1, hw, s1, e2, told q t2 hp⟩)
      · exact hp.elim
    · rename_i z
      split at hp
      · rename_i hz
        split at hp
        · rename_i c e
          exact .inr (.inr ⟨z, i, c, z1.of_str, hw, by rw [sizeLine_eq]; exact hz, e, told q (.str _) hp⟩)
        · exact hp.elim
      · exact hp.elim
    · split at hp
      · rename_i xs e0
        split at hp
        · rename_i u e
          obtain ⟨p, vs, e1, s1, t1⟩ := rlist_of q z1 e0
          obtain ⟨u', e2, t2⟩ := atI_vr t1 e
          exact .inl ⟨p, vs, i, u', e1, hw, s1, e2, told q t2 hp⟩
        · exact hp.elim
      · exact hp.elim
  · exact hp.elim
/-- a part of a slice -/
def SO (G : Cn) (W : WX) (t : TO) (f : En → Hs → R (Option Int)) : Prop := ∀ (r : Nat → Addr) (h : Hs) (H : Hp) (a : En) (s : St) (Q : Option Int → Hp → Prop), HR G r h H → ER G r h.length H a s → Post G (fun _ _ _ _ b c => b = c) (fun c d => W c d s) r h.length H Q (f a h) → t s H Q
def oNone : En → Hs → R (Option Int) := fun _ h => .ok none h
theorem so_none : SO G W tNoPart oNone := fun r h H a s Q q e hp => hp r H none .refl q rfl
def oSome (f : En → Hs → R A) : En → Hs → R (Option Int) := fun a h => (f a h).bind fun x h1 => match x with
  | .int i => .ok (some i) h1
  | _ => .stuck
theorem so_some {t : TE} {f : En → Hs → R A} (hf : SE G W t f) : SO G W (tPart t) (oSome f) := by
  intro r h H a s Q q e hp
  refine hf r h H a s _ q e (Post.bind backN hp fun x h1 r1 H1 v f1 q1 z1 hp1 => ?_)
  cases x with
  | int i => exact ⟨i, z1.of_int, hp1 r1 H1 _ .refl q1 rfl⟩
  | _ => exact hp1.elim
def cutA {α : Type} (xs : List α) (lo hi : Option Int) : List α := (xs.drop (HT.sIx xs.length 0 lo)).take (HT.sIx xs.length xs.length hi - HT.sIx xs.length 0 lo)
theorem cut_vr {r : Nat → Addr} {n : Nat} {H : Hp} {xs : List A} {vs : List V} (z : VRs G r n H xs vs) (lo hi : Option Int) : VRs G r n H (cutA xs lo hi) (cutV vs lo hi) := by
  unfold cutA cutV
  rw [← z.length]
  exact (z.drop _).take _
def slA (x : A) (lo hi : Option Int) (h : Hs) : R A := match x with
  | .tup xs => .ok (.tup (cutA xs lo hi)) h
  | .str z => if z.length ≤ 16777216 then .ok (.str (cutS z lo hi)) h else .stuck
  | x => match rlist x h with
    | some xs => .ok (.lst (cutA xs lo hi)) h
    | none => .stuck
def rSlU (K : PySem.W.Frag) : V → Option Int → Option Int → Hp → VK → Prop := fun x lo hi H Q => rSlL K x lo hi H Q ∨ rSlA K x lo hi H Q ∨ rSlS x lo hi H Q
theorem sl_U {X : Cx} : SlR X (rSlU X.K) := sl_list.or (sl_tupA.or sl_str)
def eSl (fe : En → Hs → R A) (fl fh : En → Hs → R (Option Int)) : En → Hs → R A := fun a h => (fe a h).bind fun x h1 => (fl a h1).bind fun l h2 => (fh a h2).bind fun u h3 => slA x l u h3
theorem se_sl {te : TE} {tl th : TO} {fe : En → Hs → R A} {fl fh : En → Hs → R (Option Int)} (he : SE G W te fe) (hl : SO G W tl fl) (hh : SO G W th fh) : SE G W (tSl (rSlU G.K) te tl th) (eSl fe fl fh) := by
  intro r h H a s Q q e hp
  refine he r h H a s _ q e (Post.bind backWR hp fun x h1 r1 H1 v f1 q1 z1 hp1 => ?_)
  have e1 := e.fw q.mm f1
  refine hl r1 h1 H1 a s _ q1 e1 (Post.bind backWR hp1 fun lo h2 r2 H2 lo' f2 q2 zl hp2 => ?_)
  subst zl
  refine hh r2 h2 H2 a s _ q2 (e1.fw q1.mm f2) (Post.bind backWR hp2 fun hi h3 r3 H3 hi' f3 q3 zh hp3 => ?_)
  subst zh
  have z3 := (z1.fw q1.mm f2).fw q2.mm f3
  unfold slA at hp3
  split at hp3
  · rename_i xs
    obtain ⟨p, vs, e1, s1, t1⟩ := z3.of_tup
    refine .inr (.inl ⟨p, vs, e1, s1, fun hw => ?_, fun _ => new_tup q3 (cut_vr t1 lo hi) hp3⟩)
    have : cutA xs lo hi = xs := by
      unfold cutA
      rw [t1.length, hw.1, hw.2]
      rw [List.drop_zero, Nat.sub_zero, List.take_of_length_le (Nat.le_of_eq t1.length)]
    rw [this] at hp3
    exact told q3 (.tup s1 t1) hp3
  · rename_i z
    split at hp3
    · rename_i hz
      exact .inr (.inr ⟨z, z3.of_str, by rw [sizeLine_eq]; exact hz, told q3 (.str _) hp3⟩)
    · exact hp3.elim
  · split at hp3
    · rename_i xs e0
      obtain ⟨p, vs, e1, s1, t1⟩ := rlist_of q3 z3 e0
      exact .inl ⟨p, vs, e1, s1, new_lst q3 (cut_vr t1 lo hi) hp3⟩
    · exact hp3.elim
/-! ### o[i] = e, o.append(e) of a list -/
def setIx (o i x : A) (h : Hs) : Option Hs := match o, i with
  | .ref n, .int k => match h[n]? with
    | some (.lst xs) => (ixN xs.length k).map fun j => h.set n (.lst (xs.set j x))
    | _ => none
  | _, _ => none
def sSetIx (fo fi fe : En → Hs → R A) : En → Hs → Rs := fun a h => ((fe a h).bind bx).toS a fun x h1 => (fo a h1).toS a fun o h2 => (fi a h2).toS a fun i h3 => match setIx o i x h3 with
  | some h4 => .nx a h4
  | none => .stuck
theorem ss_setIx {to ti te : TE} {fo fi fe : En → Hs → R A} (ho : SE G W to fo) (hi : SE G W ti fi) (he : SE G W te fe) : SS G W (tAsg te (gSub to ti rSetL)) (sSetIx fo fi fe) := by
  intro r h H a s D q e hp
  refine he r h H a s _ q e (PostS.bindB q e hp fun x h1 r1 H1 v f1 q1 e1 z1 hp1 => ?_)
  refine ho r1 h1 H1 a s _ q1 e1 (PostS.bind q1 e1 hp1 fun o h2 r2 H2 u f2 q2 e2 z2 hp2 => ?_)
  refine hi r2 h2 H2 a s _ q2 e2 (PostS.bind q2 e2 hp2 fun i h3 r3 H3 y f3 q3 e3 z3 hp3 => ?_)
  have zx := (z1.fw q1.mm f2).fw q2.mm f3
  have zo := z2.fw q2.mm f3
  unfold setIx at hp3
  split at hp3
  · rename_i h4 e4
    split at e4
    · rename_i n k
      split at e4
      · rename_i xs e5
        cases e6 : ixN xs.length k with
        | none => rw [e6] at e4; cases e4
        | some j =>
          rw [e6] at e4
          cases e4
          have hn : n < h3.length := (List.getElem?_eq_some_iff.mp e5).1
          obtain ⟨vs, k1, k2⟩ := q3.ob n _ e5
          have hu : u = .ref (r3 n) := by
            cases zo with
            | val z => cases z; rfl
          refine ⟨r3 n, vs, k, j, hu, z3.of_int, k1, by rw [← k2.length]; exact e6, ?_⟩
          have hl : (h3.set n (.lst (xs.set j x))).length = h3.length := List.length_set ..
          refine hp3 r3 _ s ?_ (q3.put hn (k2.set zx j) (fun C dx fs z => by rw [k1] at z; cases z)) ?_
          · rw [hl]; exact .put hn
          · rw [hl]; exact e3.fw q3.mm (.put hn)
      · cases e4
    · cases e4
  · exact hp3.elim
def appA (o x : A) (h : Hs) : R A := match o with
  | .ref n => match h[n]? with
    | some (.lst xs) => if xs.length < 16777216 then .ok .non (h.set n (.lst (xs ++ [x]))) else .stuck
    | _ => .stuck
  | _ => .stuck
def isLst (o : A) (h : Hs) : Bool := match o with
  | .ref n => (match h[n]? with
    | some (.lst _) => true
    | _ => false)
  | _ => false
theorem isLst_of {o : A} {h : Hs} (e : isLst o h = true) : ∃ n xs, o = .ref n ∧ h[n]? = some (.lst xs) := by
  unfold isLst at e
  split at e
  · rename_i n
    split at e
    · rename_i xs ex
      exact ⟨n, xs, rfl, ex⟩
    · cases e
  · cases e
/-- a method of a list that an index has, with one argument -/
def SM1 (G : Cn) (rm : V → List V → Hp → VK → Prop) (f : A → A → Hs → R A) : Prop := ∀ (r : Nat → Addr) (h : Hs) (H : Hp) (o x : A) (u v : V) (Q : VK) (X : XK), HR G r h H → VR G r h.length H o u → VR G r h.length H x v → Post G (WR G) X r h.length H Q (f o x h) → rm u [v] H Q
def eLm1 (f : A → A → Hs → R A) (fo fe : En → Hs → R A) : En → Hs → R A := fun a h => (fo a h).bind fun o h1 => if isLst o h1 = true then ((fe a h1).bind bx).bind fun x h2 => f o x h2 else .stuck
theorem se_lm1 {rm : V → List V → Hp → VK → Prop} {f : A → A → Hs → R A} {to te : TE} {fo fe : En → Hs → R A} (hm : SM1 G rm f) (ho : SE G W to fo) (he : SE G W te fe) : SE G W (tBM G.K "list" rm to (tCons te tNil)) (eLm1 f fo fe) := by
  intro r h H a s Q q e hp
  refine ho r h H a s _ q e (Post.bind backWR hp fun o h1 r1 H1 u f1 q1 z1 hp1 => ?_)
  split at hp1
  · rename_i hl
    obtain ⟨n, xs, eo, ex⟩ := isLst_of hl
    subst eo
    have z : VR G r1 h1.length H1 (.ref n) u := by
      cases z1 with
      | val z => exact z
    refine ⟨?_, ?_⟩
    · cases z
      obtain ⟨vs, k1, k2⟩ := q1.ob n _ ex
      exact .inl ⟨rfl, vs, .inl (.inl k1)⟩
    · refine he r1 h1 H1 a s _ q1 (e.fw q.mm f1) (Post.bindB backWR hp1 fun x h2 r2 H2 v f2 q2 z2 hp2 => ?_)
      exact hm r2 h2 H2 _ x u v Q _ q2 (z.fw q1.mm f2) z2 hp2
  · exact hp1.elim
theorem sm_append : SM1 G rAppend appA := by
  intro r h H o x u v Q X q zo zx hp
  unfold appA at hp
  split at hp
  · rename_i n
    split at hp
    · rename_i xs ex
      split at hp
      · rename_i hz
        have hn : n < h.length := (List.getElem?_eq_some_iff.mp ex).1
        obtain ⟨vs, k1, k2⟩ := q.ob n _ ex
        cases zo
        refine ⟨r n, vs, v, rfl, rfl, k1, by rw [sizeLine_eq, ← k2.length]; exact hz, ?_⟩
        have hl : (h.set n (.lst (xs ++ [x]))).length = h.length := List.length_set ..
        refine hp r _ .non ?_ (q.put hn (k2.append (.cons zx .nil)) (fun C dx fs z => by rw [k1] at z; cases z)) (.val .non)
        rw [hl]
        exact .put hn
      · exact hp.elim
    · exact hp.elim
  · exact hp.elim
end
end Sm

namespace Sm
open PySem L2
section
variable {G : Cn} {W : WX}
/-! ### built-in functions of one argument -/
def SC1 (G : Cn) (rc : List V → Hp → VK → Prop) (f : A → Hs → R A) : Prop := ∀ (r : Nat → Addr) (h : Hs) (H : Hp) (x : A) (v : V) (Ha : Hp) (Q : VK) (X : XK), HR G r h H → WR G Ha r h.length H x v → Post G (WR G) X r h.length H Q (f x h) → rc [v] H Q
theorem se_cb1 {rc : List V → Hp → VK → Prop} {f : A → Hs → R A} {ta : TE} {fa : En → Hs → R A} (hc : SC1 G rc f) (ha : SE G W ta fa) : SE G W (tCB rc (tCons ta tNil)) (eUn fa f) := fun r h H a s Q q e hp =>
  ha r h H a s _ q e (Post.bind backWR hp fun x h1 r1 H1 v f1 q1 z1 hp1 => hc r1 h1 H1 x v H Q _ q1 z1 hp1)
def rLenU (K : PySem.W.Frag) : List V → Hp → VK → Prop := fun xs H Q => (∃ x n, xs = [x] ∧ LenV K x H n ∧ Q (.int n) H) ∨ ∃ a kvs, xs = [V.ref a] ∧ H a = some (.dK kvs) ∧ Q (.int kvs.length) H
theorem call_lenU {X : Cx} : CallR X (.builtin "len") (rLenU X.K) := call_len.or call_lenD
def dctOf (x : A) (h : Hs) : Option (List (A × A)) := match x with
  | .ref n => (match h[n]? with
    | some (.dct kvs) => some kvs
    | _ => none)
  | _ => none
theorem dct_of {r : Nat → Addr} {h : Hs} {H H0 : Hp} {x : A} {v : V} {kvs : List (A × A)} (q : HR G r h H) (w : WR G H0 r h.length H x v) (e : dctOf x h = some kvs) : ∃ p ks, v = .ref p ∧ H p = some (.dK ks) ∧ KR G r h.length H kvs ks := by
  unfold dctOf at e
  split at e
  · rename_i n
    split at e
    · rename_i kvs ek
      cases e
      obtain ⟨ks, k1, k2⟩ := q.ob n _ ek
      have hv : v = .ref (r n) := by cases w with | val z => cases z; rfl
      exact ⟨r n, ks, hv, k1, k2⟩
    · cases e
  · cases e
def lenA (x : A) (h : Hs) : R A := match x with
  | .tup xs => .ok (.int xs.length) h
  | .str z => if z.length ≤ 16777216 then .ok (.int z.length) h else .stuck
  | x => match rlist x h with
    | some xs => .ok (.int xs.length) h
    | none => match dctOf x h with
      | some kvs => .ok (.int kvs.length) h
      | none => .stuck
theorem KR.length {r : Nat → Addr} {n : Nat} {H : Hp} : ∀ {xs : List (A × A)} {vs : List (Key × V)}, KR G r n H xs vs → xs.length = vs.length
  | _, _, .nil => rfl
  | _, _, .cons _ b => congrArg Nat.succ (KR.length b)
theorem sc_len : SC1 G (rLenU G.K) lenA := by
  intro r h H x v Ha Q X q z hp
  unfold lenA at hp
  split at hp
  · obtain ⟨p, vs, e1, s1, t1⟩ := z.of_tup
    refine .inl ⟨v, _, rfl, ?_, told q (.int _) hp⟩
    rw [e1, t1.length]
    exact .inr ⟨vs, s1, rfl⟩
  · split at hp
    · rename_i y hz
      refine .inl ⟨v, _, rfl, ?_, told q (.int _) hp⟩
      rw [z.of_str]
      exact ⟨by rw [sizeLine_eq]; exact hz, rfl⟩
    · exact hp.elim
  · split at hp
    · rename_i xs e0
      obtain ⟨p, vs, e1, s1, t1⟩ := rlist_of q z e0
      refine .inl ⟨v, _, rfl, ?_, told q (.int _) hp⟩
      rw [e1, t1.length]
      exact .inl ⟨vs, s1, rfl⟩
    · split at hp
      · rename_i kvs ek
        obtain ⟨p, ks, k0, k1, k2⟩ := dct_of q z ek
        refine .inr ⟨p, ks, by rw [k0], k1, ?_⟩
        rw [← k2.length]
        exact told q (.int _) hp
      · exact hp.elim
def rStrU : List V → Hp → VK → Prop := fun xs H Q => (∃ i : Int, xs = [.int i] ∧ i.natAbs.log2 < 1920 ∧ Q (.str (toString i)) H) ∨ ∃ a, xs = [.str a] ∧ Q (.str a) H
theorem call_strU {X : Cx} : CallR X (.type "str") rStrU := call_str_int.or SkE.call_str_str
def strA (x : A) (h : Hs) : R A := match x with
  | .int i => if i.natAbs.log2 < 1920 then .ok (.str (toString i)) h else .stuck
  | .str z => .ok (.str z) h
  | _ => .stuck
theorem sc_str : SC1 G rStrU strA := by
  intro r h H x v Ha Q X q z hp
  unfold strA at hp
  split at hp
  · rename_i i
    split at hp
    · rename_i hz
      exact .inl ⟨i, by rw [z.of_int], hz, told q (.str _) hp⟩
    · exact hp.elim
  · rename_i y
    exact .inr ⟨y, by rw [z.of_str], told q (.str _) hp⟩
  · exact hp.elim
def rIntU : List V → Hp → VK → Prop := fun xs H Q => ((∃ i, xs = [.int i] ∧ Q (.int i) H) ∨ ∃ k, xs = [.bl k] ∧ Q (.int (if k then 1 else 0)) H) ∨ ∃ a n, xs = [.str a] ∧ PySem.intText? a = some n ∧ a.length ≤ 640 ∧ Q (.int n) H
theorem call_intU {X : Cx} : CallR X (.type "int") rIntU := call_int1.or call_int_str
def toIntA (x : A) (h : Hs) : R A := match x with
  | .int i => .ok (.int i) h
  | .bl k => .ok (.int (if k then 1 else 0)) h
  | .str a => if a.length ≤ 640 then (match PySem.intText? a with
    | some n => .ok (.int n) h
    | none => .stuck) else .stuck
  | _ => .stuck
theorem sc_int : SC1 G rIntU toIntA := by
  intro r h H x v Ha Q X q z hp
  unfold toIntA at hp
  split at hp
  · rename_i i
    exact .inl (.inl ⟨i, by rw [z.of_int], told q (.int _) hp⟩)
  · rename_i i
    exact .inl (.inr ⟨i, by rw [z.of_bl], told q (.int _) hp⟩)
  · rename_i y
    split at hp
    · rename_i hz
      split at hp
      · rename_i n e
        exact .inr ⟨y, n, by rw [z.of_str], e, hz, told q (.int _) hp⟩
      · exact hp.elim
    · exact hp.elim
  · exact hp.elim
def rAbs : List V → Hp → VK → Prop := fun xs H Q => ∃ i, xs = [.int i] ∧ Q (.int (if i < 0 then -i else i)) H
def absA (x : A) (h : Hs) : R A := match x with
  | .int i => .ok (.int (if i < 0 then -i else i)) h
  | _ => .stuck
theorem sc_abs : SC1 G rAbs absA := by
  intro r h H x v Ha Q X q z hp
  unfold absA at hp
  split at hp
  · rename_i i
    exact ⟨i, by rw [z.of_int], told q (.int _) hp⟩
  · exact hp.elim
/-- all, any of a list of truth values -/
def blOf : A → Option Bool
  | .bl b => some b
  | _ => none
theorem bls_of {r : Nat → Addr} {n : Nat} {H : Hp} : ∀ {xs : List A} {vs : List V} {bs : List Bool}, VRs G r n H xs vs → mapO blOf xs = some bs → vs = bs.map V.bl
  | _, _, _, .nil, e => by cases e; rfl
  | _, _, _, .cons z zs, e => by
    obtain ⟨y, ys, e1, e2, rfl⟩ := mapO_cons e
    rw [bls_of zs e2]
    cases z <;> first | cases e1; rfl | cases e1
def allA (x : A) (h : Hs) : R A := match rlist x h with
  | some xs => (match mapO blOf xs with
    | some bs => .ok (.bl (bs.all id)) h
    | none => .stuck)
  | none => .stuck
def anyA (x : A) (h : Hs) : R A := match rlist x h with
  | some xs => (match mapO blOf xs with
    | some bs => .ok (.bl (bs.any id)) h
    | none => .stuck)
  | none => .stuck
theorem sc_all : SC1 G (rAll G.K) allA := by
  intro r h H x v Ha Q X q z hp
  unfold allA at hp
  split at hp
  · rename_i xs e0
    split at hp
    · rename_i bs e1
      obtain ⟨p, vs, e2, s1, t1⟩ := rlist_of q z e0
      have := bls_of t1 e1
      subst this
      exact ⟨p, bs, by rw [e2], s1, told q (.bl _) hp⟩
    · exact hp.elim
  · exact hp.elim
theorem sc_any : SC1 G (rAny G.K) anyA := by
  intro r h H x v Ha Q X q z hp
  unfold anyA at hp
  split at hp
  · rename_i xs e0
    split at hp
    · rename_i bs e1
      obtain ⟨p, vs, e2, s1, t1⟩ := rlist_of q z e0
      have := bls_of t1 e1
      subst this
      exact ⟨p, bs, by rw [e2], s1, told q (.bl _) hp⟩
    · exact hp.elim
  · exact hp.elim
/-- tuple(x), list(x) of a list or a tuple -/
def rTupOf (K : PySem.W.Frag) : List V → Hp → VK → Prop := fun xs H Q => ∃ p ys, xs = [.ref p] ∧ ((SqL K H p ys ∧ ∀ l, H l = none → Q (.ref l) (upd H l (.tup ys))) ∨ (SqT K H p ys ∧ Q (.ref p) H))
def tupA (x : A) (h : Hs) : R A := match x with
  | .tup xs => .ok (.tup xs) h
  | x => match rlist x h with
    | some xs => .ok (.tup xs) h
    | none => .stuck
theorem sc_tup : SC1 G (rTupOf G.K) tupA := by
  intro r h H x v Ha Q X q z hp
  unfold tupA at hp
  split at hp
  · obtain ⟨p, vs, e1, s1, t1⟩ := z.of_tup
    exact ⟨p, vs, by rw [e1], .inr ⟨s1, by rw [← e1]; exact told q (by rw [e1]; exact .tup s1 t1) hp⟩⟩
  · split at hp
    · rename_i xs e0
      obtain ⟨p, vs, e2, s1, t1⟩ := rlist_of q z e0
      exact ⟨p, vs, by rw [e2], .inl ⟨s1, new_tup q t1 hp⟩⟩
    · exact hp.elim
def rLstOf (K : PySem.W.Frag) : List V → Hp → VK → Prop := fun xs H Q => ∃ p ys, xs = [.ref p] ∧ (SqL K H p ys ∨ SqT K H p ys) ∧ ∀ l, H l = none → Q (.ref l) (upd H l (.lst ys))
def lstA (x : A) (h : Hs) : R A := match x with
  | .tup xs => .ok (.lst xs) h
  | x => match rlist x h with
    | some xs => .ok (.lst xs) h
    | none => .stuck
theorem sc_lst : SC1 G (rLstOf G.K) lstA := by
  intro r h H x v Ha Q X q z hp
  unfold lstA at hp
  split at hp
  · obtain ⟨p, vs, e1, s1, t1⟩ := z.of_tup
    exact ⟨p, vs, by rw [e1], .inr s1, new_lst q t1 hp⟩
  · split at hp
    · rename_i xs e0
      obtain ⟨p, vs, e2, s1, t1⟩ := rlist_of q z e0
      exact ⟨p, vs, by rw [e2], .inl s1, new_lst q t1 hp⟩
    · exact hp.elim
/-- repr of a plain value -/
def rReprS : List V → Hp → VK → Prop := fun xs H Q => (∃ i : Int, xs = [.int i] ∧ i.natAbs.log2 < 1920 ∧ Q (.str (toString i)) H) ∨ (∃ b : Bool, xs = [.bl b] ∧ Q (.str (if b then "True" else "False")) H) ∨ (xs = [.non] ∧ Q (.str "None") H) ∨ ∃ x : Str, xs = [.str x] ∧ (reprText x).length ≤ sizeLine ∧ Q (.str (reprText x)) H
theorem call_reprS {X : Cx} : CallR X (.builtin "repr") rReprS := by
  intro pins s σ H xs us Q I r h
  rcases h with h | ⟨b, rfl, q⟩ | ⟨rfl, q⟩ | ⟨x, rfl, hz, q⟩
  · exact SkE.call_repr_int pins s σ H xs us Q I r h
  · obtain ⟨u, rfl, rfl⟩ := vals1 r
    exact PySem.P.repr_of_bool ⟨.str _, H, I.tok _, ⟨_, rfl⟩, q⟩
  · obtain ⟨u, rfl, rfl⟩ := vals1 r
    exact PySem.P.repr_of_none ⟨.str _, H, I.tok _, ⟨_, rfl⟩, q⟩
  · obtain ⟨u, rfl, t, rfl⟩ := vals1 r
    exact PySem.P.repr_of_str ⟨.str _, H, I.tok _, ⟨_, rfl⟩, q⟩ hz
def reprS (x : A) (h : Hs) : R A := match x with
  | .int i => if i.natAbs.log2 < 1920 then .ok (.str (toString i)) h else .stuck
  | .bl b => .ok (.str (if b then "True" else "False")) h
  | .non => .ok (.str "None") h
  | .str x => if (reprText x).length ≤ 16777216 then .ok (.str (reprText x)) h else .stuck
  | _ => .stuck
theorem sc_reprS : SC1 G rReprS reprS := by
  intro r h H x v Ha Q X q z hp
  unfold reprS at hp
  split at hp
  · rename_i i
    split at hp
    · rename_i hz
      exact .inl ⟨i, by rw [z.of_int], hz, told q (.str _) hp⟩
    · exact hp.elim
  · rename_i b
    exact .inr (.inl ⟨b, by rw [z.of_bl], told q (.str _) hp⟩)
  · exact .inr (.inr (.inl ⟨by rw [z.of_non], told q (.str _) hp⟩))
  · rename_i y
    split at hp
    · rename_i hz
      exact .inr (.inr (.inr ⟨y, by rw [z.of_str], by rw [sizeLine_eq]; exact hz, told q (.str _) hp⟩))
    · exact hp.elim
  · exact hp.elim
/-! ### isinstance of built-in classes -/
def tyN (x : A) (h : Hs) : Option String := match x with
  | .non => some "NoneType"
  | .bl _ => some "bool"
  | .int _ => some "int"
  | .str _ => some "str"
  | .tup _ => some "tuple"
  | .lst _ => some "list"
  | .rol _ => some "list"
  | .obj _ _ => none
  | .ref n => match h[n]? with
    | some (.lst _) => some "list"
    | some (.dct _) => some "dict"
    | _ => none
theorem sqT_ty {K : PySem.W.Frag} {H : Hp} {p : Addr} {vs : List V} (h : SqT K H p vs) : TyX K H (.ref p) (.type "tuple") := by
  rcases h with (h | ⟨o, h⟩) | ⟨o, its, n, h1, h2, _⟩
  · exact .base (.tup h)
  · exact .fTuple h
  · exact .kTuple h1 h2
theorem tyN_of {r : Nat → Addr} {h : Hs} {H Ha : Hp} {x : A} {v : V} {T : String} (q : HR G r h H) (z : WR G Ha r h.length H x v) (e : tyN x h = some T) : TyX G.K H v (.type T) := by
  cases z with
  | tmp h1 h2 h3 h4 => cases e; exact .base (.lst h1)
  | val z =>
    cases z with
    | non => cases e; exact .base .non
    | bl b => cases e; exact .base (.bl b)
    | int i => cases e; exact .base (.int i)
    | str y => cases e; exact .base (.str y)
    | tup h1 h2 => cases e; exact sqT_ty h1
    | rol h1 h2 =>
      cases e
      rcases h1 with ⟨o, h1⟩ | ⟨o, its, n, k1, k2, _⟩
      · exact .base (.frz h1)
      · exact .kList k1 k2
    | obj _ _ _ _ => cases e
    | @ref i hi =>
      have e' : (match h[i]? with
        | some (.lst _) => some "list"
        | some (.dct _) => some "dict"
        | _ => none) = some T := e
      cases zz : h[i]? with
      | none => rw [zz] at e'; cases e'
      | some o =>
        rw [zz] at e'
        have kk := q.ob i o zz
        cases o with
        | ins _ _ => cases e'
        | lst xs => cases e'; obtain ⟨vs, k1, _⟩ := kk; exact .base (.lst k1)
        | dct xs => cases e'; obtain ⟨vs, k1, _⟩ := kk; exact .base (.dK k1)
/-- the classes that are asked for -/
def clsB : List String := ["int", "bool", "str", "tuple", "list", "dict"]
def tysB : List String := ["NoneType", "bool", "int", "str", "tuple", "list", "dict"]
def subB (t c : String) : Bool := t == c || (t == "bool" && c == "int")
theorem kitB_all : (tysB.all fun t => clsB.all fun c => decide (kitB t c = some (subB t c))) = true := by decide +kernel
theorem kitB_of {t c : String} (ht : t ∈ tysB) (hc : c ∈ clsB) : kitB t c = some (subB t c) := of_decide_eq_true (List.all_eq_true.mp (List.all_eq_true.mp kitB_all t ht) c hc)
theorem tyN_mem {x : A} {h : Hs} {T : String} (e : tyN x h = some T) : T ∈ tysB := by
  unfold tyN at e
  split at e <;> first | (cases e; decide) | cases e | (split at e <;> first | (cases e; decide) | cases e)
def isiA (c : String) (x : A) (h : Hs) : R A := match tyN x h with
  | some t => .ok (.bl (subB t c)) h
  | none => .stuck
theorem se_isi {ta : TE} {fa : En → Hs → R A} (c : String) (hc : c ∈ clsB) (ha : SE G W ta fa) : SE G W (tCB (rIsi G.K) (tCons ta (tCons (tC (.ty c)) tNil))) (eUn fa (isiA c)) := by
  intro r h H a s Q q e hp
  refine ha r h H a s _ q e (Post.bind backWR hp fun x h1 r1 H1 v f1 q1 z1 hp1 => ?_)
  unfold isiA at hp1
  split at hp1
  · rename_i t et
    exact ⟨v, .ty c, .type t, .type c, subB t c, rfl, .ty c, tyN_of q1 z1 et, kit_ty (kitB_of (tyN_mem et) hc), told q1 (.bl _) hp1⟩
  · exact hp1.elim
/-- isinstance(x, (c, d)) -/
def isi2A (c d : String) (x : A) (h : Hs) : R A := match tyN x h with
  | some t => .ok (.bl (subB t c || subB t d)) h
  | none => .stuck
theorem se_isi2 {ta : TE} {fa : En → Hs → R A} (c d : String) (hc : c ∈ clsB) (hd : d ∈ clsB) (ha : SE G W ta fa) : SE G W (tCB (rIsiT G.K) (tCons ta (tCons (tTup (tCons (tC (.ty c)) (tCons (tC (.ty d)) tNil))) tNil))) (eUn fa (isi2A c d)) := by
  intro r h H a s Q q e hp
  refine ha r h H a s _ q e (Post.bind backWR hp fun x h1 r1 H1 v f1 q1 z1 hp1 => ?_)
  refine ⟨by show 2 ≤ sizeLine; decide, fun p hn => ?_⟩
  unfold isi2A at hp1
  split at hp1
  · rename_i t et
    have q2 := q1.laid (o := .tup [.ty c, .ty d]) hn
    have z2 := z1.fw q1.mm (.laid (o := .tup [.ty c, .ty d]) hn)
    refine ⟨v, p, [.ty c, .ty d], .type t, [.type c, .type d], subB t c || subB t d, rfl, upd_same, .cons (.ty c) (.cons (.ty d) .nil), tyN_of q2 z2 et, ?_, hp1 r1 _ _ (.laid hn) q2 (.val (.bl _))⟩
    refine kitAny_cons (kit_ty (kitB_of (tyN_mem et) hc)) (fun hb => ?_) (fun hb => by rw [hb]; rfl)
    rw [hb]
    refine kitAny_cons (kit_ty (kitB_of (tyN_mem et) hd)) (fun hb2 => ?_) (fun hb2 => by rw [hb2]; rfl)
    rw [hb2]
    exact kitAny_nil
  · exact hp1.elim
/-! ### in, not in -/
def flatA : A → Bool
  | .non => true
  | .bl _ => true
  | .int _ => true
  | .str _ => true
  | _ => false
def eqF : A → A → Bool
  | .non, .non => true
  | .bl a, .bl b => a == b
  | .bl a, .int b => (if a then 1 else 0) == b
  | .int a, .bl b => a == (if b then 1 else 0)
  | .int a, .int b => a == b
  | .str a, .str b => a == b
  | _, _ => false
theorem flat_of {r : Nat → Addr} {n : Nat} {H : Hp} {x : A} {v : V} (z : VR G r n H x v) (e : flatA x = true) : flatV v = true := by
  cases z <;> first | rfl | (cases e; done)
theorem eqF_of {r : Nat → Addr} {n : Nat} {H : Hp} {x y : A} {v w : V} (z : VR G r n H x v) (z2 : VR G r n H y w) (e : flatA x = true) (e2 : flatA y = true) : eqV v w = eqF x y := by
  cases z <;> first | (cases e; done) | (cases z2 <;> first | (cases e2; done) | rfl)
theorem flats_of {r : Nat → Addr} {n : Nat} {H : Hp} : ∀ {xs : List A} {vs : List V}, VRs G r n H xs vs → xs.all flatA = true → vs.all flatV = true
  | _, _, .nil, _ => rfl
  | _, _, .cons z zs, e => by
    rw [List.all_cons, Bool.and_eq_true] at e
    rw [List.all_cons, flat_of z e.1, flats_of zs e.2, Bool.and_self]
theorem inV_of {r : Nat → Addr} {n : Nat} {H : Hp} {x : A} {v : V} (z : VR G r n H x v) (ex : flatA x = true) : ∀ {xs : List A} {vs : List V}, VRs G r n H xs vs → xs.all flatA = true → inV v vs = xs.any fun y => eqF y x
  | _, _, .nil, _ => rfl
  | _, _, .cons z1 zs, e => by
    rw [List.all_cons, Bool.and_eq_true] at e
    have ih := inV_of z ex zs e.2
    unfold inV at ih ⊢
    rw [List.any_cons, List.any_cons, ih, eqF_of z1 z e.1 ex]
def seqOf (y : A) (h : Hs) : Option (List A) := match y with
  | .tup xs => some xs
  | y => rlist y h
theorem seq_of {r : Nat → Addr} {h : Hs} {H H0 : Hp} {x : A} {v : V} {xs : List A} (q : HR G r h H) (w : WR G H0 r h.length H x v) (e : seqOf x h = some xs) : ∃ p vs, v = .ref p ∧ (SqL G.K H p vs ∨ SqT G.K H p vs) ∧ VRs G r h.length H xs vs := by
  unfold seqOf at e
  split at e
  · cases e
    obtain ⟨p, vs, e1, s1, t1⟩ := w.of_tup
    exact ⟨p, vs, e1, .inr s1, t1⟩
  · obtain ⟨p, vs, e1, s1, t1⟩ := rlist_of q w e
    exact ⟨p, vs, e1, .inl s1, t1⟩
def keyB : A → A → Bool
  | .int i, .int j => decide (i = j)
  | .str i, .str j => decide (i = j)
  | _, _ => false
def isKey : A → Bool
  | .int _ => true
  | .str _ => true
  | _ => false
def valA (kvs : List (A × A)) (k : A) : Option A := (kvs.find? fun kv => keyB kv.1 k).map (·.2)
theorem key_of {r : Nat → Addr} {n : Nat} {H : Hp} {x : A} {v : V} (z : VR G r n H x v) (e : isKey x = true) : ∃ k : Key, v = kV k ∧ x = keyA k := by
  cases z <;> first | (cases e; done) | exact ⟨.inl _, rfl, rfl⟩ | exact ⟨.inr _, rfl, rfl⟩
theorem keyB_of (k j : Key) : keyB (keyA k) (keyA j) = decide (k = j) := by
  cases k <;> cases j
  · show decide _ = decide _
    rw [decide_eq_decide]
    exact ⟨fun e => by rw [e], fun e => Sum.inl.inj e⟩
  · exact (decide_eq_false (fun e => nomatch e)).symm
  · exact (decide_eq_false (fun e => nomatch e)).symm
  · show decide _ = decide _
    rw [decide_eq_decide]
    exact ⟨fun e => by rw [e], fun e => Sum.inr.inj e⟩
theorem KR.val {r : Nat → Addr} {n : Nat} {H : Hp} (k : Key) : ∀ {xs : List (A × A)} {vs : List (Key × V)}, KR G r n H xs vs → (valA xs (keyA k) = none ∧ valV vs k = none) ∨ ∃ x v, valA xs (keyA k) = some x ∧ valV vs k = some v ∧ VR G r n H x v
  | _, _, .nil => .inl ⟨rfl, rfl⟩
  | _, _, .cons (k := j) (x := x) (v := v) (xs := xs) (vs := vs) z zs => by
    have e1 : valA ((keyA j, x) :: xs) (keyA k) = if keyB (keyA j) (keyA k) = true then some x else valA xs (keyA k) := by
      unfold valA
      rw [List.find?_cons]
      cases keyB (keyA j) (keyA k) <;> rfl
    have e2 : valV ((j, v) :: vs) k = if decide (j = k) = true then some v else valV vs k := by
      unfold valV
      rw [List.find?_cons]
      cases decide (j = k) <;> rfl
    rw [e1, e2, keyB_of]
    cases decide (j = k) with
    | true => exact .inr ⟨x, v, rfl, rfl, z⟩
    | false => exact KR.val k zs
/-- one sign in a text; a flat thing in a list or tuple; a key in a dict -/
def inB (x y : A) (h : Hs) : Option Bool := match y with
  | .str z => (match x with
    | .str s => (match s.cps.toList with
      | [c] => some (decide (c ∈ z.cps.toList))
      | _ => none)
    | _ => none)
  | y => match seqOf y h with
    | some xs => if flatA x = true ∧ xs.all flatA = true then some (xs.any fun y => eqF y x) else none
    | none => match dctOf y h with
      | some kvs => if isKey x = true then some (valA kvs x).isSome else none
      | none => none
def rInU (K : PySem.W.Frag) : R2 := fun x y H Q => (rIn K false x y H Q ∨ ∃ (c : Nat) (z : Str), x = .str ⟨#[c]⟩ ∧ y = .str z ∧ Q (.bl (decide (c ∈ z.cps.toList))) H) ∨ ∃ a ov, y = .ref a ∧ DGet H a x ov ∧ Q (.bl ov.isSome) H
def rNotInU (K : PySem.W.Frag) : R2 := fun x y H Q => (rIn K true x y H Q ∨ ∃ (c : Nat) (z : Str), x = .str ⟨#[c]⟩ ∧ y = .str z ∧ Q (.bl (!decide (c ∈ z.cps.toList))) H) ∨ ∃ a ov, y = .ref a ∧ DGet H a x ov ∧ Q (.bl (!ov.isSome)) H
theorem op_dinR {X : Cx} (hu : X.A.units + 1 < cLine) : OpR X (compareOp .In) (fun x y H Q => ∃ a ov, y = .ref a ∧ DGet H a x ov ∧ Q (.bl ov.isSome) H) := by
  intro pins s σ H x y v u Q I rx ry h
  obtain ⟨a, ov, rfl, g, q⟩ := h
  cases ry
  exact d_in hu I g rx fun s3 I3 => ⟨.bl ov.isSome, H, I3, rfl, q⟩
theorem op_dnotinR {X : Cx} (hu : X.A.units + 1 < cLine) : OpR X (compareOp .NotIn) (fun x y H Q => ∃ a ov, y = .ref a ∧ DGet H a x ov ∧ Q (.bl (!ov.isSome)) H) := by
  intro pins s σ H x y v u Q I rx ry h
  obtain ⟨a, ov, rfl, g, q⟩ := h
  cases ry
  exact d_notIn hu I g rx fun s3 I3 => ⟨.bl (!ov.isSome), H, I3, rfl, q⟩
theorem op_inU {X : Cx} (hu : X.A.units + 64 < cLine) : OpR X (compareOp .In) (rInU X.K) := (op_in_seq.or op_in_sign).or (op_dinR (by omega))
theorem op_notinU {X : Cx} (hu : X.A.units + 64 < cLine) : OpR X (compareOp .NotIn) (rNotInU X.K) := (op_notIn_seq.or op_notIn_sign).or (op_dnotinR (by omega))
def inA (x y : A) (h : Hs) : R A := match inB x y h with
  | some b => .ok (.bl b) h
  | none => .stuck
def notinA (x y : A) (h : Hs) : R A := match inB x y h with
  | some b => .ok (.bl (!b)) h
  | none => .stuck
theorem inB_of {r : Nat → Addr} {h : Hs} {H Ha Hb : Hp} {x y : A} {v w : V} {b : Bool} (q : HR G r h H) (z1 : WR G Ha r h.length H x v) (z2 : WR G Hb r h.length H y w) (e : inB x y h = some b) :
    ((∃ p xs, w = .ref p ∧ (SqL G.K H p xs ∨ SqT G.K H p xs) ∧ flatV v = true ∧ xs.all flatV = true ∧ inV v xs = b) ∨ ∃ (c : Nat) (z : Str), v = .str ⟨#[c]⟩ ∧ w = .str z ∧ decide (c ∈ z.cps.toList) = b) ∨ ∃ a ov, w = .ref a ∧ DGet H a v ov ∧ ov.isSome = b := by
  unfold inB at e
  split at e
  · rename_i z
    split at e
    · rename_i s0
      split at e
      · rename_i c ec
        cases e
        refine .inl (.inr ⟨c, z, ?_, z2.of_str, rfl⟩)
        rw [z1.of_str]
        have : s0 = ⟨#[c]⟩ := by
          cases s0 with
          | mk l =>
            have e2 : l = #[c] := by
              have := congrArg List.toArray ec
              simpa using this
            rw [e2]
        rw [this]
      · cases e
    · cases e
  · split at e
    · rename_i xs e0
      split at e
      · rename_i hf
        cases e
        obtain ⟨p, vs, e1, s1, t1⟩ := seq_of q z2 e0
        have zx : VR G r h.length H x v := by
          cases z1 with
          | val z => exact z
          | tmp _ _ _ _ => cases hf.1
        exact .inl (.inl ⟨p, vs, e1, s1, flat_of zx hf.1, flats_of t1 hf.2, inV_of zx hf.1 t1 hf.2⟩)
      · cases e
    · split at e
      · rename_i kvs ek
        split at e
        · rename_i hk
          cases e
          have zx : VR G r h.length H x v := by
            cases z1 with
            | val z => exact z
            | tmp _ _ _ _ => cases hk
          obtain ⟨k, e1, e2⟩ := key_of zx hk
          obtain ⟨p, ks, k0, k1, k2⟩ := dct_of q z2 ek
          refine .inr ⟨p, valV ks k, k0, by rw [e1]; exact DGet.k k1, ?_⟩
          rw [e2]
          rcases k2.val k with ⟨a1, a2⟩ | ⟨y1, y2, a1, a2, _⟩
          · rw [a1, a2]; rfl
          · rw [a1, a2]; rfl
        · cases e
      · cases e
theorem sr_in : SR2 G (rInU G.K) inA := by
  intro r h H x y v w Ha Hb Q X q z1 z2 hp
  unfold inA at hp
  split at hp
  · rename_i b e
    rcases inB_of q z1 z2 e with (⟨p, xs, a1, a2, a3, a4, a5⟩ | ⟨c, z, a1, a2, a3⟩) | ⟨a, ov, a1, a2, a3⟩
    · exact .inl (.inl ⟨p, xs, a1, a2, a3, a4, by show Q (.bl (inV v xs)) H; rw [a5]; exact told q (.bl _) hp⟩)
    · exact .inl (.inr ⟨c, z, a1, a2, by rw [a3]; exact told q (.bl _) hp⟩)
    · exact .inr ⟨a, ov, a1, a2, by rw [a3]; exact told q (.bl _) hp⟩
  · exact hp.elim
theorem sr_notin : SR2 G (rNotInU G.K) notinA := by
  intro r h H x y v w Ha Hb Q X q z1 z2 hp
  unfold notinA at hp
  split at hp
  · rename_i b e
    rcases inB_of q z1 z2 e with (⟨p, xs, a1, a2, a3, a4, a5⟩ | ⟨c, z, a1, a2, a3⟩) | ⟨a, ov, a1, a2, a3⟩
    · exact .inl (.inl ⟨p, xs, a1, a2, a3, a4, by show Q (.bl (!inV v xs)) H; rw [a5]; exact told q (.bl _) hp⟩)
    · exact .inl (.inr ⟨c, z, a1, a2, by rw [a3]; exact told q (.bl _) hp⟩)
    · exact .inr ⟨a, ov, a1, a2, by rw [a3]; exact told q (.bl _) hp⟩
  · exact hp.elim
end
end Sm

namespace Sm
open PySem L2
section
variable {G : Cn} {W : WX}
/-! ### dicts -/
def putA (kvs : List (A × A)) (k v : A) : List (A × A) := if (kvs.any fun kv => keyB kv.1 k) = true then kvs.map (fun kv => if keyB kv.1 k = true then (kv.1, v) else kv) else kvs ++ [(k, v)]
theorem KR.append {r : Nat → Addr} {n : Nat} {H : Hp} : ∀ {xs ys : List (A × A)} {vs ws : List (Key × V)}, KR G r n H xs vs → KR G r n H ys ws → KR G r n H (xs ++ ys) (vs ++ ws)
  | _, _, _, _, .nil, q => q
  | _, _, _, _, .cons a b, q => .cons a (KR.append b q)
theorem KR.any {r : Nat → Addr} {n : Nat} {H : Hp} (k : Key) : ∀ {xs : List (A × A)} {vs : List (Key × V)}, KR G r n H xs vs → (xs.any fun kv => keyB kv.1 (keyA k)) = vs.any fun kv => decide (kv.1 = k)
  | _, _, .nil => rfl
  | _, _, .cons a b => by rw [List.any_cons, List.any_cons, KR.any k b, keyB_of]
theorem KR.setv {r : Nat → Addr} {n : Nat} {H : Hp} (k : Key) {x : A} {v : V} (z : VR G r n H x v) : ∀ {xs : List (A × A)} {vs : List (Key × V)}, KR G r n H xs vs → KR G r n H (xs.map fun kv => if keyB kv.1 (keyA k) = true then (kv.1, x) else kv) (vs.map fun kv => if kv.1 = k then (kv.1, v) else kv)
  | _, _, .nil => .nil
  | _, _, .cons (k := j) a b => by
    rw [List.map_cons, List.map_cons]
    show KR G r n H ((if keyB (keyA j) (keyA k) = true then (keyA j, x) else (keyA j, _)) :: _) ((if j = k then (j, v) else (j, _)) :: _)
    rw [keyB_of]
    by_cases e : j = k
    · rw [if_pos (decide_eq_true e), if_pos e]
      exact .cons z (KR.setv k z b)
    · rw [if_neg (by rw [decide_eq_false e]; exact Bool.false_ne_true), if_neg e]
      exact .cons a (KR.setv k z b)
theorem KR.put {r : Nat → Addr} {n : Nat} {H : Hp} {k : Key} {x : A} {v : V} {xs : List (A × A)} {vs : List (Key × V)} (q : KR G r n H xs vs) (z : VR G r n H x v) : KR G r n H (putA xs (keyA k) x) (putK vs k v) := by
  unfold putA putK
  rw [q.any k]
  split
  · exact q.setv k z
  · exact q.append (.cons z .nil)
/-- a thing (no instance) that no index has gets one -/
theorem HR.boxO {r : Nat → Addr} {h : Hs} {H : Hp} {p : Addr} (q : HR G r h H) {o : O} (ho : OR G r h.length H p o) (hni : ∀ C dx fs, H p ≠ some (.ins C dx fs)) (hu : ∀ i, i < h.length → r i ≠ p) : HR G (ext r h.length p) (h ++ [o]) H := by
  have hl : (h ++ [o]).length = h.length + 1 := by simp
  have old : ∀ i, i < h.length → ext r h.length p i = r i := fun i hi => ext_old hi
  have ni : ∀ i, h.length ≤ i → i < h.length + 1 → ∀ C dx fs, H (ext r h.length p i) ≠ some (.ins C dx fs) := fun i a b C dx fs e => by
    have z : i = h.length := by omega
    rw [z, ext_new] at e
    exact hni _ _ _ e
  have mv : ∀ {o : O} {p : Addr}, OR G r h.length H p o → OR G (ext r h.length _) (h.length + 1) H p o := fun {o p} k => by
    cases o with
    | lst xs => obtain ⟨vs, e1, e2⟩ := k; exact ⟨vs, e1, e2.more (Nat.le_succ _) old ni⟩
    | dct xs => obtain ⟨vs, e1, e2⟩ := k; exact ⟨vs, e1, e2.more (Nat.le_succ _) old ni⟩
    | ins c xs => obtain ⟨dx, vs, e1, e2⟩ := k; exact ⟨dx, vs, e1, e2.more (Nat.le_succ _) old ni⟩
  refine ⟨fun i j hi hj e => ?_, fun i ob e => ?_⟩
  · rw [hl] at hi hj
    by_cases z1 : i = h.length <;> by_cases z2 : j = h.length
    · omega
    · rw [z1, ext_new, ext_old (by omega)] at e
      exact absurd e.symm (hu j (by omega))
    · rw [z2, ext_new, ext_old (by omega)] at e
      exact absurd e (hu i (by omega))
    · rw [ext_old (by omega), ext_old (by omega)] at e
      exact q.inj i j (by omega) (by omega) e
  · rw [hl]
    by_cases z : i < h.length
    · rw [List.getElem?_append_left z] at e
      rw [ext_old z]
      exact mv (q.ob i ob e)
    · have hi : i = h.length := by
        have := (List.getElem?_eq_some_iff.mp e).1
        rw [hl] at this
        omega
      subst hi
      rw [List.getElem?_append_right (Nat.le_refl _), Nat.sub_self] at e
      cases e
      rw [ext_new]
      exact mv ho
/-- a new thing is told by its index -/
theorem new_ref {r : Nat → Addr} {h : Hs} {H : Hp} {X : XK} {Q : VK} {o : O} {u : HO} (q : HR G r h H) (ho : ∀ p, H p = none → OR G r h.length (upd H p u) p o) (hni : ∀ C dx fs, u ≠ .ins C dx fs) (hp : Post G (WR G) X r h.length H Q (.ok (.ref h.length) (h ++ [o]))) : ∀ p, H p = none → Q (.ref p) (upd H p u) := fun p hn => by
  have hu : ∀ i, i < h.length → r i ≠ p := fun i hi e => by
    have mu := q.mm i hi
    rw [e, hn] at mu
    exact mu
  have hl : (h ++ [o]).length = h.length + 1 := by simp
  refine hp (ext r h.length p) _ _ ?_ ((q.laid hn).boxO (ho p hn) (fun C dx fs e => by rw [upd_same] at e; exact hni _ _ _ (Option.some.inj e)) hu) (.val ?_)
  · rw [hl]
    exact Fw.name (Fw.laid hn) hn
  · have e : V.ref p = V.ref (ext r h.length p h.length) := by rw [ext_new]
    rw [e]
    exact .ref (by simp)
def eDnew : En → Hs → R A := fun _ h => .ok (.ref h.length) (h ++ [.dct []])
theorem se_dnew : SE G W tDNewK eDnew := fun r h H a s Q q e hp => new_ref (o := .dct []) (u := .dK []) q (fun p hn => ⟨[], upd_same, .nil⟩) (fun _ _ _ z => nomatch z) hp
/-! ### {k: v, ..} -/
inductive PR (G : Cn) (r : Nat → Addr) (n : Nat) (H : Hp) : List (A × A) → List (V × V) → Prop
  | nil : PR G r n H [] []
  | cons {x y : A} {v w : V} {xs : List (A × A)} {vs : List (V × V)} : VR G r n H x v → VR G r n H y w → PR G r n H xs vs → PR G r n H ((x, y) :: xs) ((v, w) :: vs)
def SPs (G : Cn) (W : WX) (trs : List (TE × TE)) (f : En → Hs → R (List (A × A))) : Prop := ∀ (r : Nat → Addr) (h : Hs) (H : Hp) (a : En) (s : St) (Q : List (V × V) → Hp → Prop), HR G r h H → ER G r h.length H a s → Post G (fun _ => PR G) (fun c d => W c d s) r h.length H Q (f a h) → tPairs trs s H Q
def pNil : En → Hs → R (List (A × A)) := fun _ h => .ok [] h
def pCons (fk fv : En → Hs → R A) (fr : En → Hs → R (List (A × A))) : En → Hs → R (List (A × A)) := fun a h => ((fk a h).bind bx).bind fun x h1 => ((fv a h1).bind bx).bind fun y h2 => (fr a h2).bind fun ps h3 => .ok ((x, y) :: ps) h3
theorem sp_nil : SPs G W [] pNil := fun r h H a s Q q e hp => hp r H [] .refl q .nil
theorem sp_cons {tk tv : TE} {trs : List (TE × TE)} {fk fv : En → Hs → R A} {fr : En → Hs → R (List (A × A))} (hk : SE G W tk fk) (hv : SE G W tv fv) (hr : SPs G W trs fr) : SPs G W ((tk, tv) :: trs) (pCons fk fv fr) := by
  intro r h H a s Q q e hp
  refine hk r h H a s _ q e (Post.bindB backN hp fun x h1 r1 H1 v f1 q1 z1 hp1 => ?_)
  have e1 := e.fw q.mm f1
  refine hv r1 h1 H1 a s _ q1 e1 (Post.bindB backN hp1 fun y h2 r2 H2 w f2 q2 z2 hp2 => ?_)
  refine hr r2 h2 H2 a s _ q2 (e1.fw q1.mm f2) (Post.bind backN hp2 fun ps h3 r3 H3 us f3 q3 z3 hp3 => ?_)
  exact hp3 r3 H3 _ .refl q3 (.cons ((z1.fw q1.mm f2).fw q2.mm f3) (z2.fw q2.mm f3) z3)
def eDisp (fp : En → Hs → R (List (A × A))) : En → Hs → R A := fun a h => (fp a h).bind fun ps h1 => if (ps.all fun p => isKey p.1) = true ∧ ps.length ≤ 15 then .ok (.ref h1.length) (h1 ++ [.dct (ps.foldl (fun acc p => putA acc p.1 p.2) [])]) else .stuck
theorem PR.keys {r : Nat → Addr} {n : Nat} {H : Hp} : ∀ {xs : List (A × A)} {vs : List (V × V)}, PR G r n H xs vs → (xs.all fun p => isKey p.1) = true → ∃ kvs : List (Key × V), vs = kvs.map (fun kv => (kV kv.1, kv.2)) ∧ KR G r n H xs kvs
  | _, _, .nil, _ => ⟨[], rfl, .nil⟩
  | _, _, .cons z1 z2 zs, e => by
    rw [List.all_cons, Bool.and_eq_true] at e
    obtain ⟨k, e1, e2⟩ := key_of z1 e.1
    obtain ⟨kvs, h1, h2⟩ := PR.keys zs e.2
    subst e1 e2 h1
    exact ⟨(k, _) :: kvs, rfl, .cons z2 h2⟩
theorem KR.merge {r : Nat → Addr} {n : Nat} {H : Hp} {ys : List (A × A)} {ws : List (Key × V)} (b : KR G r n H ys ws) : ∀ {xs : List (A × A)} {vs : List (Key × V)}, KR G r n H xs vs → KR G r n H (ys.foldl (fun acc p => putA acc p.1 p.2) xs) (mergeK vs ws) := by
  induction b with
  | nil => exact fun q => q
  | @cons k x v ys ws a b ih => exact fun q => ih (q.put (k := k) a)
mutual
theorem VR.sideD {r : Nat → Addr} {n : Nat} {H : Hp} {p : Addr} {ks ls : List (Key × V)} (hp : H p = some (.dK ks)) : ∀ {x : A} {v : V}, VR G r n H x v → VR G r n (upd H p (.dK ls)) x v
  | _, _, .non => .non
  | _, _, .bl b => .bl b
  | _, _, .int i => .int i
  | _, _, .str x => .str x
  | _, _, .tup h t => .tup (by
      rcases h with (h | ⟨o, h⟩) | h
      · exact .inl (.inl (by rw [upd_ne (ne_of h hp (by intro z; cases z))]; exact h))
      · exact .inl (.inr ⟨o, by rw [upd_ne (ne_of h hp (by intro z; cases z))]; exact h⟩)
      · exact .inr h) (VRs.sideD hp t)
  | _, _, .rol h t => .rol (h.elim (fun ⟨o, h⟩ => .inl ⟨o, by rw [upd_ne (ne_of h hp (by intro z; cases z))]; exact h⟩) .inr) (VRs.sideD hp t)
  | _, _, .obj hu h l t => .obj hu (by rw [upd_ne (ne_of h hp (by intro z; cases z))]; exact h) l (VRs.sideD hp t)
  | _, _, .ref hi => .ref hi
theorem VRs.sideD {r : Nat → Addr} {n : Nat} {H : Hp} {p : Addr} {ks ls : List (Key × V)} (hp : H p = some (.dK ks)) : ∀ {xs : List A} {vs : List V}, VRs G r n H xs vs → VRs G r n (upd H p (.dK ls)) xs vs
  | _, _, .nil => .nil
  | _, _, .cons a b => .cons (VR.sideD hp a) (VRs.sideD hp b)
end
theorem KR.sideD {r : Nat → Addr} {n : Nat} {H : Hp} {p : Addr} {ks ls : List (Key × V)} (hp : H p = some (.dK ks)) : ∀ {xs : List (A × A)} {vs : List (Key × V)}, KR G r n H xs vs → KR G r n (upd H p (.dK ls)) xs vs
  | _, _, .nil => .nil
  | _, _, .cons a b => .cons (a.sideD hp) (KR.sideD hp b)
theorem FR.sideD {r : Nat → Addr} {n : Nat} {H : Hp} {p : Addr} {ks ls : List (Key × V)} (hp : H p = some (.dK ks)) : ∀ {xs : List (Str × A)} {vs : List (Str × V)}, FR G r n H xs vs → FR G r n (upd H p (.dK ls)) xs vs
  | _, _, .nil => .nil
  | _, _, .cons a b => .cons (a.sideD hp) (FR.sideD hp b)
theorem HR.sideD {r : Nat → Addr} {H : Hp} {p : Addr} {ks ls : List (Key × V)} {h : Hs} (q : HR G r h H) (hp : H p = some (.dK ks)) (hu : ∀ i, i < h.length → r i ≠ p) : HR G r h (upd H p (.dK ls)) := by
  refine ⟨q.inj, fun i o e => ?_⟩
  have k := q.ob i o e
  have hne := hu i (List.getElem?_eq_some_iff.mp e).1
  cases o with
  | lst xs => obtain ⟨vs, e1, e2⟩ := k; exact ⟨vs, by rw [upd_ne hne]; exact e1, e2.sideD hp⟩
  | dct xs => obtain ⟨vs, e1, e2⟩ := k; exact ⟨vs, by rw [upd_ne hne]; exact e1, e2.sideD hp⟩
  | ins c xs => obtain ⟨dx, vs, e1, e2⟩ := k; exact ⟨dx, vs, by rw [upd_ne hne]; exact e1, e2.sideD hp⟩
theorem se_disp {trs : List (TE × TE)} {fp : En → Hs → R (List (A × A))} (hf : SPs G W trs fp) : SE G W (tDisp trs) (eDisp fp) := by
  intro r h H a s Q q e hp p hn
  have hu : ∀ i, i < h.length → r i ≠ p := fun i hi z => by
    have mu := q.mm i hi
    rw [z, hn] at mu
    exact mu
  have f0 : Fw r h.length H r h.length (upd H p (.dK [])) := Fw.laid hn
  refine hf r h (upd H p (.dK [])) a s _ (q.laid hn) (e.fw q.mm f0) ?_
  unfold eDisp at hp
  cases zf : fp a h with
  | exc c xs h1 => rw [zf] at hp; exact fun r1 H1 d f1 q1 z1 => hp r1 H1 d (f0.trans f1) q1 (z1.back f0.trk)
  | stuck => rw [zf] at hp; exact hp
  | ok ps h1 =>
    rw [zf, R.bind_ok] at hp
    intro r1 H1 us f1 q1 z1
    split at hp
    · rename_i hk
      obtain ⟨kvs, e1, kr⟩ := z1.keys hk.1
      have hd : H1 p = some (.dK []) := f1.keep _ _ upd_same hu
      have hu1 : ∀ i, i < h1.length → r1 i ≠ p := f1.un upd_same hu
      refine ⟨hd, kvs, e1, by rw [← kr.length]; exact hk.2, ?_⟩
      have hl : (h1 ++ [O.dct (ps.foldl (fun acc p => putA acc p.1 p.2) [])]).length = h1.length + 1 := by simp
      have q2 := q1.sideD (ls := mergeK [] kvs) hd hu1
      refine hp (ext r1 h1.length p) (upd H1 p (.dK (mergeK [] kvs))) (.ref p) ?_ (q2.boxO ⟨mergeK [] kvs, upd_same, (KR.merge kr .nil).sideD hd⟩ (fun C dx fs e => by rw [upd_same] at e; cases e) hu1) (.val ?_)
      · rw [hl]
        exact ((f0.trans f1).side hn).nameAt hn
      · have e : V.ref p = V.ref (ext r1 h1.length p h1.length) := by rw [ext_new]
        rw [e]
        exact .ref (by simp)
    · exact hp.elim
/-! ### d[k], an item of a list, a tuple, a text -/
def rIxU (K : PySem.W.Frag) : R2 := fun x y H Q => rIx K x y H Q ∨ ∃ a v, x = .ref a ∧ DGet H a y (some v) ∧ Q v H
theorem ix_dget {X : Cx} (hu : X.A.units + 1 < cLine) : IxR X (fun x y H Q => ∃ a v, x = .ref a ∧ DGet H a y (some v) ∧ Q v H) := by
  intro value slice pins s σ H x y v u Q I rx ry h hs
  obtain ⟨a, w, rfl, g, q⟩ := h
  obtain rfl : v = Value.ref a := rx
  exact PyProof.Rows.tail_any (dict_typeIs I g) PySem.F.slot_dict_getitem.lookup (d_getItem hu I g ry fun w' s3 I3 rw' => ⟨w, H, I3, rw', q⟩) hs
theorem ix_U {X : Cx} (hu : X.A.units + 64 < cLine) : IxR X (rIxU X.K) := (ix_list.or (ix_tup.or ix_str)).or (ix_dget (by omega))
def getA (x y : A) (h : Hs) : R A := match dctOf x h with
  | some kvs => if isKey y = true then (match valA kvs y with
    | some v => .ok v h
    | none => .stuck) else .stuck
  | none => ixA x y h
theorem sr_get : SR2 G (rIxU G.K) getA := by
  intro r h H x y v w Ha Hb Q X q z1 z2 hp
  unfold getA at hp
  split at hp
  · rename_i kvs ek
    split at hp
    · rename_i hk
      split at hp
      · rename_i u eu
        have zx : VR G r h.length H y w := by
          cases z2 with
          | val z => exact z
          | tmp _ _ _ _ => cases hk
        obtain ⟨k, e1, e2⟩ := key_of zx hk
        obtain ⟨p, ks, k0, k1, k2⟩ := dct_of q z1 ek
        rcases k2.val k with ⟨a1, a2⟩ | ⟨y1, y2, a1, a2, a3⟩
        · rw [e2, a1] at eu; cases eu
        · rw [e2, a1] at eu
          cases eu
          exact .inr ⟨p, y2, k0, by rw [e1, ← a2]; exact DGet.k k1, told q a3 hp⟩
      · exact hp.elim
    · exact hp.elim
  · exact .inl (sr_ix r h H x y v w Ha Hb Q X q z1 z2 hp)
/-! ### the module's constants -/
/-- a tuple of the top -/
theorem se_gtup {p : Addr} {vs : List V} {xs : List A} (hs : ∀ H, SqT G.K H p vs) (hx : ∀ r n H, VRs G r n H xs vs) : SE G W (tC (.ref p)) (eC (.tup xs)) := se_c fun r n H => .tup (hs H) (hx r n H)
/-- a dict of the top with text keys, read at once -/
def eGd (kvs : List (Str × A)) (fb : En → Hs → R A) : En → Hs → R A := fun a h => (fb a h).bind fun y h1 => match y with
  | .str z => (match kvs.lookup z with
    | some v => .ok v h1
    | none => .stuck)
  | _ => .stuck
theorem se_gd {w : World} {p : Addr} {kvs : List (Str × A)} {tb : TE} {fb : En → Hs → R A} (hk : ∀ z x, kvs.lookup z = some x → ∃ v, KDct G.K w p z v ∧ ∀ r n H, VR G r n H x v) (hb : SE G W tb fb) : SE G W (tOp (rIxD G.K w) (tC (.ref p)) tb) (eGd kvs fb) := by
  intro r h H a s Q q e hp
  refine hb r h H a s _ q e (Post.bind backWR hp fun y h1 r1 H1 v f1 q1 z1 hp1 => ?_)
  split at hp1
  · rename_i z
    split at hp1
    · rename_i x ex
      obtain ⟨v2, k1, k2⟩ := hk z x ex
      exact ⟨p, z, v2, rfl, z1.of_str, k1, told q1 (k2 _ _ _) hp1⟩
    · exact hp1.elim
  · exact hp1.elim
/-! ### a, b = .. -/
def SGs (G : Cn) (ix : List Nat) (g : TGs) (f : List A → En → Option En) : Prop := ∀ (r : Nat → Addr) (h : Hs) (H : Hp) (a : En) (s : St) (xs : List A) (vs : List V) (Q : St → Hp → Prop), HR G r h H → ER G r h.length H a s → VRs G r h.length H xs vs →
  (∃ a', f xs a = some a' ∧ ∀ s', ER G r h.length H a' s' → s'.length = s.length → (∀ j, j ∉ ix → s'[j]? = s[j]?) → Q s' H) → g vs s H Q
def gsNil : List A → En → Option En := fun xs a => match xs with
  | [] => some a
  | _ => none
theorem sgs_nil : SGs G [] gNil gsNil := fun r h H a s xs vs Q q e z ⟨a', h1, h2⟩ => by
  cases z with
  | nil => cases h1; exact ⟨rfl, h2 s e rfl fun _ _ => rfl⟩
  | cons _ _ => cases h1
def gsCons (f : A → En → Option En) (g : List A → En → Option En) : List A → En → Option En := fun xs a => match xs with
  | x :: l => (f x a).bind (g l)
  | [] => none
theorem sgs_cons {i1 i2 : List Nat} {tg : TG} {tgs : TGs} {f : A → En → Option En} {g : List A → En → Option En} (hf : SG G i1 tg f) (hg : SGs G i2 tgs g) : SGs G (i1 ++ i2) (gCons tg tgs) (gsCons f g) := fun r h H a s xs vs Q q e z ⟨a', h1, h2⟩ => by
  cases z with
  | nil => cases h1
  | @cons x v xs vs z1 z2 =>
    have h1' : (f x a).bind (g xs) = some a' := h1
    cases ef : f x a with
    | none => rw [ef] at h1'; cases h1'
    | some a1 =>
      rw [ef] at h1'
      refine ⟨v, vs, rfl, hf r h H a s x v _ q e z1 ⟨a1, ef, fun s1 e1 l1 k1 => ?_⟩⟩
      refine hg r h H a1 s1 xs vs Q q e1 z2 ⟨a', h1', fun s2 e2 l2 k2 => h2 s2 e2 (l2.trans l1) fun j hj => ?_⟩
      rw [k2 j fun z => hj (List.mem_append_right _ z), k1 j fun z => hj (List.mem_append_left _ z)]
def gTp (n : Nat) (g : List A → En → Option En) : A → En → Option En := fun x a => match x with
  | .tup xs => if xs.length = n then g xs a else none
  | _ => none
theorem sg_tup {ix : List Nat} {n : Nat} {tgs : TGs} {g : List A → En → Option En} (hg : SGs G ix tgs g) : SG G ix (gTup G.K n tgs) (gTp n g) := fun r h H a s x v Q q e z ⟨a', h1, h2⟩ => by
  unfold gTp at h1
  split at h1
  · rename_i xs
    split at h1
    · rename_i hn
      cases z with
      | tup s1 t1 => exact ⟨_, _, rfl, s1, by rw [← t1.length]; exact hn, hg r h H a s _ _ Q q e t1 ⟨a', h1, h2⟩⟩
    · cases h1
  · cases h1
/-- x, y = e -/
def sAsg (f : En → Hs → R A) (g : A → En → Option En) : En → Hs → Rs := fun a h => ((f a h).bind bx).toS a fun x h1 => match g x a with
  | some a' => .nx a' h1
  | none => .stuck
theorem ss_asg {ix : List Nat} {t : TE} {tg : TG} {f : En → Hs → R A} {g : A → En → Option En} (hf : SE G W t f) (hg : SG G ix tg g) : SS G W (tAsg t tg) (sAsg f g) := fun r h H a s D q e hp =>
  hf r h H a s _ q e (PostS.bindB q e hp fun v h1 r1 H1 w f1 q1 e1 z1 hp1 => by
    cases eg : g v a with
    | none => rw [eg] at hp1; exact hp1.elim
    | some a' =>
      rw [eg] at hp1
      exact hg r1 h1 H1 a s v w _ q1 e1 z1 ⟨a', eg, fun s' e' _ _ => hp1 r1 H1 s' .refl q1 e'⟩)
/-- x, y = e, f -/
def sPar (i j : Nat) (fa : En → Hs → R (List A)) : En → Hs → Rs := fun a h => (fa a h).toS a fun xs h1 => match xs with
  | [x, y] => .nx ((a.set i (some x)).set j (some y)) h1
  | _ => .stuck
theorem ss_par {i j : Nat} {t : TA} {fa : En → Hs → R (List A)} (ha : SA G W t fa) : SS G W (tPar i j t) (sPar i j fa) := fun r h H a s D q e hp =>
  ha r h H a s _ q e (PostS.bind (rel := fun _ => VRs G) q e hp fun xs h1 r1 H1 vs f1 q1 e1 z1 hp1 => by
    split at hp1
    · cases z1 with
      | cons z1 z2 =>
        cases z2 with
        | cons z2 z3 =>
          cases z3
          exact ⟨_, _, rfl, hp1 r1 H1 _ .refl q1 ((e1.set z1 i).set z2 j)⟩
    · exact hp1.elim)
end
end Sm

/-! J: a piece of the text does what a function of the plain reading says. -/
namespace Sm
open PySem L2
/-- names of classes and attributes -/
structure Nm where
  cls : Str → Addr
  fn : Str → List Str
abbrev gx (X : Cx) (N : Nm) : Cn := ⟨X.K, N.cls, N.fn⟩
def tE (G : Cn) (W : WX) (f : En → Hs → R A) : TE := fun s H Q => ∃ (r : Nat → Addr) (h : Hs) (a : En), HR G r h H ∧ ER G r h.length H a s ∧ Post G (WR G) (fun c d => W c d s) r h.length H Q (f a h)
def tAr (G : Cn) (W : WX) (f : En → Hs → R (List A)) : TA := fun s H Q => ∃ (r : Nat → Addr) (h : Hs) (a : En), HR G r h H ∧ ER G r h.length H a s ∧ Post G (fun _ => VRs G) (fun c d => W c d s) r h.length H Q (f a h)
def tTe (G : Cn) (W : WX) (f : En → Hs → R Bool) : TT := fun s H Q => ∃ (r : Nat → Addr) (h : Hs) (a : En), HR G r h H ∧ ER G r h.length H a s ∧ Post G (fun _ _ _ _ b c => b = c) (fun c d => W c d s) r h.length H Q (f a h)
def tOp' (G : Cn) (W : WX) (f : En → Hs → R (Option Int)) : TO := fun s H Q => ∃ (r : Nat → Addr) (h : Hs) (a : En), HR G r h H ∧ ER G r h.length H a s ∧ Post G (fun _ _ _ _ b c => b = c) (fun c d => W c d s) r h.length H Q (f a h)
def tIt (G : Cn) (W : WX) (f : En → Hs → R Src) : TI := fun s H Q => ∃ (r : Nat → Addr) (h : Hs) (a : En), HR G r h H ∧ ER G r h.length H a s ∧ Post G (fun _ => JR G) (fun c d => W c d s) r h.length H Q (f a h)
def tSt (G : Cn) (W : WX) (f : En → Hs → Rs) : TS := fun D s H => ∃ (r : Nat → Addr) (h : Hs) (a : En), HR G r h H ∧ ER G r h.length H a s ∧ PostS G W r h.length H D (f a h)
abbrev JE (X : Cx) (N : Nm) (W : WX) (e : Expr) (f : En → Hs → R A) : Prop := PE X e (tE (gx X N) W f)
abbrev JA (X : Cx) (N : Nm) (W : WX) (es : List Expr) (f : En → Hs → R (List A)) : Prop := PA X es (tAr (gx X N) W f)
abbrev JT (X : Cx) (N : Nm) (W : WX) (e : Expr) (f : En → Hs → R Bool) : Prop := PT X e (tTe (gx X N) W f)
abbrev JW (X : Cx) (N : Nm) (W : WX) (e : Expr) (f : En → Hs → R Bool) : Prop := PW X e (tTe (gx X N) W f)
abbrev JI (X : Cx) (N : Nm) (W : WX) (tg e : Expr) (f : En → Hs → R Src) : Prop := PI X tg e (tIt (gx X N) W f)
abbrev JS (X : Cx) (N : Nm) (W : WX) (st : Stmt) (f : En → Hs → Rs) : Prop := PS X st (tSt (gx X N) W f)
abbrev JB (X : Cx) (N : Nm) (W : WX) (st : List Stmt) (f : En → Hs → Rs) : Prop := PSs X st (tSt (gx X N) W f)
section
variable {X : Cx} {N : Nm} {W : WX} {e : Expr} {es : List Expr} {st : Stmt} {sts : List Stmt} {G : Cn}
theorem mkE {t : TE} {f : En → Hs → R A} (h : PE X e t) (s : SE (gx X N) W t f) : JE X N W e f := ⟨fun pins s1 σ H Q I ⟨r, hh, a, q, er, hp⟩ => h.run pins s1 σ H Q I (s r hh H a σ Q q er hp)⟩
theorem mkA {t : TA} {f : En → Hs → R (List A)} (h : PA X es t) (s : SA (gx X N) W t f) : JA X N W es f := ⟨fun pos pins s1 σ H Q I ⟨r, hh, a, q, er, hp⟩ => h.run pos pins s1 σ H Q I (s r hh H a σ Q q er hp)⟩
theorem mkT {t : TT} {f : En → Hs → R Bool} (h : PT X e t) (s : ST (gx X N) W t f) : JT X N W e f := ⟨fun pins s1 σ H Q I ⟨r, hh, a, q, er, hp⟩ => h.run pins s1 σ H Q I (s r hh H a σ Q q er hp)⟩
theorem mkW {t : TT} {f : En → Hs → R Bool} (h : PW X e t) (s : ST (gx X N) W t f) : JW X N W e f := ⟨fun wh pins s1 σ H Q I ⟨r, hh, a, q, er, hp⟩ => h.run wh pins s1 σ H Q I (s r hh H a σ Q q er hp)⟩
theorem mkI {tg : Expr} {t : TI} {f : En → Hs → R Src} (h : PI X tg e t) (s : SI (gx X N) W t f) : JI X N W tg e f := ⟨fun pins s1 σ H Q I ⟨r, hh, a, q, er, hp⟩ => h.run pins s1 σ H Q I (s r hh H a σ Q q er hp)⟩
theorem mkS {t : TS} {f : En → Hs → Rs} (h : PS X st t) (s : SS (gx X N) W t f) : JS X N W st f := ⟨fun pins s1 σ H D I ⟨r, hh, a, q, er, hp⟩ => h.run pins s1 σ H D I (s r hh H a σ D q er hp)⟩
theorem mkB {t : TS} {f : En → Hs → Rs} (h : PSs X sts t) (s : SS (gx X N) W t f) : JB X N W sts f := ⟨fun pins s1 σ H D I ⟨r, hh, a, q, er, hp⟩ => h.run pins s1 σ H D I (s r hh H a σ D q er hp)⟩
theorem sE {f : En → Hs → R A} : SE G W (tE G W f) f := fun r h H a s Q q e hp => ⟨r, h, a, q, e, hp⟩
theorem sA {f : En → Hs → R (List A)} : SA G W (tAr G W f) f := fun r h H a s Q q e hp => ⟨r, h, a, q, e, hp⟩
theorem sT {f : En → Hs → R Bool} : ST G W (tTe G W f) f := fun r h H a s Q q e hp => ⟨r, h, a, q, e, hp⟩
theorem sO {f : En → Hs → R (Option Int)} : SO G W (tOp' G W f) f := fun r h H a s Q q e hp => ⟨r, h, a, q, e, hp⟩
theorem sI {f : En → Hs → R Src} : SI G W (tIt G W f) f := fun r h H a s Q q e hp => ⟨r, h, a, q, e, hp⟩
theorem sS {f : En → Hs → Rs} : SS G W (tSt G W f) f := fun r h H a s D q e hp => ⟨r, h, a, q, e, hp⟩
end
section
variable {X : Cx} {N : Nm} {W : WX} {a b c e : Expr} {es rest : List Expr} {st : Stmt} {sts : List Stmt} {pos p : Pos} {fa fb fc : En → Hs → R A}
/-! ### names, constants -/
theorem jv (i : Nat) {x : Str} (hN : X.N[i]? = some x := by rfl) (hv : Vis X.env.scope x := by first | exact Or.inl rfl | exact Or.inr (Or.inl rfl) | exact Or.inr (Or.inr rfl)) (hd : (x == ("__debug__" : Str)) = false := by decide) (hcd : (x == ("__classdict__" : Str)) = false := by decide) : JE X N W (.Name x pos) (eVar i) :=
  mkE (pe_var hN hv hd hcd) (se_var i)
theorem j_int {i : Int} {j : Nat} : JE X N W (.Constant (.int i) j pos) (eC (.int i)) := mkE pe_int (se_int i)
theorem j_bl {i : Bool} {j : Nat} : JE X N W (.Constant (.bool i) j pos) (eC (.bl i)) := mkE pe_bl (se_bl i)
theorem j_non {j : Nat} : JE X N W (.Constant .none j pos) (eC .non) := mkE pe_non se_non
theorem j_str {x : Str} {j : Nat} : JE X N W (.Constant (.str x) j pos) (eC (.str x)) := mkE pe_str (se_str x)
theorem j_gint {x : Str} {i : Int} (hm : ∃ t, X.mg x = some (.int i t)) (hg : Gl X x := by rfl) (hd : (x == ("__debug__" : Str)) = false := by decide) : JE X N W (.Name x pos) (eC (.int i)) := by
  obtain ⟨t, hm⟩ := hm
  exact mkE (pe_glob (v := .int i) hg hm ⟨t, rfl⟩ hd) (se_int i)
theorem j_gstr {x i : Str} (hm : ∃ t, X.mg x = some (.str i t)) (hg : Gl X x := by rfl) (hd : (x == ("__debug__" : Str)) = false := by decide) : JE X N W (.Name x pos) (eC (.str i)) := by
  obtain ⟨t, hm⟩ := hm
  exact mkE (pe_glob (v := .str i) hg hm ⟨t, rfl⟩ hd) (se_str i)
theorem j_gtup {x : Str} {xs : List A} (hm : ∃ p vs, X.mg x = some (.ref p) ∧ (∀ H, SqT X.K H p vs) ∧ ∀ r n H, VRs (gx X N) r n H xs vs) (hg : Gl X x := by rfl) (hd : (x == ("__debug__" : Str)) = false := by decide) : JE X N W (.Name x pos) (eC (.tup xs)) := by
  obtain ⟨p, vs, hm, h1, h2⟩ := hm
  exact mkE (pe_glob (v := .ref p) hg hm rfl hd) (se_gtup h1 h2)
/-- D[e], D a dict of the top -/
theorem j_gd {x : Str} {p' : Pos} {kvs : List (Str × A)} (hm : ∃ p, X.mg x = some (.ref p) ∧ ∀ z y, kvs.lookup z = some y → ∃ v, KDct X.K X.w p z v ∧ ∀ r n H, VR (gx X N) r n H y v) (hb : JE X N W b fb) (hs : PlainIx b := by exact fun _ _ => rfl) (hg : Gl X x := by rfl) (hd : (x == ("__debug__" : Str)) = false := by decide) :
    JE X N W (.Subscript (.Name x p') b pos) (eGd kvs fb) := by
  obtain ⟨p, hm, h1⟩ := hm
  exact mkE (pe_ix ix_kdict (pe_glob (v := .ref p) hg hm rfl hd) hb hs) (se_gd h1 sE)
/-! ### operators -/
structure BD (X : Cx) (N : Nm) (op : Operator) (g : A → A → Hs → R A) : Prop where
  ex : ∃ r, OpR X (binaryOp op) r ∧ SR2 (gx X N) r g
theorem b_add : BD X N .Add addA := ⟨_, op_addU, sr_add⟩
theorem b_sub : BD X N .Sub subA := ⟨_, op_sub, sr_sub⟩
theorem b_mul : BD X N .Mult mulA := ⟨_, op_mulU, sr_mul⟩
theorem b_mod : BD X N .Mod modA := ⟨_, op_modN, sr_mod⟩
theorem b_fdiv : BD X N .FloorDiv fdivA := ⟨_, op_fdivW, sr_fdiv⟩
theorem b_pow : BD X N .Pow powA := ⟨_, op_pow, sr_pow⟩
theorem j_bin {op : Operator} {g : A → A → Hs → R A} (d : BD X N op g) (ha : JE X N W a fa) (hb : JE X N W b fb) : JE X N W (.BinOp a op b pos) (eOp fa fb g) := by
  obtain ⟨r, h1, h2⟩ := d.ex
  exact mkE (pe_op h1 ha hb) (se_op h2 sE sE)
theorem j_neg (ha : JE X N W a fa) : JE X N W (.UnaryOp .USub a pos) (eUn fa negA) := mkE (pe_un un_neg ha) (se_un sr_neg sE)
structure CD (X : Cx) (N : Nm) (op : CmpOp) (g : A → A → Hs → R A) : Prop where
  ex : ∃ r, OpR X (compareOp op) r ∧ SR2 (gx X N) r g
theorem c_lt : CD X N .Lt ltA := ⟨_, op_lt, sr_lt⟩
theorem c_le : CD X N .LtE leA := ⟨_, op_le, sr_le⟩
theorem c_gt : CD X N .Gt gtA := ⟨_, op_gt, sr_gt⟩
theorem c_ge : CD X N .GtE geA := ⟨_, op_ge, sr_ge⟩
theorem c_is : CD X N .Is isNA := ⟨_, op_isN, sr_isN⟩
theorem c_isnot : CD X N .IsNot notNA := ⟨_, op_notN, sr_notN⟩
theorem c_eq {k : Nat} (hr : Room k X.A) : CD X N .Eq eqA := ⟨_, op_eqU hr.units, sr_eq⟩
theorem c_ne {k : Nat} (hr : Room k X.A) : CD X N .NotEq neA := ⟨_, op_neU hr.units, sr_ne⟩
theorem c_in {k : Nat} (hr : Room k X.A) : CD X N .In inA := ⟨_, op_inU hr.units, sr_in⟩
theorem c_notin {k : Nat} (hr : Room k X.A) : CD X N .NotIn notinA := ⟨_, op_notinU hr.units, sr_notin⟩
theorem j_cmp {op : CmpOp} {g : A → A → Hs → R A} (d : CD X N op g) (ha : JE X N W a fa) (hb : JE X N W b fb) (hm : behindInMarks op b = false := by first | exact nomark _ | with_unfolding_all rfl) : JE X N W (.Compare a [op] [b] pos) (eOp fa fb g) := by
  obtain ⟨r, h1, h2⟩ := d.ex
  exact mkE (pe_cmpR h1 ha hb hm) (se_op h2 sE sE)
theorem jt_cmp {op : CmpOp} {g : A → A → Hs → R A} (d : CD X N op g) (ha : JE X N W a fa) (hb : JE X N W b fb) (hm : behindInMarks op b = false := by first | exact nomark _ | with_unfolding_all rfl) : JT X N W (.Compare a [op] [b] pos) (cTest (eOp fa fb g)) := by
  obtain ⟨r, h1, h2⟩ := d.ex
  exact mkT (pt_cmpR h1 ha hb hm) (st_test (se_op h2 sE sE))
theorem j_chain {op op' : CmpOp} {g g' : A → A → Hs → R A} (d : CD X N op g) (d' : CD X N op' g') (ha : JE X N W a fa) (hb : JE X N W b fb) (hc : JE X N W c fc) (hm : lastMarks [op, op'] [b, c] = false := by with_unfolding_all rfl) : JE X N W (.Compare a [op, op'] [b, c] pos) (eChain g g' fa fb fc) := by
  obtain ⟨r, h1, h2⟩ := d.ex
  obtain ⟨r', h1', h2'⟩ := d'.ex
  exact mkE (pe_chain h1 h1' ha hb hc hm) (se_chain h2 h2' sE sE sE)
theorem jt_chain {op op' : CmpOp} {g g' : A → A → Hs → R A} (d : CD X N op g) (d' : CD X N op' g') (ha : JE X N W a fa) (hb : JE X N W b fb) (hc : JE X N W c fc) (hm : lastMarks [op, op'] [b, c] = false := by with_unfolding_all rfl) : JT X N W (.Compare a [op, op'] [b, c] pos) (cTest (eChain g g' fa fb fc)) := by
  obtain ⟨r, h1, h2⟩ := d.ex
  obtain ⟨r', h1', h2'⟩ := d'.ex
  exact mkT (pt_chain h1 h1' ha hb hc hm) (st_test (se_chain h2 h2' sE sE sE))
/-! ### tests -/
variable {ca cb : En → Hs → R Bool}
theorem jt (ha : JE X N W a fa) (he : ∀ whole, isTrue a X.env whole = (do let v ← whole; standAt a.pos; holding [v] (truthy v)) := by intro _; rfl) : JT X N W a (cTru fa) := mkT (pt_tru ha he) (st_tru sE)
theorem jw_and1 (ha : JT X N W a ca) : JW X N W (.BoolOp .And [a] pos) ca := pw_and1 ha
theorem jw_or1 (ha : JT X N W a ca) : JW X N W (.BoolOp .Or [a] pos) ca := pw_or1 ha
theorem jw_and (ha : JT X N W a ca) (hb : JW X N W (.BoolOp .And (b :: rest) pos) cb) : JW X N W (.BoolOp .And (a :: b :: rest) pos) (cAnd ca cb) := mkW (pw_and ha hb) (st_and sT sT)
theorem jw_or (ha : JT X N W a ca) (hb : JW X N W (.BoolOp .Or (b :: rest) pos) cb) : JW X N W (.BoolOp .Or (a :: b :: rest) pos) (cOr ca cb) := mkW (pw_or ha hb) (st_or sT sT)
theorem jtw (h : JW X N W a ca) : JT X N W a ca := PW.pt h
theorem jt_not (ha : JT X N W a ca) : JT X N W (.UnaryOp .Not a pos) (cNot ca) := mkT (pt_not ha) (st_not sT)
/-! ### and, or, not; if else -/
theorem j_one {op} (ha : JE X N W a fa) : JE X N W (.BoolOp op [a] pos) fa := pe_one ha
theorem j_and (ha : JE X N W a fa) (hb : JE X N W (.BoolOp .And (b :: rest) pos) fb) : JE X N W (.BoolOp .And (a :: b :: rest) pos) (eAnd fa fb) := mkE (pe_andT ha hb) (se_and sE sE)
theorem j_or (ha : JE X N W a fa) (hb : JE X N W (.BoolOp .Or (b :: rest) pos) fb) : JE X N W (.BoolOp .Or (a :: b :: rest) pos) (eOr fa fb) := mkE (pe_orT ha hb) (se_or sE sE)
theorem j_not (ha : JE X N W a fa) : JE X N W (.UnaryOp .Not a pos) (eNot fa) := mkE (pe_notT ha) (se_not sE)
theorem j_if (hc : JT X N W c ca) (ha : JE X N W a fa) (hb : JE X N W b fb) : JE X N W (.IfExp c a b pos) (eIf ca fa fb) := mkE (pe_ifExp hc ha hb) (se_if sT sE sE)
/-! ### items, slices, displays -/
theorem j_ix {k : Nat} (hr : Room k X.A) (ha : JE X N W a fa) (hb : JE X N W b fb) (hs : PlainIx b := by exact fun _ _ => rfl) : JE X N W (.Subscript a b pos) (eOp fa fb getA) := mkE (pe_ix (ix_U hr.units) ha hb hs) (se_op sr_get sE sE)
abbrev JO (X : Cx) (N : Nm) (W : WX) (e : Option Expr) (f : En → Hs → R (Option Int)) : Prop := PO X e (tOp' (gx X N) W f)
theorem mkO {o : Option Expr} {t : TO} {f : En → Hs → R (Option Int)} (h : PO X o t) (s : SO (gx X N) W t f) : JO X N W o f := ⟨fun pins s1 σ H Q I ⟨r, hh, a, q, er, hp⟩ => h.run pins s1 σ H Q I (s r hh H a σ Q q er hp)⟩
theorem jo_none : JO X N W none oNone := mkO po_none so_none
theorem jo_some (ha : JE X N W a fa) : JO X N W (some a) (oSome fa) := mkO (po_some ha) (so_some sE)
theorem j_sl {lo hi : Option Expr} {p2 : Pos} {fl fh : En → Hs → R (Option Int)} (ha : JE X N W a fa) (hl : JO X N W lo fl) (hh : JO X N W hi fh) : JE X N W (.Subscript a (.Slice lo hi none p2) pos) (eSl fa fl fh) := mkE (pe_slice sl_U ha hl hh) (se_sl sE sO sO)
variable {fs : En → Hs → R (List A)}
theorem ja_nil : JA X N W [] aNil := mkA pa_nil sa_nil
theorem ja (ha : JE X N W a fa) (hr : JA X N W es fs) (hs : starEach (a :: es) X.env = (false, eval a X.env) :: starEach es X.env := by rfl) : JA X N W (a :: es) (aCons fa fs) := mkA (pa_cons ha hr hs) (sa_cons sE sA)
theorem j_tup {x1} (h : JA X N W es fs) : JE X N W (.Tuple es x1 pos) (eTup fs) := mkE (pe_tup h) (se_tup sA)
theorem j_lst (h : JA X N W es fs) : JE X N W (.List es pos) (eLst fs) := mkE (pe_lst h) (se_lst sA)
theorem j_dnew : JE X N W (.Dict [] [] pos) eDnew := mkE pe_dnewK se_dnew
def JPs (X : Cx) (N : Nm) (W : WX) (pos : Pos) (ks : List (Option Expr)) (vs : List Expr) (f : En → Hs → R (List (A × A))) : Prop := ∃ trs, PPs X pos ks vs trs ∧ SPs (gx X N) W trs f
theorem jp_nil : JPs X N W pos [] [] pNil := ⟨[], pps_nil, sp_nil⟩
theorem jp {ks : List (Option Expr)} {vs : List Expr} {f : En → Hs → R (List (A × A))} (ha : JE X N W a fa) (hb : JE X N W b fb) (h : JPs X N W pos ks vs f) : JPs X N W pos (some a :: ks) (b :: vs) (pCons fa fb f) := by
  obtain ⟨trs, h1, h2⟩ := h
  exact ⟨_, pps_cons ha hb h1, sp_cons sE sE h2⟩
theorem j_disp {ks : List (Option Expr)} {vs : List Expr} {f : En → Hs → R (List (A × A))} (h : JPs X N W pos ks vs f) (hall : ks.all (·.isSome) = true := by rfl) (hl : ks.length = vs.length := by rfl) (h0 : ks ≠ [] := by exact fun z => nomatch z) (h15 : ks.length ≤ 15 := by decide) : JE X N W (.Dict ks vs pos) (eDisp f) := by
  obtain ⟨trs, h1, h2⟩ := h
  exact mkE (pe_disp h1 hall hl h0 h15) (se_disp h2)
/-! ### built-in functions -/
structure FB (X : Cx) (N : Nm) (id : String) (g : A → Hs → R A) : Prop where
  ex : ∃ r, CallR X (.builtin id) r ∧ SC1 (gx X N) r g
structure FT (X : Cx) (N : Nm) (id : String) (g : A → Hs → R A) : Prop where
  ex : ∃ r, CallR X (.type id) r ∧ SC1 (gx X N) r g
theorem f_len : FB X N "len" lenA := ⟨_, call_lenU, sc_len⟩
theorem f_abs : FB X N "abs" absA := ⟨_, call_abs, sc_abs⟩
theorem f_all (hc : X.calm = true) : FB X N "all" allA := ⟨_, cr_all hc, sc_all⟩
theorem f_any (hc : X.calm = true) : FB X N "any" anyA := ⟨_, cr_any hc, sc_any⟩
theorem f_reprS : FB X N "repr" reprS := ⟨_, call_reprS, sc_reprS⟩
theorem f_str : FT X N "str" strA := ⟨_, call_strU, sc_str⟩
theorem f_int : FT X N "int" toIntA := ⟨_, call_intU, sc_int⟩
theorem f_tup : FT X N "tuple" tupA := ⟨_, call_tuple_of, sc_tup⟩
theorem f_lst : FT X N "list" lstA := ⟨_, call_list_of, sc_lst⟩
theorem bt_len : bootBuiltins "len" = some (.builtin "len") := by decide +kernel
theorem bt_abs : bootBuiltins "abs" = some (.builtin "abs") := by decide +kernel
theorem bt_all : bootBuiltins "all" = some (.builtin "all") := by decide +kernel
theorem bt_any : bootBuiltins "any" = some (.builtin "any") := by decide +kernel
theorem bt_repr : bootBuiltins "repr" = some (.builtin "repr") := by decide +kernel
theorem bt_isinstance : bootBuiltins "isinstance" = some (.builtin "isinstance") := by decide +kernel
theorem bt_str : bootBuiltins "str" = some (.type "str") := by decide +kernel
theorem bt_int : bootBuiltins "int" = some (.type "int") := by decide +kernel
theorem bt_tuple : bootBuiltins "tuple" = some (.type "tuple") := by decide +kernel
theorem bt_list : bootBuiltins "list" = some (.type "list") := by decide +kernel
theorem bt_dict : bootBuiltins "dict" = some (.type "dict") := by decide +kernel
theorem bt_bool : bootBuiltins "bool" = some (.type "bool") := by decide +kernel
theorem j_b1 {x : Str} {id : String} {g : A → Hs → R A} (d : FB X N id g) (hv : bootBuiltins x = some (.builtin id)) (hm : X.mg x = none) (ha : JE X N W a fa) (hg : Gl X x := by rfl) (hn : x ≠ "__name__" := by decide) (hdb : (x == ("__debug__" : Str)) = false := by decide)
    (he : starEach [a] X.env = [(false, eval a X.env)] := by rfl) : JE X N W (.Call (.Name x p) [a] [] pos) (eUn fa g) := by
  obtain ⟨r, h1, h2⟩ := d.ex
  exact mkE (pe_callB h1 hg hm hv (pa_cons ha pa_nil he) hn hdb he rfl) (se_cb1 h2 sE)
theorem j_t1 {x : Str} {id : String} {g : A → Hs → R A} (d : FT X N id g) (hv : bootBuiltins x = some (.type id)) (hm : X.mg x = none) (ha : JE X N W a fa) (hg : Gl X x := by rfl) (hn : x ≠ "__name__" := by decide) (hdb : (x == ("__debug__" : Str)) = false := by decide)
    (he : starEach [a] X.env = [(false, eval a X.env)] := by rfl) : JE X N W (.Call (.Name x p) [a] [] pos) (eUn fa g) := by
  obtain ⟨r, h1, h2⟩ := d.ex
  exact mkE (pe_callTy h1 hg hm hv (pa_cons ha pa_nil he) hn hdb he rfl) (se_cb1 h2 sE)
theorem j_isi {x : Str} {c : String} {p3 : Pos} (hc : c ∈ clsB) (hv : bootBuiltins x = some (.type c)) (hm : X.mg "isinstance" = none) (hmx : X.mg x = none) (ha : JE X N W a fa) (hg : Gl X "isinstance" := by rfl) (hgx : Gl X x := by rfl) (hn : x ≠ "__name__" := by decide) (hd : (x == ("__debug__" : Str)) = false := by decide)
    (he : starEach [a, .Name x p3] X.env = (false, eval a X.env) :: [(false, eval (.Name x p3) X.env)] := by rfl) : JE X N W (.Call (.Name "isinstance" p) [a, .Name x p3] [] pos) (eUn fa (isiA c)) :=
  mkE (pe_callB call_isi hg hm bt_isinstance (pa_cons ha (pa_cons (pe_bltn (v := .ty c) hgx hmx hv rfl hn hd) pa_nil) he) (by decide) (by decide) he rfl) (se_isi c hc sE)
theorem j_isi2 {x y : Str} {c d : String} {p3 p4 tp : Pos} {k : Nat} (hc : c ∈ clsB) (hd : d ∈ clsB) (hv : bootBuiltins x = some (.type c)) (hw : bootBuiltins y = some (.type d)) (hm : X.mg "isinstance" = none) (hmx : X.mg x = none) (hmy : X.mg y = none) (ha : JE X N W a fa) (hg : Gl X "isinstance" := by rfl) (hgx : Gl X x := by rfl) (hgy : Gl X y := by rfl)
    (hn : x ≠ "__name__" := by decide) (hdb : (x == ("__debug__" : Str)) = false := by decide) (hn2 : y ≠ "__name__" := by decide) (hdb2 : (y == ("__debug__" : Str)) = false := by decide)
    (he : starEach [a, .Tuple [.Name x p3, .Name y p4] k tp] X.env = (false, eval a X.env) :: [(false, eval (.Tuple [.Name x p3, .Name y p4] k tp) X.env)] := by rfl) : JE X N W (.Call (.Name "isinstance" p) [a, .Tuple [.Name x p3, .Name y p4] k tp] [] pos) (eUn fa (isi2A c d)) :=
  mkE (pe_callB call_isiT hg hm bt_isinstance (pa_cons ha (pa_cons (pe_tup (pa_cons (pe_bltn (v := .ty c) hgx hmx hv rfl hn hdb) (pa_cons (pe_bltn (v := .ty d) hgy hmy hw rfl hn2 hdb2) pa_nil))) pa_nil) he) (by decide) (by decide) he rfl) (se_isi2 c d hc hd sE)
/-! ### walks -/
theorem ji {tg : Expr} (ha : JE X N W a fa) : JI X N W tg a (iAnyF fa) := mkI (pi_any ha) (si_any sE)
theorem ji_rg1 {tg : Expr} (hm : X.mg "range" = none) (ha : JA X N W [a] fs) (hg : Gl X "range" := by rfl) (hs : starEach [a] X.env = [(false, eval a X.env)] := by rfl) : JI X N W tg (.Call (.Name "range" p) [a] [] pos) (iRg1 fs) := mkI (pi_range1 hg hm ha hs) (si_rg1 sA)
theorem ji_rg2 {tg : Expr} (hm : X.mg "range" = none) (ha : JA X N W [a, b] fs) (hg : Gl X "range" := by rfl) (hs : starEach [a, b] X.env = [(false, eval a X.env), (false, eval b X.env)] := by rfl) (hs2 : starEach [b] X.env = [(false, eval b X.env)] := by rfl) : JI X N W tg (.Call (.Name "range" p) [a, b] [] pos) (iRg2 fs) := mkI (pi_range2 hg hm ha hs hs2) (si_rg2 sA)
/-! ### targets -/
def tGt (G : Cn) (ix : List Nat) (g : A → En → Option En) : TG := fun v s H Q => ∃ (r : Nat → Addr) (h : Hs) (a : En) (x : A), HR G r h H ∧ ER G r h.length H a s ∧ VR G r h.length H x v ∧ ∃ a', g x a = some a' ∧ ∀ s', ER G r h.length H a' s' → s'.length = s.length → (∀ j, j ∉ ix → s'[j]? = s[j]?) → Q s' H
def tGs (G : Cn) (ix : List Nat) (g : List A → En → Option En) : TGs := fun vs s H Q => ∃ (r : Nat → Addr) (h : Hs) (a : En) (xs : List A), HR G r h H ∧ ER G r h.length H a s ∧ VRs G r h.length H xs vs ∧ ∃ a', g xs a = some a' ∧ ∀ s', ER G r h.length H a' s' → s'.length = s.length → (∀ j, j ∉ ix → s'[j]? = s[j]?) → Q s' H
abbrev JG (X : Cx) (N : Nm) (ix : List Nat) (tg : Expr) (g : A → En → Option En) : Prop := PG X tg (tGt (gx X N) ix g)
abbrev JGs (X : Cx) (N : Nm) (ix : List Nat) (tgs : List Expr) (g : List A → En → Option En) : Prop := PGs X tgs (tGs (gx X N) ix g)
theorem sG {G : Cn} {ix : List Nat} {g : A → En → Option En} : SG G ix (tGt G ix g) g := fun r h H a s x v Q q e z k => ⟨r, h, a, x, q, e, z, k⟩
theorem sGs {G : Cn} {ix : List Nat} {g : List A → En → Option En} : SGs G ix (tGs G ix g) g := fun r h H a s x v Q q e z k => ⟨r, h, a, x, q, e, z, k⟩
theorem mkG {tg : Expr} {ix : List Nat} {t : TG} {g : A → En → Option En} (h : PG X tg t) (s : SG (gx X N) ix t g) : JG X N ix tg g := ⟨fun pins s1 σ H v u Q I rv ⟨r, hh, a, x, q, er, z, k⟩ => h.run pins s1 σ H v u Q I rv (s r hh H a σ x v Q q er z k)⟩
theorem mkGs {tgs : List Expr} {ix : List Nat} {t : TGs} {g : List A → En → Option En} (h : PGs X tgs t) (s : SGs (gx X N) ix t g) : JGs X N ix tgs g := ⟨fun pins s1 σ H v u Q I rv ⟨r, hh, a, x, q, er, z, k⟩ => h.run pins s1 σ H v u Q I rv (s r hh H a σ x v Q q er z k)⟩
theorem jg (i : Nat) {x : Str} (hN : X.N.Nodup) (hi : X.N[i]? = some x := by rfl) (hx : Loc X.env.scope x := by first | exact Or.inl rfl | exact Or.inr rfl) (hf : X.fn x = true ∨ X.env.scope.names.lookup x = some .local := by first | exact .inl rfl | exact .inr rfl) : JG X N [i] (.Name x pos) (gNm i) := mkG (pg_name hN hi hx hf) (sg_name i)
theorem jgs_nil : JGs X N [] [] gsNil := mkGs pgs_nil sgs_nil
theorem jgs {i1 i2 : List Nat} {f : A → En → Option En} {g : List A → En → Option En} (h : JG X N i1 a f) (h2 : JGs X N i2 es g) (hs : (assignEach (a :: es) X.env).map (·.2) = assign a X.env :: (assignEach es X.env).map (·.2) := by rfl) : JGs X N (i1 ++ i2) (a :: es) (gsCons f g) := mkGs (pgs_cons h h2 hs) (sgs_cons sG sGs)
theorem jg_tup {ix : List Nat} {k n : Nat} {g : List A → En → Option En} (h : JGs X N ix es g) (hc : X.calm = true) (hn : (assignEach es X.env).length = n := by rfl) (hst : (assignEach es X.env).findIdx? (·.1) = none := by rfl) : JG X N ix (.Tuple es k pos) (gTp n g) := mkG (pg_tup hc h hn hst) (sg_tup sGs)
/-! ### statements -/
variable {f g : En → Hs → Rs}
theorem jb_nil : JB X N W [] sNext := mkB pss_nil ss_next
theorem jb1 (h : JS X N W st f) : JB X N W [st] f := pss_one h
theorem jb (h : JS X N W st f) (h2 : JB X N W sts g) : JB X N W (st :: sts) (sSeq f g) := mkB (pss_cons h h2) (ss_seq sS sS)
theorem js_pass : JS X N W (.Pass pos) sNext := mkS ps_pass ss_next
theorem js_break : JS X N W (.Break pos) sBreak := mkS ps_break ss_break
theorem js_cont : JS X N W (.Continue pos) sCont := mkS ps_continue ss_cont
theorem js_expr (ha : JE X N W a fa) (hs : swapsWith a none pos.line X.env = pure false := by rfl) : JS X N W (.Expr a pos) (sExpr fa) := mkS (ps_expr ha hs) (ss_expr sE)
theorem js_ret (ha : JE X N W a fa) : JS X N W (.Return (some a) pos) (sRet fa) := mkS (ps_ret ha) (ss_ret sE)
theorem js_retN : JS X N W (.Return none pos) sRetN := mkS ps_retN ss_retN
theorem js_if {b1 b2 : List Stmt} (hc : JT X N W c ca) (h1 : JB X N W b1 f) (h2 : JB X N W b2 g) : JS X N W (.If c b1 b2 pos) (sIf ca f g) := mkS (ps_if hc h1 h2) (ss_if sT sS sS)
theorem js_set (i : Nat) {x : Str} {pos' : Pos} (hN : X.N.Nodup) (ha : JE X N W a fa) (hi : X.N[i]? = some x := by rfl) (hx : Loc X.env.scope x := by first | exact Or.inl rfl | exact Or.inr rfl) (hs : swapsWith a (some (.Name x pos')) pos.line X.env = pure false := by rfl) (hf : X.fn x = true ∨ X.env.scope.names.lookup x = some .local := by first | exact .inl rfl | exact .inr rfl) : JS X N W (.Assign [.Name x pos'] a pos) (sSet i fa) :=
  mkS (ps_set hN hi hx ha hs hf) (ss_set sE)
theorem js_asg {ix : List Nat} {gg : A → En → Option En} (ha : JE X N W a fa) (hg : JG X N ix b gg) (hs : swapsWithSole [b] a pos.line X.env = pure false := by rfl) (hw : swappedStores [b] a X.env = pure none := by rfl) (ht : (assignEach [b] X.env).map (·.2) = [assign b X.env] := by rfl) : JS X N W (.Assign [b] a pos) (sAsg fa gg) := mkS (ps_asg ha hg hs hw ht) (ss_asg sE sG)
theorem js_par (i j : Nat) {x y : Str} {px py pt : Pos} {kt k2 pt2} (hN : X.N.Nodup) (hc : X.calm = true) (ha : JA X N W [a, b] fs) (hi : X.N[i]? = some x := by rfl) (hj : X.N[j]? = some y := by rfl) (hij : i ≠ j := by decide)
    (hx : X.env.scope.names.lookup x = some .local := by rfl) (hy : X.env.scope.names.lookup y = some .local := by rfl) (hw : swappedStores [.Tuple [.Name x px, .Name y py] kt pt] (.Tuple [a, b] k2 pt2) X.env = pure (some [x, y]) := by rfl)
    (hs : swapsWithSole [.Tuple [.Name x px, .Name y py] kt pt] (.Tuple [a, b] k2 pt2) pos.line X.env = pure false := by rfl) : JS X N W (.Assign [.Tuple [.Name x px, .Name y py] kt pt] (.Tuple [a, b] k2 pt2) pos) (sPar i j fs) :=
  mkS (ps_par hc hN hi hj hij hx hy ha hw hs) (ss_par sA)
theorem js_setIx {pos' : Pos} (ho : JE X N W a fa) (hi : JE X N W b fb) (hv : JE X N W c fc) (ha : ∀ v, assign (.Subscript a b pos') X.env v = (do
      let ov ← holding [v] (eval a X.env)
      let iv ← holding [v, ov] (eval b X.env)
      standAt pos'
      holding [v, ov, iv] (setItem ov iv v)
      release [v, ov, iv] []) := by intro _; rfl) (hs : swapsWithSole [.Subscript a b pos'] c pos.line X.env = pure false := by rfl) (hw : swappedStores [.Subscript a b pos'] c X.env = pure none := by rfl) (ht : (assignEach [.Subscript a b pos'] X.env).map (·.2) = [assign (.Subscript a b pos') X.env] := by rfl) : JS X N W (.Assign [.Subscript a b pos'] c pos) (sSetIx fa fb fc) :=
  mkS (ps_asg hv (pg_sub ho hi set_list ha) hs hw ht) (ss_setIx sE sE sE)
theorem js_for {tg it : Expr} {body : List Stmt} {fi : En → Hs → R Src} {ix : List Nat} {gg : A → En → Option En} (hp : PassesOwn (model X.prog X.w) X.A X.env X.xe) (hc : X.calm = true) (hi : JI X N W tg it fi) (hg : JG X N ix tg gg) (hb : JB X N W body f) (hs : ∀ x, foldedSetIterable it X.env x = pure x := by intro _; rfl) : JS X N W (.For tg it body [] pos) (sFor fi gg f) := mkS (ps_for hp hc hi hg hb hs) (ss_for sI sG sS)
/-- xs.append(e) -/
theorem j_app {apos cpos : Pos} (ho : JE X N W a fa) (he : JE X N W e fb) (hbase : attributeBase a "append" X.env (eval a X.env) = eval a X.env := by rfl) (hfew : ((backTo cpos (starEach [e] X.env)).all (fun x => !x.1) && (backToKw cpos (keywordEach [] X.env)).all (fun x => x.1.isSome)
      && decide (([e] : List Expr).length + ([] : List Keyword).length + (if ([] : List Keyword).isEmpty then 0 else 1) < 30)) = true := by rfl) (hline : (apos.endLine == cpos.line) = true := by rfl) (hs : starEach [e] X.env = (false, eval e X.env) :: starEach [] X.env := by rfl) (hplain : (backTo cpos (starEach [] X.env)).any (·.1) = false := by rfl) :
    JE X N W (.Call (.Attribute a "append" apos) [e] [] cpos) (eLm1 appA fa fb) :=
  mkE (pe_bm PySem.F.plainAttrs_list PySem.F.slot_list_append PySem.F.type_list_append mt_append ho (pa_cons he pa_nil hs) hbase hfew hline hs hplain) (se_lm1 sm_append sE sE)
end
end Sm

namespace Sm
open PySem L2
section
variable {X : Cx} {N : Nm} {W : WX} {a b c e : Expr} {es rest : List Expr} {st : Stmt} {sts : List Stmt} {pos p : Pos} {fa fb fc : En → Hs → R A}
/-! ### comprehensions -/
abbrev JTs (X : Cx) (N : Nm) (W : WX) (ifs : List Expr) (f : En → Hs → R Bool) : Prop := PTs X ifs (tTe (gx X N) W f)
theorem mkTs {ifs : List Expr} {t : TT} {f : En → Hs → R Bool} (h : PTs X ifs t) (s : ST (gx X N) W t f) : JTs X N W ifs f := ⟨fun pins s1 σ H Q I ⟨r, hh, a, q, er, hp⟩ => h.run pins s1 σ H Q I (s r hh H a σ Q q er hp)⟩
theorem jts_nil : JTs X N W [] cYes := mkTs pts_nil st_yes
theorem jts_one {ca : En → Hs → R Bool} (h : JT X N W a ca) : JTs X N W [a] ca := pts_one h
theorem j_lc {elt tg iter : Expr} {ifs : List Expr} {scope : Scope} (own : List (Str × Nat)) {fi : En → Hs → R Src} {ix : List Nat} {g : A → En → Option En} {cc : En → Hs → R Bool} {ff : En → Hs → R A} (hN : X.N.Nodup) (hc : X.calm = true) (hi : JI X N W tg iter fi)
    (hg : ∀ (s : Shared) (H : Hp) (C : Addr) (cl : List (Str × Addr)) (fp : List Addr), JG (X.blk s H scope (compEnvC scope cl C X.env) fp) N ix tg g)
    (ht : ∀ (s : Shared) (H : Hp) (C : Addr) (cl : List (Str × Addr)) (fp : List Addr), JTs (X.blk s H scope (compEnvC scope cl C X.env) fp) N W0 ifs cc)
    (he : ∀ (s : Shared) (H : Hp) (C : Addr) (cl : List (Str × Addr)) (fp : List Addr), JE (X.blk s H scope (compEnvC scope cl C X.env) fp) N W0 elt ff)
    (ok : blkC X.N X.env.scope scope own = true := by kernel_rfl) (hix : ∀ j ∈ ix, j ∈ own.map (·.2) := by decide) (hs : ∀ x, foldedSetIterable iter X.env x = pure x := by intro _; rfl) :
    JE X N W (.ListComp elt [⟨tg, iter, ifs, 0⟩] scope pos) (eLc fi g cc ff (own.map (·.2))) :=
  mkE (pe_lc hc hN hi (blkOk_by ok) hg ht he hs) (se_lc sI sG hix sT sE)
theorem js_setLc {elt tg iter : Expr} {ifs : List Expr} {scope : Scope} {y : Str} {py spos : Pos} (i : Nat) (own : List (Str × Nat)) {fi : En → Hs → R Src} {ix : List Nat} {g : A → En → Option En} {cc : En → Hs → R Bool} {ff : En → Hs → R A} (hN : X.N.Nodup) (hc : X.calm = true) (hi : JI X N W tg iter fi)
    (hg : ∀ (s : Shared) (H : Hp) (C : Addr) (cl : List (Str × Addr)) (fp : List Addr), JG (X.blk s H scope (compEnvC scope cl C X.env) fp) N ix tg g)
    (ht : ∀ (s : Shared) (H : Hp) (C : Addr) (cl : List (Str × Addr)) (fp : List Addr), JTs (X.blk s H scope (compEnvC scope cl C X.env) fp) N W0 ifs cc)
    (he : ∀ (s : Shared) (H : Hp) (C : Addr) (cl : List (Str × Addr)) (fp : List Addr), JE (X.blk s H scope (compEnvC scope cl C X.env) fp) N W0 elt ff)
    (hy : X.N[i]? = some y := by rfl) (hyl : X.env.scope.names.lookup y = some .local := by rfl) (hk : X.env.scope.kind = .function := by rfl) (hl : (py.line == pos.line) = true := by rfl) (ha : (scope.names.any fun (n, k) => n == y && (k == .local || k == .cell)) = false := by kernel_rfl)
    (ok : blkC X.N X.env.scope scope own = true := by kernel_rfl) (hix : ∀ j ∈ ix, j ∈ own.map (·.2) := by decide) (hs : ∀ x, foldedSetIterable iter X.env x = pure x := by intro _; rfl) :
    JS X N W (.Assign [.Name y py] (.ListComp elt [⟨tg, iter, ifs, 0⟩] scope pos) spos) (sSet i (eLc fi g cc ff (own.map (·.2)))) :=
  mkS (ps_setLc hc hN hy hyl (sw_true hk hyl hl ha) hi (blkOk_by ok) hg ht he hs) (ss_set (se_lc sI sG hix sT sE))
end
/-! ### calls -/
/-- the function x of the module, of n arguments with the defaults ds behind, does m -/
structure Cal (P : Program) (w : World) (K : PySem.W.Frag) (mg : Str → Option Value) (base : Heap) (N : Nm) (k : Nat) (x : Str) (n : Nat) (ds : List A) (m : List A → Hs → R A) : Prop where
  ex : ∃ (f : Addr) (fd : FuncData) (ps : List Str) (dvs : List V) (dus : List Value), FnOk P w K mg base (L2.CX P w) k f fd ps (spOf ⟨K, N.cls, N.fn⟩ n m) ∧ mg x = some (.ref f) ∧ PySem.W.keepIn K (.ref f) = true ∧ Binds K fd ps dus ∧ Vals dvs dus ∧ ∀ r i H, VRs ⟨K, N.cls, N.fn⟩ r i H ds dvs
section
variable {X : Cx} {N : Nm} {W : WX} {e : Expr} {es : List Expr} {pos p : Pos} {fs : En → Hs → R (List A)} {x : Str} {k j n : Nat} {ds : List A} {m : List A → Hs → R A}
theorem j_call (c : Cal X.prog X.w X.K X.mg X.base N k x n ds m) (hr : Room j X.A) (tk : Takes X W) (ha : JA X N W (e :: es) fs) (hk : k ≤ j := by decide) (hg : Gl X x := by rfl) (hdb : (x == ("__debug__" : Str)) = false := by decide) (he : starEach (e :: es) X.env = (false, eval e X.env) :: starEach es X.env := by rfl) (hpl : (backTo pos (starEach es X.env)).any (·.1) = false := by rfl) :
    JE X N W (.Call (.Name x p) (e :: es) [] pos) (eCall n fs ds m) := by
  obtain ⟨f, fd, ps, dvs, dus, h1, h2, h3, h4, h5, h6⟩ := c.ex
  exact mkE (pe_callSD h1 (hr.mono hk) hg h2 h3 h4 h5 (fun σ => passAt tk σ) ha hdb he hpl) (se_call h6 sA)
end
end Sm

namespace Sm
open PySem L2
/-! ### what a value names -/
mutual
def clA (n : Nat) : A → Bool
  | .tup xs => clAs n xs
  | .obj _ xs => clAs n xs
  | .rol xs => clAs n xs
  | .lst xs => clAs n xs
  | .ref i => decide (i < n)
  | .non => true
  | .bl _ => true
  | .int _ => true
  | .str _ => true
def clAs (n : Nat) : List A → Bool
  | [] => true
  | x :: xs => clA n x && clAs n xs
end
def clO (n : Nat) : O → Bool
  | .lst xs => clAs n xs
  | .dct kvs => kvs.all fun kv => clA n kv.2
  | .ins _ fs => fs.all fun kv => clA n kv.2
def clH (h : Hs) : Bool := h.all (clO h.length)
section
variable {G : Cn} {r : Nat → Addr} {n n' : Nat} {H : Hp}
mutual
theorem VR.cl : ∀ {x : A} {v : V}, VR G r n H x v → clA n x = true
  | _, _, .non => by simp only [clA]
  | _, _, .bl b => by simp only [clA]
  | _, _, .int i => by simp only [clA]
  | _, _, .str x => by simp only [clA]
  | _, _, .tup _ t => by simp only [clA]; exact VRs.cl t
  | _, _, .rol _ t => by simp only [clA]; exact VRs.cl t
  | _, _, .obj _ _ _ t => by simp only [clA]; exact VRs.cl t
  | _, _, .ref hi => by simp only [clA]; exact decide_eq_true hi
theorem VRs.cl : ∀ {xs : List A} {vs : List V}, VRs G r n H xs vs → clAs n xs = true
  | _, _, .nil => by simp only [clAs]
  | _, _, .cons a b => by simp only [clAs, VR.cl a, VRs.cl b, Bool.and_self]
end
theorem KR.cl : ∀ {xs : List (A × A)} {vs : List (Key × V)}, KR G r n H xs vs → (xs.all fun kv => clA n kv.2) = true
  | _, _, .nil => rfl
  | _, _, .cons a b => by rw [List.all_cons, KR.cl b, a.cl, Bool.and_self]
theorem FR.cl : ∀ {xs : List (Str × A)} {vs : List (Str × V)}, FR G r n H xs vs → (xs.all fun kv => clA n kv.2) = true
  | _, _, .nil => rfl
  | _, _, .cons a b => by rw [List.all_cons, FR.cl b, a.cl, Bool.and_self]
theorem OR.cl {p : Addr} : ∀ {o : O}, OR G r n H p o → clO n o = true
  | .lst _, ⟨_, _, z⟩ => z.cl
  | .dct _, ⟨_, _, z⟩ => z.cl
  | .ins _ _, ⟨_, _, _, z⟩ => z.cl
theorem HR.cl {h : Hs} (q : HR G r h H) : clH h = true := by
  unfold clH
  rw [List.all_eq_true]
  intro o ho
  obtain ⟨i, hi, e⟩ := List.mem_iff_getElem.mp ho
  exact (q.ob i o (by rw [List.getElem?_eq_getElem hi, e])).cl
mutual
theorem VR.cut (le : n ≤ n') : ∀ {x : A} {v : V}, VR G r n' H x v → clA n x = true → VR G r n H x v
  | _, _, .non, _ => .non
  | _, _, .bl b, _ => .bl b
  | _, _, .int i, _ => .int i
  | _, _, .str x, _ => .str x
  | _, _, .tup h t, c => .tup h (VRs.cut le t (by simpa only [clA] using c))
  | _, _, .rol h t, c => .rol h (VRs.cut le t (by simpa only [clA] using c))
  | _, _, .obj hu h l t, c => .obj (fun i hi => hu i (Nat.lt_of_lt_of_le hi le)) h l (VRs.cut le t (by simpa only [clA] using c))
  | _, _, .ref hi, c => .ref (by simpa only [clA, decide_eq_true_eq] using c)
theorem VRs.cut (le : n ≤ n') : ∀ {xs : List A} {vs : List V}, VRs G r n' H xs vs → clAs n xs = true → VRs G r n H xs vs
  | _, _, .nil, _ => .nil
  | _, _, .cons a b, c => by
    simp only [clAs, Bool.and_eq_true] at c
    exact .cons (VR.cut le a c.1) (VRs.cut le b c.2)
end
theorem KR.cut (le : n ≤ n') : ∀ {xs : List (A × A)} {vs : List (Key × V)}, KR G r n' H xs vs → (xs.all fun kv => clA n kv.2) = true → KR G r n H xs vs
  | _, _, .nil, _ => .nil
  | _, _, .cons a b, c => by
    rw [List.all_cons, Bool.and_eq_true] at c
    exact .cons (a.cut le c.1) (KR.cut le b c.2)
theorem FR.cut (le : n ≤ n') : ∀ {xs : List (Str × A)} {vs : List (Str × V)}, FR G r n' H xs vs → (xs.all fun kv => clA n kv.2) = true → FR G r n H xs vs
  | _, _, .nil, _ => .nil
  | _, _, .cons a b, c => by
    rw [List.all_cons, Bool.and_eq_true] at c
    exact .cons (a.cut le c.1) (FR.cut le b c.2)
theorem OR.cut (le : n ≤ n') {p : Addr} : ∀ {o : O}, OR G r n' H p o → clO n o = true → OR G r n H p o
  | .lst _, ⟨vs, e, z⟩, c => ⟨vs, e, z.cut le c⟩
  | .dct _, ⟨vs, e, z⟩, c => ⟨vs, e, z.cut le c⟩
  | .ins _ _, ⟨dx, vs, e, z⟩, c => ⟨dx, vs, e, z.cut le c⟩
theorem HR.cut {h g : Hs} (q : HR G r (h ++ g) H) (c : clH h = true) : HR G r h H := by
  have hl : h.length ≤ (h ++ g).length := by rw [List.length_append]; exact Nat.le_add_right _ _
  refine ⟨fun i j hi hj e => q.inj i j (Nat.lt_of_lt_of_le hi hl) (Nat.lt_of_lt_of_le hj hl) e, fun i o e => ?_⟩
  have hi : i < h.length := (List.getElem?_eq_some_iff.mp e).1
  refine (q.ob i o (by rw [List.getElem?_append_left hi]; exact e)).cut hl ?_
  unfold clH at c
  rw [List.all_eq_true] at c
  exact c o (List.mem_of_getElem? e)
theorem WR.cut {H0 : Hp} (le : n ≤ n') {x : A} {v : V} (w : WR G H0 r n' H x v) (c : clA n x = true) : WR G H0 r n H x v := by
  cases w with
  | val z => exact .val (z.cut le c)
  | tmp h1 h2 h3 h4 => exact .tmp h1 (h2.cut le (by simpa only [clA] using c)) (fun i hi => h3 i (Nat.lt_of_lt_of_le hi le)) h4
theorem Fw.cut {r0 : Nat → Addr} {n0 : Nat} {H0 : Hp} (f : Fw r0 n0 H0 r n' H) (h0 : n0 ≤ n) (le : n ≤ n') : Fw r0 n0 H0 r n H :=
  ⟨h0, f.old, fun i a b => f.new i a (Nat.lt_of_lt_of_le b le), f.keep, f.trk⟩
end
/-- x may be told as y: y says nothing; the same; without what nothing names any more -/
inductive Le (n : Nat) : R A → R A → Prop
  | stuck {x : R A} : Le n x .stuck
  | same {x : R A} : Le n x x
  | okCut {v : A} {h g : Hs} : n ≤ h.length → clH h = true → clA h.length v = true → Le n (.ok v (h ++ g)) (.ok v h)
  | excCut {c : Str} {xs : List A} {h g : Hs} : n ≤ h.length → clH h = true → clAs h.length xs = true → Le n (.exc c xs (h ++ g)) (.exc c xs h)
theorem Le.post {G : Cn} {X : XK} {r : Nat → Addr} {n : Nat} {H : Hp} {Q : VK} {x y : R A} (l : Le n x y) (hp : Post G (WR G) X r n H Q y) : Post G (WR G) X r n H Q x := by
  cases l with
  | stuck => exact hp.elim
  | same => exact hp
  | @okCut v h g h1 h2 h3 =>
    have hl : h.length ≤ (h ++ g).length := by rw [List.length_append]; exact Nat.le_add_right _ _
    exact fun r' H' w f q z => hp r' H' w (f.cut h1 hl) (q.cut h2) (z.cut hl h3)
  | @excCut c xs h g h1 h2 h3 =>
    have hl : h.length ≤ (h ++ g).length := by rw [List.length_append]; exact Nat.le_add_right _ _
    intro r' H' d f q z
    refine hp r' H' d (f.cut h1 hl) (q.cut h2) ?_
    cases d with
    | none => exact z
    | some d =>
      obtain ⟨z1, vs, z2, z3, z4⟩ := z
      exact ⟨z1, vs, z2, z3, z4.cut hl h3⟩
section
variable {P : Program} {w : World} {K : PySem.W.Frag} {mg : Str → Option Value} {base : Heap} {N : Nm} {k : Nat} {x : Str} {n : Nat} {ds : List A} {m m' : List A → Hs → R A}
/-- another function in its place -/
theorem Cal.mir (c : Cal P w K mg base N k x n ds m) (h : ∀ xs hp, xs.length = n → clH hp = true → clAs hp.length xs = true → Le hp.length (m xs hp) (m' xs hp)) : Cal P w K mg base N k x n ds m' := by
  obtain ⟨f, fd, ps, dvs, dus, h1, h2⟩ := c.ex
  refine ⟨f, fd, ps, dvs, dus, h1.imp fun vs H Q E s => ?_, h2⟩
  obtain ⟨r, hp, xs, q, z, hl, po⟩ := s
  exact ⟨r, hp, xs, q, z, hl, (h xs hp hl q.cl z.cl).post po⟩
theorem Cal.mono {j : Nat} (c : Cal P w K mg base N k x n ds m) (h : k ≤ j) : Cal P w K mg base N j x n ds m := by
  obtain ⟨f, fd, ps, dvs, dus, h1, h2⟩ := c.ex
  exact ⟨f, fd, ps, dvs, dus, h1.mono h, h2⟩
/-- a def without defaults -/
theorem Cal.of {qual : Str} {params : Arguments} {body : List Stmt} {scope : Scope} {kws : List (Str × V)} {f : Addr} {fd : FuncData} {ps : List Str} (F : FunD K x qual params body scope [] kws f fd) (hm : mg x = some (.ref f)) (h : FnOk P w K mg base (L2.CX P w) k f fd ps (spOf ⟨K, N.cls, N.fn⟩ n m))
    (hb : ∀ (kV doc pm : Value) (an : Option Addr) (cdv ct : Value) (us : List Value), us.length = ps.length → bindArgs (PySem.W.fnOf x qual params body scope .none kV doc pm an cdv ct) ⟨us, []⟩ = pure (ps.zip us)) : Cal P w K mg base N k x n [] m :=
  ⟨f, fd, ps, [], [], h, hm, F.kp, F.bindsN hb, .nil, fun _ _ _ => .nil⟩
end
/-- the law's end -/
theorem law_sp {K : PySem.W.Frag} {N : Nm} {m : List A → Hs → R A} {H : Hp} {a : Addr} {ns : List Int} (hO : Only H) (hS : SqL K H a (ns.map V.int)) (hm : ∃ h, m [.rol (ns.map A.int)] [] = .ok (.bl true) h) :
    spOf ⟨K, N.cls, N.fn⟩ 1 m [.ref a] H (fun v _ => v = .bl true) (fun _ _ _ => False) := by
  have z : ∀ ms : List Int, VRs ⟨K, N.cls, N.fn⟩ (fun _ => 0) 0 H (ms.map A.int) (ms.map V.int) := fun ms => by
    induction ms with
    | nil => exact .nil
    | cons i ms ih => exact .cons (.int i) ih
  have hR : RoL K H a (ns.map V.int) := by
    rcases hS with (h | ⟨o, h⟩) | h
    · rcases hO a with k | ⟨o, xs, k⟩
      · rw [k] at h; cases h
      · rw [k] at h; cases h
    · exact .inl ⟨o, h⟩
    · exact .inr h
  obtain ⟨h, hm⟩ := hm
  refine ⟨fun _ => 0, [], [.rol (ns.map A.int)], ⟨fun i j hi => absurd hi (Nat.not_lt_zero _), fun i o e => by simp at e⟩, .cons (.rol hR (z ns)) .nil, rfl, ?_⟩
  rw [hm]
  intro r' H' w f q z
  exact z.of_bl
/-- a def that lets nothing out -/
theorem quiet {P : Program} {w : World} {K : PySem.W.Frag} {mg : Str → Option Value} {base : Heap} {k : Nat} {f : Addr} {fd : FuncData} {ps : List Str} {sp : Sp} (F : FnOk P w K mg base (L2.CX P w) k f fd ps sp) :
    FnOk P w K mg base CX0 k f fd ps (fun vs H Q _ => sp vs H Q fun _ _ _ => False) :=
  ⟨fun vs H Q E h => F.len _ _ _ _ h, fun A outer s H args us vs Q E hr he hb hv hs => codeAny_mono (F.run A outer s H args us vs Q _ hr he hb hv hs) fun r s' h => by
    cases r with
    | error e =>
      obtain ⟨_, _, _, _, _, _, _, _, _, _, _, _, z⟩ := h
      exact z.elim
    | ok fl => cases fl <;> exact h⟩
/-- the pairs of a dict of the top, as values and as the head tells them -/
inductive DR (K : PySem.W.Frag) (N : Nm) : List (Str × A) → List (Str × He.Dv) → Prop
  | nil : DR K N [] []
  | cons {k : Str} {x : A} {d : He.Dv} {xs : List (Str × A)} {ds : List (Str × He.Dv)} : (∀ r n H, VR ⟨K, N.cls, N.fn⟩ r n H x (d.v K)) → DR K N xs ds → DR K N ((k, x) :: xs) ((k, d) :: ds)
theorem gd_of {K : PySem.W.Frag} {N : Nm} {w : World} {p : Addr} {kvs : List (Str × A)} {u : List (Str × He.Dv)} (h : ∀ q ∈ u, KDct K w p q.1 (q.2.v K)) (d : DR K N kvs u) : ∀ z y, kvs.lookup z = some y → ∃ v, KDct K w p z v ∧ ∀ r n H, VR ⟨K, N.cls, N.fn⟩ r n H y v := by
  induction d with
  | nil => intro z y e; cases e
  | @cons k x d xs ds a b ih =>
    intro z y e
    have e2 : (match z == k with | true => some x | false => xs.lookup z) = some y := e
    cases q : z == k with
    | true =>
      rw [q] at e2
      cases e2
      have ez : z = k := beq_iff_eq.mp q
      subst ez
      exact ⟨_, h _ (List.mem_cons_self ..), a⟩
    | false =>
      rw [q] at e2
      exact ih (fun q hq => h q (List.mem_cons_of_mem _ hq)) z y e2
end Sm

namespace Sm
open PySem L2
/-! ### the reading, stepped -/
section
variable {h : Hs} {i j : Int} {x y : Str}
theorem add_ii : addA (.int i) (.int j) h = .ok (.int (i + j)) h := rfl
theorem sub_ii : subA (.int i) (.int j) h = .ok (.int (i - j)) h := rfl
theorem mul_l (c : i < 2 ^ 64) (d : -(2 ^ 64) < i) : mulA (.int i) (.int j) h = .ok (.int (i * j)) h := if_pos (.inl ⟨d, c⟩)
theorem mul_r (c : j < 2 ^ 64) (d : -(2 ^ 64) < j) : mulA (.int i) (.int j) h = .ok (.int (i * j)) h := if_pos (.inr ⟨d, c⟩)
theorem mod_ii (c : j ≠ 0) : modA (.int i) (.int j) h = .ok (.int (i.fmod j)) h := if_pos c
theorem fdiv_ii (c : 0 < j) (d : j.natAbs.log2 < 9000) : fdivA (.int i) (.int j) h = .ok (.int (i / j)) h := if_pos ⟨c, d⟩
theorem pow_ii (c : 0 ≤ j) (d : j ≤ 1000000) (e : i.natAbs < 2 ^ 64) : powA (.int i) (.int j) h = .ok (.int (i ^ j.toNat)) h := if_pos ⟨c, d, e⟩
theorem lt_ii : ltA (.int i) (.int j) h = .ok (.bl (decide (i < j))) h := rfl
theorem le_ii : leA (.int i) (.int j) h = .ok (.bl (decide (i ≤ j))) h := rfl
theorem gt_ii : gtA (.int i) (.int j) h = .ok (.bl (decide (j < i))) h := rfl
theorem ge_ii : geA (.int i) (.int j) h = .ok (.bl (decide (j ≤ i))) h := rfl
theorem eq_ii : eqA (.int i) (.int j) h = .ok (.bl (decide (i = j))) h := rfl
theorem ne_ii : neA (.int i) (.int j) h = .ok (.bl (!decide (i = j))) h := rfl
theorem eq_ss : eqA (.str x) (.str y) h = .ok (.bl (decide (x = y))) h := rfl
theorem ne_ss : neA (.str x) (.str y) h = .ok (.bl (!decide (x = y))) h := rfl
theorem eq_tz {xs : List A} : eqA (.tup xs) (.tup []) h = .ok (.bl xs.isEmpty) h := rfl
theorem eq_lz {xs : List A} : eqA (.lst xs) (.lst []) h = .ok (.bl xs.isEmpty) h := rfl
end
/-! ### the pool of a law's draws -/
noncomputable def begB : En → Hs → Rs := (sSet 1 (eOp (eOp (eOp (eOp (eVar 1) (eC (.int 31)) mulA) (eOp (eUn (eVar 2) toIntA) (eC (.int 2147483647)) modA) addA) (eC (.int 11)) addA) (eC (.int 2147483647)) modA))
noncomputable def mixB : En → Hs → Rs := (sSeq (sSetIx (eVar 0) (eC (.int 3)) (eOp (eOp (eOp (eOp (eOp (eVar 0) (eC (.int 3)) getA) (eC (.int 48271)) mulA) (eOp (eOp (eVar 0) (eC (.int 2)) getA) (eC (.int 12345)) mulA) addA) (eC (.int 89126)) addA) (eC (.int 2147483647)) modA))
  (sSet 2 (eOp (eOp (eVar 2) (eC (.int 2147483647)) mulA) (eOp (eOp (eVar 0) (eC (.int 3)) getA) (eC (.int 7)) fdivA) addA)))
noncomputable def c__law_begin : En → Hs → Rs :=
  (sSeq (sSet 1 (eC (.int 7)))
  (sSeq (sFor (iAnyF (eSl (eVar 0) oNone (oSome (eC (.int 40))))) (gNm 2) begB)
  (sRet (eLst (aCons (eLc (iAnyF (eVar 0)) (gNm 2) cYes (eUn (eUn (eVar 2) toIntA) absA) [2]) (aCons (eC (.int 0)) (aCons (eC (.int 0)) (aCons (eVar 1) (aCons (eC (.int 0)) aNil)))))))))
noncomputable def m__law_begin : List A → Hs → R A := mDef 3 c__law_begin
noncomputable def c__law_mixed : En → Hs → Rs :=
  (sSeq (sSetIx (eVar 0) (eC (.int 2)) (eOp (eOp (eVar 0) (eC (.int 2)) getA) (eC (.int 1)) addA))
  (sSeq (sSet 2 (eOp (eVar 0) (eC (.int 3)) getA))
  (sSeq (sFor (iRg1 (aCons (eOp (eC (.int 1)) (eOp (eUn (eUn (eVar 1) strA) lenA) (eC (.int 9)) fdivA) addA) aNil)) (gNm 3) mixB)
  (sRet (eOp (eVar 2) (eVar 1) modA)))))
noncomputable def m__law_mixed : List A → Hs → R A := mDef 4 c__law_mixed
noncomputable def c__law_draw : En → Hs → Rs :=
  (sSeq (sIf (cOr (cTest (eOp (eOp (eVar 0) (eC (.int 1)) getA) (eUn (eOp (eVar 0) (eC (.int 0)) getA) lenA) geA)) (cTest (eOp (eVar 1) (eC (.int 1)) eqA))) (sRet (eIf (cTest (eOp (eVar 1) (eC (.int 1)) gtA)) (eCall 2 (aCons (eVar 0) (aCons (eVar 1) aNil)) [] m__law_mixed) (eC (.int 0)))) sNext)
  (sSeq (sIf (cTest (eOp (eOp (eOp (eVar 0) (eC (.int 0)) getA) (eOp (eVar 0) (eC (.int 1)) getA) getA) (eOp (eC (.int 10)) (eC (.int 18)) powA) ltA)) (sSeq (sSetIx (eVar 0) (eC (.int 3)) (eOp (eOp (eOp (eOp (eOp (eOp (eVar 0) (eC (.int 3)) getA) (eC (.int 31)) mulA) (eOp (eOp (eVar 0) (eC (.int 0)) getA) (eOp (eVar 0) (eC (.int 1)) getA) getA) addA) (eOp (eVar 0) (eC (.int 2)) getA) addA) (eC (.int 1)) addA) (eC (.int 2147483647)) modA))
  (sSeq (sSetIx (eVar 0) (eC (.int 4)) (eOp (eOp (eVar 0) (eC (.int 4)) getA) (eC (.int 1)) addA))
  (sSeq (sIf (cTest (eOp (eOp (eOp (eVar 0) (eC (.int 4)) getA) (eC (.int 3)) modA) (eC (.int 0)) eqA)) (sSetIx (eVar 0) (eC (.int 1)) (eOp (eOp (eVar 0) (eC (.int 1)) getA) (eC (.int 1)) addA)) sNext)
  (sRet (eCall 2 (aCons (eVar 0) (aCons (eVar 1) aNil)) [] m__law_mixed))))) sNext)
  (sSeq (sSet 2 (eOp (eOp (eOp (eVar 0) (eC (.int 0)) getA) (eOp (eVar 0) (eC (.int 1)) getA) getA) (eVar 1) modA))
  (sSeq (sSetIx (eOp (eVar 0) (eC (.int 0)) getA) (eOp (eVar 0) (eC (.int 1)) getA) (eOp (eOp (eOp (eVar 0) (eC (.int 0)) getA) (eOp (eVar 0) (eC (.int 1)) getA) getA) (eVar 1) fdivA))
  (sSeq (sIf (cTest (eOp (eOp (eOp (eVar 0) (eC (.int 0)) getA) (eOp (eVar 0) (eC (.int 1)) getA) getA) (eC (.int 0)) eqA)) (sSetIx (eVar 0) (eC (.int 1)) (eOp (eOp (eVar 0) (eC (.int 1)) getA) (eC (.int 1)) addA)) sNext)
  (sRet (eVar 2)))))))
noncomputable def m__law_draw : List A → Hs → R A := mDef 3 c__law_draw

structure Pl where
  cs : List Int
  a : Nat
  b : Int
  s : Int
  t : Int
def Pl.hs (P : Pl) : Hs := [.lst (P.cs.map .int), .lst [.ref 0, .int P.a, .int P.b, .int P.s, .int P.t]]
theorem Src.ok_none {xs : List A} {h : Hs} : (Src.mk xs none).ok h = true := rfl
theorem l7 : Nat.log2 7 < 9000 := by decide
theorem l9 : Nat.log2 9 < 9000 := by decide
theorem mixB_eq (P : Pl) (many f : Int) (x : Option A) (g : Hs) : mixB [some (.ref 1), some (.int many), some (.int f), x] (P.hs ++ g) =
    .nx [some (.ref 1), some (.int many), some (.int (f * 2147483647 + (P.s * 48271 + P.b * 12345 + 89126).fmod 2147483647 / 7)), x] (Pl.hs ⟨P.cs, P.a, P.b, (P.s * 48271 + P.b * 12345 + 89126).fmod 2147483647, P.t⟩ ++ g) := by
  simp [mixB, l7, Pl.hs, sSeq, sIf, sSet, sSetIx, sRet, sExpr, sNext, sFor, Rs.andThen, R.toS, R.bind, eOp, eUn, eVar, eC, eCall, aCons, aNil, eLst, eTup, bx, getA, ixA, dctOf, rlist, mlist, atI, ixN, setIx, add_ii, sub_ii, mul_r, mod_ii, fdiv_ii, pow_ii, lt_ii, le_ii, gt_ii, ge_ii, eq_ii, ne_ii, eq_ss, ne_ss, lenA, cTest, cOr, cAnd, cNot, eIf, eChain, iRg1, rg1, gNm, mDef]
theorem mix_loop (xs : List A) (many : Int) : ∀ (l : List A) (P : Pl) (f : Int) (o : Option A), ∃ (P2 : Pl) (f2 : Int) (o2 : Option A), P2.a = P.a ∧ P2.cs = P.cs ∧ ∀ g : Hs, forL (gNm 3) mixB ⟨xs, none⟩ l [some (.ref 1), some (.int many), some (.int f), o] (P.hs ++ g) = .nx [some (.ref 1), some (.int many), some (.int f2), o2] (P2.hs ++ g)
  | [], P, f, o => ⟨P, f, o, rfl, rfl, fun g => rfl⟩
  | x :: l, P, f, o => by
    obtain ⟨P2, f2, o2, h1, h2, h3⟩ := mix_loop xs many l ⟨P.cs, P.a, P.b, (P.s * 48271 + P.b * 12345 + 89126).fmod 2147483647, P.t⟩ (f * 2147483647 + (P.s * 48271 + P.b * 12345 + 89126).fmod 2147483647 / 7) (some x)
    refine ⟨P2, f2, o2, h1, h2, fun g => ?_⟩
    rw [← h3 g]
    conv => lhs; unfold forL
    rw [if_pos Src.ok_none]
    show (match mixB [some (.ref 1), some (.int many), some (.int f), some x] (P.hs ++ g) with
      | .nx a2 h2 => forL (gNm 3) mixB ⟨xs, none⟩ l a2 h2
      | .ct a2 h2 => forL (gNm 3) mixB ⟨xs, none⟩ l a2 h2
      | .bk a2 h2 => .nx a2 h2
      | y => y) = _
    rw [mixB_eq]
theorem str_eq {n : Nat} (h : n.log2 < 1900) : ∃ z : Str, z.length ≤ 1900 ∧ ∀ h : Hs, strA (.int n) h = .ok (.str z) h := by
  refine ⟨toString (n : Int), ?_, fun h => if_pos ?_⟩
  · refine PyProof.Rows.toString_length_le (by omega) (by decide) ?_
    have h1 := lt_two_pow_of_log2_lt h
    have h2 : (2 : Nat) ^ 1900 ≤ 10 ^ 1900 := Nat.pow_le_pow_left (by decide) _
    have h3 : n < 10 ^ 1900 := Nat.lt_of_lt_of_le h1 h2
    exact_mod_cast h3
  · show n.log2 < 1920
    omega
theorem mixed_eq (P : Pl) (many : Nat) (hm : 1 ≤ many) (hb : many.log2 < 1900) : ∃ (r : Nat) (P2 : Pl), r < many ∧ P2.a = P.a ∧ P2.cs = P.cs ∧ ∀ g : Hs, m__law_mixed [.ref 1, .int many] (P.hs ++ g) = .ok (.int r) (P2.hs ++ g) := by
  obtain ⟨z, hz, ez⟩ := str_eq hb
  obtain ⟨P2, f2, o2, h1, h2, h3⟩ := mix_loop (rgItems 0 (1 + (z.length : Int) / 9).toNat) many (rgItems 0 (1 + (z.length : Int) / 9).toNat) ⟨P.cs, P.a, P.b + 1, P.s, P.t⟩ P.s none
  have hr : f2.fmod many = ((f2.fmod many).toNat : Int) := (Int.toNat_of_nonneg (Int.fmod_nonneg_of_pos _ (by omega))).symm
  have hlt : f2.fmod many < many := Int.fmod_lt_of_pos _ (by omega)
  refine ⟨(f2.fmod many).toNat, P2, by omega, h1, h2, fun g => ?_⟩
  have k := h3 g
  have hl1 : z.length ≤ 16777216 := by omega
  have hl2 : -4611686018427387904 ≤ 1 + (z.length : Int) / 9 := by omega
  have hl3 : 1 + (z.length : Int) / 9 < 4611686018427387904 := by omega
  have hne : (many : Int) ≠ 0 := by omega
  simp [Pl.hs] at k
  simp [m__law_mixed, c__law_mixed, l9, ez, hl1, hl2, hl3, k, mod_ii hne, Pl.hs, sSeq, sIf, sSet, sSetIx, sRet, sExpr, sNext, sFor, Rs.andThen, R.toS, R.bind, eOp, eUn, eVar, eC, eCall, aCons, aNil, eLst, eTup, bx, getA, ixA, dctOf, rlist, mlist, atI, ixN, setIx, add_ii, sub_ii, mul_r, mod_ii, fdiv_ii, pow_ii, lt_ii, le_ii, gt_ii, ge_ii, eq_ii, ne_ii, eq_ss, ne_ss, lenA, cTest, cOr, cAnd, cNot, eIf, eChain, iRg1, rg1, gNm, mDef]
  omega
theorem draw_eq (P : Pl) (many : Nat) (hm : 1 ≤ many) (hb : many.log2 < 1900) : ∃ (r : Nat) (P2 : Pl), r < many ∧ ∀ g : Hs, m__law_draw [.ref 1, .int many] (P.hs ++ g) = .ok (.int r) (P2.hs ++ g) := by
  have hne : (many : Int) ≠ 0 := by omega
  by_cases h0 : P.cs.length ≤ P.a ∨ many = 1
  · by_cases h1 : 1 < many
    · obtain ⟨r, P2, h2, _, _, h3⟩ := mixed_eq P many hm hb
      refine ⟨r, P2, h2, fun g => ?_⟩
      have k := h3 g
      have hn : many ≠ 1 := by omega
      have h0' : P.cs.length ≤ P.a := by omega
      simp [Pl.hs] at k
      have h1i : (1 : Int) < many := by omega
      have hni : ¬ (many : Int) = 1 := by omega
      simp [m__law_draw, c__law_draw, k, h0', hn, h1, h1i, hni, Pl.hs, sSeq, sIf, sSet, sSetIx, sRet, sExpr, sNext, sFor, Rs.andThen, R.toS, R.bind, eOp, eUn, eVar, eC, eCall, aCons, aNil, eLst, eTup, bx, getA, ixA, dctOf, rlist, mlist, atI, ixN, setIx, add_ii, sub_ii, mul_r, mod_ii, fdiv_ii, pow_ii, lt_ii, le_ii, gt_ii, ge_ii, eq_ii, ne_ii, eq_ss, ne_ss, lenA, cTest, cOr, cAnd, cNot, eIf, eChain, iRg1, rg1, gNm, mDef]
    · refine ⟨0, P, by omega, fun g => ?_⟩
      have hn : many = 1 := by omega
      subst hn
      by_cases h0' : P.cs.length ≤ P.a
      · simp [m__law_draw, c__law_draw, h0', Pl.hs, sSeq, sIf, sSet, sSetIx, sRet, sExpr, sNext, sFor, Rs.andThen, R.toS, R.bind, eOp, eUn, eVar, eC, eCall, aCons, aNil, eLst, eTup, bx, getA, ixA, dctOf, rlist, mlist, atI, ixN, setIx, add_ii, sub_ii, mul_r, mod_ii, fdiv_ii, pow_ii, lt_ii, le_ii, gt_ii, ge_ii, eq_ii, ne_ii, eq_ss, ne_ss, lenA, cTest, cOr, cAnd, cNot, eIf, eChain, iRg1, rg1, gNm, mDef]
      · simp [m__law_draw, c__law_draw, h0', Pl.hs, sSeq, sIf, sSet, sSetIx, sRet, sExpr, sNext, sFor, Rs.andThen, R.toS, R.bind, eOp, eUn, eVar, eC, eCall, aCons, aNil, eLst, eTup, bx, getA, ixA, dctOf, rlist, mlist, atI, ixN, setIx, add_ii, sub_ii, mul_r, mod_ii, fdiv_ii, pow_ii, lt_ii, le_ii, gt_ii, ge_ii, eq_ii, ne_ii, eq_ss, ne_ss, lenA, cTest, cOr, cAnd, cNot, eIf, eChain, iRg1, rg1, gNm, mDef]
  · have hlt : P.a < P.cs.length := by omega
    have hn : many ≠ 1 := by omega
    have hni : ¬ (many : Int) = 1 := by omega
    have hnl : ¬ P.cs.length ≤ P.a := by omega
    obtain ⟨c, hc⟩ : ∃ c, P.cs[P.a]? = some c := ⟨_, List.getElem?_eq_getElem hlt⟩
    have hc' : P.cs[P.a] = c := by simpa [hlt] using hc
    by_cases h1 : c < 1000000000000000000
    · by_cases h2 : (P.t + 1).fmod 3 = 0
      · obtain ⟨r, P2, k2, _, _, h3⟩ := mixed_eq ⟨P.cs, P.a + 1, P.b, (P.s * 31 + c + P.b + 1).fmod 2147483647, P.t + 1⟩ many hm hb
        refine ⟨r, P2, k2, fun g => ?_⟩
        have k := h3 g
        simp [Pl.hs] at k
        simp [m__law_draw, c__law_draw, k, hn, hni, hnl, hlt, hc, hc', h1, h2, Pl.hs, sSeq, sIf, sSet, sSetIx, sRet, sExpr, sNext, sFor, Rs.andThen, R.toS, R.bind, eOp, eUn, eVar, eC, eCall, aCons, aNil, eLst, eTup, bx, getA, ixA, dctOf, rlist, mlist, atI, ixN, setIx, add_ii, sub_ii, mul_r, mod_ii, fdiv_ii, pow_ii, lt_ii, le_ii, gt_ii, ge_ii, eq_ii, ne_ii, eq_ss, ne_ss, lenA, cTest, cOr, cAnd, cNot, eIf, eChain, iRg1, rg1, gNm, mDef]
      · obtain ⟨r, P2, k2, _, _, h3⟩ := mixed_eq ⟨P.cs, P.a, P.b, (P.s * 31 + c + P.b + 1).fmod 2147483647, P.t + 1⟩ many hm hb
        refine ⟨r, P2, k2, fun g => ?_⟩
        have k := h3 g
        simp [Pl.hs] at k
        simp [m__law_draw, c__law_draw, k, hn, hni, hnl, hlt, hc, hc', h1, h2, Pl.hs, sSeq, sIf, sSet, sSetIx, sRet, sExpr, sNext, sFor, Rs.andThen, R.toS, R.bind, eOp, eUn, eVar, eC, eCall, aCons, aNil, eLst, eTup, bx, getA, ixA, dctOf, rlist, mlist, atI, ixN, setIx, add_ii, sub_ii, mul_r, mod_ii, fdiv_ii, pow_ii, lt_ii, le_ii, gt_ii, ge_ii, eq_ii, ne_ii, eq_ss, ne_ss, lenA, cTest, cOr, cAnd, cNot, eIf, eChain, iRg1, rg1, gNm, mDef]
    · have hge : 0 ≤ c.fmod many := Int.fmod_nonneg_of_pos _ (by omega)
      have hr : c.fmod many = ((c.fmod many).toNat : Int) := (Int.toNat_of_nonneg hge).symm
      have hlt2 : c.fmod many < many := Int.fmod_lt_of_pos _ (by omega)
      have hf : ∀ (i : Int) (h : Hs), fdivA (.int i) (.int many) h = .ok (.int (i / many)) h := fun i h => fdiv_ii (by omega) (by show many.log2 < 9000; omega)
      by_cases h2 : c / many = 0
      · refine ⟨(c.fmod many).toNat, ⟨P.cs.set P.a (c / many), P.a + 1, P.b, P.s, P.t⟩, by omega, fun g => ?_⟩
        simp [m__law_draw, c__law_draw, hn, hni, hnl, hlt, hc, hc', h1, h2, hf, mod_ii hne, Pl.hs, sSeq, sIf, sSet, sSetIx, sRet, sExpr, sNext, sFor, Rs.andThen, R.toS, R.bind, eOp, eUn, eVar, eC, eCall, aCons, aNil, eLst, eTup, bx, getA, ixA, dctOf, rlist, mlist, atI, ixN, setIx, add_ii, sub_ii, mul_r, mod_ii, fdiv_ii, pow_ii, lt_ii, le_ii, gt_ii, ge_ii, eq_ii, ne_ii, eq_ss, ne_ss, lenA, cTest, cOr, cAnd, cNot, eIf, eChain, iRg1, rg1, gNm, mDef]
        omega
      · refine ⟨(c.fmod many).toNat, ⟨P.cs.set P.a (c / many), P.a, P.b, P.s, P.t⟩, by omega, fun g => ?_⟩
        simp [m__law_draw, c__law_draw, hn, hni, hnl, hlt, hc, hc', h1, h2, hf, mod_ii hne, Pl.hs, sSeq, sIf, sSet, sSetIx, sRet, sExpr, sNext, sFor, Rs.andThen, R.toS, R.bind, eOp, eUn, eVar, eC, eCall, aCons, aNil, eLst, eTup, bx, getA, ixA, dctOf, rlist, mlist, atI, ixN, setIx, add_ii, sub_ii, mul_r, mod_ii, fdiv_ii, pow_ii, lt_ii, le_ii, gt_ii, ge_ii, eq_ii, ne_ii, eq_ss, ne_ss, lenA, cTest, cOr, cAnd, cNot, eIf, eChain, iRg1, rg1, gNm, mDef]
        omega
theorem lc_map {g : A → En → Option En} {c : En → Hs → R Bool} {f : En → Hs → R A} {src : Src} {a : En} {h : Hs} {p : A → Bool} {F : A → A} (hs : src.ok h = true) : ∀ (l acc : List A), (∀ x ∈ l, ∃ a1, g x a = some a1 ∧ c a1 h = .ok (p x) h ∧ (p x = true → (f a1 h).bind bx = .ok (F x) h)) → lcL g c f src a acc l h = .ok (acc ++ (l.filter p).map F) h
  | [], acc, _ => by
    unfold lcL
    rw [if_pos hs]
    simp
  | x :: l, acc, hx => by
    obtain ⟨a1, e1, e2, e3⟩ := hx x (List.mem_cons_self ..)
    unfold lcL
    rw [if_pos hs, e1]
    simp only [e2]
    cases hp : p x with
    | true =>
      simp only [e3 hp]
      rw [lc_map hs l _ fun y hy => hx y (List.mem_cons_of_mem _ hy)]
      simp [List.filter_cons, hp]
    | false =>
      simp only []
      rw [lc_map hs l _ fun y hy => hx y (List.mem_cons_of_mem _ hy)]
      simp [List.filter_cons, hp]
theorem beg_loop (xs : List A) (u : Option A) (g : Hs) : ∀ (l : List Int) (f : Int) (o : Option A), ∃ (f2 : Int) (o2 : Option A), forL (gNm 2) begB ⟨xs, none⟩ (l.map A.int) [u, some (.int f), o] g = .nx [u, some (.int f2), o2] g
  | [], f, o => ⟨f, o, rfl⟩
  | x :: l, f, o => by
    obtain ⟨f2, o2, h3⟩ := beg_loop xs u g l ((f * 31 + x.fmod 2147483647 + 11).fmod 2147483647) (some (.int x))
    refine ⟨f2, o2, ?_⟩
    rw [← h3]
    conv => lhs; unfold forL
    simp [begB, toIntA, Src.ok_none, sSeq, sIf, sSet, sSetIx, sRet, sExpr, sNext, sFor, Rs.andThen, R.toS, R.bind, eOp, eUn, eVar, eC, eCall, aCons, aNil, eLst, eTup, bx, getA, ixA, dctOf, rlist, mlist, atI, ixN, setIx, add_ii, sub_ii, mul_r, mod_ii, fdiv_ii, pow_ii, lt_ii, le_ii, gt_ii, ge_ii, eq_ii, ne_ii, eq_ss, ne_ss, lenA, cTest, cOr, cAnd, cNot, eIf, eChain, iRg1, rg1, gNm, mDef]
theorem begin_eq (ns : List Int) (hl : ns.length ≤ 63) : ∃ (cs : List Int) (f : Int), m__law_begin [.rol (ns.map A.int)] [] = .ok (.lst [.ref 0, .int 0, .int 0, .int f, .int 0]) [.lst (cs.map A.int)] := by
  obtain ⟨f2, o2, h3⟩ := beg_loop (cutA (ns.map A.int) none (some 40)) (some (.rol (ns.map A.int))) [] (cutA ns none (some 40)) 7 none
  refine ⟨ns.map fun i => if i < 0 then -i else i, f2, ?_⟩
  have e : (cutA ns none (some 40)).map A.int = cutA (ns.map A.int) none (some 40) := by
    unfold cutA
    simp [List.map_take, List.map_drop]
  rw [e] at h3
  have hm : (ns.map A.int).length ≤ 16777216 := by rw [List.length_map]; omega
  have k := lc_map (g := gNm 2) (c := cYes) (f := eUn (eUn (eVar 2) toIntA) absA) (src := ⟨ns.map A.int, none⟩) (a := [some (A.rol (ns.map A.int)), some (A.int f2), none]) (h := []) (p := fun _ => true) (F := fun x => match x with
    | .int i => .int (if i < 0 then -i else i)
    | x => x) rfl (ns.map A.int) [] (fun x hx => by
      obtain ⟨i, _, rfl⟩ := List.mem_map.mp hx
      exact ⟨_, rfl, rfl, fun _ => rfl⟩)
  have k2 : (eLc (iAnyF (eVar 0)) (gNm 2) cYes (eUn (eUn (eVar 2) toIntA) absA) [2] [some (A.rol (ns.map A.int)), some (A.int f2), o2] []) = .ok (.lst ((ns.map fun i => if i < 0 then -i else i).map A.int)) [] := by
    unfold eLc
    show (if (ns.map A.int).length ≤ 16777216 then (lcL (gNm 2) cYes (eUn (eUn (eVar 2) toIntA) absA) ⟨ns.map A.int, none⟩ [some (A.rol (ns.map A.int)), some (A.int f2), none] [] (ns.map A.int) []).bind fun xs h2 => R.ok (A.lst xs) h2 else .stuck) = _
    rw [if_pos hm, k]
    have ef : ((ns.map A.int).filter fun _ => true) = ns.map A.int := by simp
    simp only [R.bind, List.nil_append]
    rw [ef, List.map_map, List.map_map]
    rfl
  simp [m__law_begin, c__law_begin, iAnyF, eSl, oNone, oSome, slA, itA, h3, k2, sSeq, sIf, sSet, sSetIx, sRet, sExpr, sNext, sFor, Rs.andThen, R.toS, R.bind, eOp, eUn, eVar, eC, eCall, aCons, aNil, eLst, eTup, bx, getA, ixA, dctOf, rlist, mlist, atI, ixN, setIx, add_ii, sub_ii, mul_r, mod_ii, fdiv_ii, pow_ii, lt_ii, le_ii, gt_ii, ge_ii, eq_ii, ne_ii, eq_ss, ne_ss, lenA, cTest, cOr, cAnd, cNot, eIf, eChain, iRg1, rg1, gNm, mDef]
end Sm

namespace Sm
open PySem L2
/-! ### the code, at an environment and a heap -/
section
variable {f g fa fb fc fo fi' fe : En → Hs → R A} {o2 : A → A → Hs → R A} {o1 : A → Hs → R A} {a : En} {h : Hs} {s1 s2 : En → Hs → Rs} {c c2 : En → Hs → R Bool} {fs : En → Hs → R (List A)} {fi : En → Hs → R Src} {i n : Nat} {x : A} {tg : A → En → Option En} {b : En → Hs → Rs} {m : List A → Hs → R A} {ds : List A} {fl fh : En → Hs → R (Option Int)} {fp : En → Hs → R (List (A × A))} {vs : List Nat}
theorem toS_ok {α : Type} {v : α} {k : α → Hs → Rs} : (R.ok v h).toS a k = k v h := rfl
theorem toS_exc {α : Type} {d : Str} {xs : List A} {k : α → Hs → Rs} : (R.exc d xs h : R α).toS a k = .exc d xs a h := rfl
theorem then_nx {k : En → Hs → Rs} : (Rs.nx a h).andThen k = k a h := rfl
theorem then_rt {k : En → Hs → Rs} : (Rs.rt x h).andThen k = .rt x h := rfl
theorem then_bk {k : En → Hs → Rs} : (Rs.bk a h).andThen k = .bk a h := rfl
theorem then_ct {k : En → Hs → Rs} : (Rs.ct a h).andThen k = .ct a h := rfl
theorem then_exc {d : Str} {xs : List A} {k : En → Hs → Rs} : (Rs.exc d xs a h).andThen k = .exc d xs a h := rfl
theorem sSeq_ap : sSeq s1 s2 a h = (s1 a h).andThen s2 := rfl
theorem sIf_ap : sIf c s1 s2 a h = (c a h).toS a fun b h1 => if b = true then s1 a h1 else s2 a h1 := rfl
theorem sSet_ap : sSet i f a h = ((f a h).bind bx).toS a fun x h1 => .nx (a.set i (some x)) h1 := rfl
theorem sRet_ap : sRet f a h = (f a h).toS a fun v h1 => .rt v h1 := rfl
theorem sExpr_ap : sExpr f a h = (f a h).toS a fun _ h1 => .nx a h1 := rfl
theorem sNext_ap : sNext a h = .nx a h := rfl
theorem sFor_ap : sFor fi tg b a h = (fi a h).toS a fun src h1 => forL tg b src src.items a h1 := rfl
theorem sSetIx_ap : sSetIx fo fi' fe a h = ((fe a h).bind bx).toS a fun x h1 => (fo a h1).toS a fun o h2 => (fi' a h2).toS a fun i h3 => match setIx o i x h3 with
  | some h4 => .nx a h4
  | none => .stuck := rfl
theorem eOp_ap : eOp fa fb o2 a h = (fa a h).bind fun x h1 => (fb a h1).bind fun y h2 => o2 x y h2 := rfl
theorem eUn_ap : eUn fa o1 a h = (fa a h).bind o1 := rfl
theorem eC_ap : eC x a h = .ok x h := rfl
theorem eVar0 {v : A} {r : En} : eVar 0 (some v :: r) h = .ok v h := rfl
theorem eVar_s {v : Option A} {r : En} : eVar (i + 1) (v :: r) h = eVar i r h := rfl
theorem eVar_1 {u0 : Option A} {v : A} {r : En} : eVar 1 (u0 :: some v :: r) h = .ok v h := rfl
theorem eVar_2 {u0 u1 : Option A} {v : A} {r : En} : eVar 2 (u0 :: u1 :: some v :: r) h = .ok v h := rfl
theorem eVar_3 {u0 u1 u2 : Option A} {v : A} {r : En} : eVar 3 (u0 :: u1 :: u2 :: some v :: r) h = .ok v h := rfl
theorem eVar_4 {u0 u1 u2 u3 : Option A} {v : A} {r : En} : eVar 4 (u0 :: u1 :: u2 :: u3 :: some v :: r) h = .ok v h := rfl
theorem eVar_5 {u0 u1 u2 u3 u4 : Option A} {v : A} {r : En} : eVar 5 (u0 :: u1 :: u2 :: u3 :: u4 :: some v :: r) h = .ok v h := rfl
theorem eVar_6 {u0 u1 u2 u3 u4 u5 : Option A} {v : A} {r : En} : eVar 6 (u0 :: u1 :: u2 :: u3 :: u4 :: u5 :: some v :: r) h = .ok v h := rfl
theorem eVar_7 {u0 u1 u2 u3 u4 u5 u6 : Option A} {v : A} {r : En} : eVar 7 (u0 :: u1 :: u2 :: u3 :: u4 :: u5 :: u6 :: some v :: r) h = .ok v h := rfl
theorem eVar_8 {u0 u1 u2 u3 u4 u5 u6 u7 : Option A} {v : A} {r : En} : eVar 8 (u0 :: u1 :: u2 :: u3 :: u4 :: u5 :: u6 :: u7 :: some v :: r) h = .ok v h := rfl
theorem eVar_9 {u0 u1 u2 u3 u4 u5 u6 u7 u8 : Option A} {v : A} {r : En} : eVar 9 (u0 :: u1 :: u2 :: u3 :: u4 :: u5 :: u6 :: u7 :: u8 :: some v :: r) h = .ok v h := rfl
theorem eCall_ap : eCall n fs ds m a h = (fs a h).bind fun xs h1 => if xs.length + ds.length = n then m (xs ++ ds) h1 else .stuck := rfl
theorem aNil_ap : aNil a h = .ok [] h := rfl
theorem aCons_ap : aCons fa fs a h = ((fa a h).bind bx).bind fun x h1 => (fs a h1).bind fun xs h2 => .ok (x :: xs) h2 := rfl
theorem eTup_ap : eTup fs a h = (fs a h).bind fun xs h1 => if xs.length ≤ 16777216 then .ok (.tup xs) h1 else .stuck := rfl
theorem eLst_ap : eLst fs a h = (fs a h).bind fun xs h1 => if xs.length ≤ 16777216 then .ok (.lst xs) h1 else .stuck := rfl
theorem cTest_ap : cTest f a h = (f a h).bind fun x h1 => match x with
  | .bl b => .ok b h1
  | _ => .stuck := rfl
theorem cTru_ap : cTru f a h = (f a h).bind truA := rfl
theorem cAnd_ap : cAnd c c2 a h = (c a h).bind fun b h1 => if b = true then c2 a h1 else .ok false h1 := rfl
theorem cOr_ap : cOr c c2 a h = (c a h).bind fun b h1 => if b = true then .ok true h1 else c2 a h1 := rfl
theorem cNot_ap : cNot c a h = (c a h).bind fun b h1 => .ok (!b) h1 := rfl
theorem cYes_ap : cYes a h = .ok true h := rfl
theorem eIf_ap : eIf c f g a h = (c a h).bind fun b h1 => if b = true then f a h1 else g a h1 := rfl
theorem eAnd_ap : eAnd f g a h = (f a h).bind fun x h1 => (truA x h1).bind fun b h2 => if b = true then g a h2 else .ok x h2 := rfl
theorem eOr_ap : eOr f g a h = (f a h).bind fun x h1 => (truA x h1).bind fun b h2 => if b = true then .ok x h2 else g a h2 := rfl
theorem eNot_ap : eNot f a h = (f a h).bind fun x h1 => (truA x h1).bind fun b h2 => .ok (.bl (!b)) h2 := rfl
theorem eSl_ap : eSl fe fl fh a h = (fe a h).bind fun x h1 => (fl a h1).bind fun l h2 => (fh a h2).bind fun u h3 => slA x l u h3 := rfl
theorem oNone_ap : oNone a h = .ok none h := rfl
theorem oSome_ap : oSome f a h = (f a h).bind fun x h1 => match x with
  | .int i => .ok (some i) h1
  | _ => .stuck := rfl
theorem iRg1_ap : iRg1 fs a h = (fs a h).bind rg1 := rfl
theorem iRg2_ap : iRg2 fs a h = (fs a h).bind rg2 := rfl
theorem iAnyF_ap : iAnyF f a h = (f a h).bind itA := rfl
theorem eLm1_ap {k : A → A → Hs → R A} : eLm1 k fo fe a h = (fo a h).bind fun o h1 => if isLst o h1 = true then ((fe a h1).bind bx).bind fun x h2 => k o x h2 else .stuck := rfl
theorem eLc_ap : eLc fi tg c f vs a h = (fi a h).bind fun src h1 => if src.items.length ≤ 16777216 then (lcL tg c f src (wipeA a vs) [] src.items h1).bind fun xs h2 => .ok (.lst xs) h2 else .stuck := rfl
theorem eChain_ap {k k2 : A → A → Hs → R A} : eChain k k2 fa fb fc a h = (fa a h).bind fun x h1 => (fb a h1).bind fun y h2 => (k x y h2).bind fun z h3 => match z with
  | .bl true => (fc a h3).bind fun w h4 => k2 y w h4
  | .bl false => .ok (.bl false) h3
  | _ => .stuck := rfl
theorem eDnew_ap : eDnew a h = .ok (.ref h.length) (h ++ [.dct []]) := rfl
theorem pNil_ap : pNil a h = .ok [] h := rfl
theorem pCons_ap : pCons fa fb fp a h = ((fa a h).bind bx).bind fun x h1 => ((fb a h1).bind bx).bind fun y h2 => (fp a h2).bind fun ps h3 => .ok ((x, y) :: ps) h3 := rfl
theorem eDisp_ap : eDisp fp a h = (fp a h).bind fun ps h1 => if (ps.all fun p => isKey p.1) = true ∧ ps.length ≤ 15 then .ok (.ref h1.length) (h1 ++ [.dct (ps.foldl (fun acc p => putA acc p.1 p.2) [])]) else .stuck := rfl
theorem eGd_ap {kvs : List (Str × A)} : eGd kvs fb a h = (fb a h).bind fun y h1 => match y with
  | .str z => (match kvs.lookup z with
    | some v => .ok v h1
    | none => .stuck)
  | _ => .stuck := rfl
theorem bx_int {i : Int} : bx (.int i) h = .ok (.int i) h := rfl
theorem bx_str {z : Str} : bx (.str z) h = .ok (.str z) h := rfl
theorem bx_bl {b : Bool} : bx (.bl b) h = .ok (.bl b) h := rfl
theorem bx_non : bx .non h = .ok .non h := rfl
theorem bx_tup {xs : List A} : bx (.tup xs) h = .ok (.tup xs) h := rfl
theorem bx_rol {xs : List A} : bx (.rol xs) h = .ok (.rol xs) h := rfl
theorem bx_obj {d : Str} {xs : List A} : bx (.obj d xs) h = .ok (.obj d xs) h := rfl
theorem bx_ref : bx (.ref n) h = .ok (.ref n) h := rfl
theorem bx_lst {xs : List A} : bx (.lst xs) h = .ok (.ref h.length) (h ++ [.lst xs]) := rfl
theorem bx_no (hx : ∀ l, x ≠ .lst l) : bx x h = .ok x h := by
  cases x with
  | lst l => exact absurd rfl (hx l)
  | _ => rfl
theorem tru_bl {b : Bool} : truA (.bl b) h = .ok b h := rfl
theorem sl_tup {xs : List A} {lo hi : Option Int} : slA (.tup xs) lo hi h = .ok (.tup (cutA xs lo hi)) h := rfl
theorem get_lst {xs : List A} {k : Nat} : getA (.lst xs) (.int k) h = match xs[k]? with
  | some v => .ok v h
  | none => .stuck := by
  simp only [getA, dctOf, ixA, rlist, mlist, atI, ixN]
  by_cases hk : k < xs.length
  · simp [hk]
  · simp [hk, List.getElem?_eq_none (Nat.le_of_not_lt hk)]
theorem get_tup {xs : List A} {k : Nat} : getA (.tup xs) (.int k) h = match xs[k]? with
  | some v => .ok v h
  | none => .stuck := by
  simp only [getA, dctOf, ixA, atI, ixN]
  by_cases hk : k < xs.length
  · simp [hk]
  · simp [hk, List.getElem?_eq_none (Nat.le_of_not_lt hk)]
theorem isi_non {d : String} : isiA d .non h = .ok (.bl (subB "NoneType" d)) h := rfl
theorem isi_bl {b : Bool} {d : String} : isiA d (.bl b) h = .ok (.bl (subB "bool" d)) h := rfl
theorem isi_int {i : Int} {d : String} : isiA d (.int i) h = .ok (.bl (subB "int" d)) h := rfl
theorem isi_str {z : Str} {d : String} : isiA d (.str z) h = .ok (.bl (subB "str" d)) h := rfl
theorem isi_tup {xs : List A} {d : String} : isiA d (.tup xs) h = .ok (.bl (subB "tuple" d)) h := rfl
theorem isi_of {x : A} {t d : String} (k : tyN x h = some t) : isiA d x h = .ok (.bl (subB t d)) h := by
  unfold isiA
  rw [k]
theorem get_tup0 {x : A} {xs : List A} : getA (.tup (x :: xs)) (.int 0) h = .ok x h := get_tup (k := 0)
theorem len_tup {xs : List A} : lenA (.tup xs) h = .ok (.int xs.length) h := rfl
theorem len_str {z : Str} (hz : z.length ≤ 16777216) : lenA (.str z) h = .ok (.int z.length) h := if_pos hz
theorem set0 {u v : Option A} {r : En} : List.set (u :: r) 0 v = v :: r := rfl
theorem set_s {u v : Option A} {r : En} : List.set (u :: r) (n + 1) v = u :: List.set r n v := rfl
end
theorem mDef_rt {n : Nat} {c : En → Hs → Rs} {xs : List A} {h h' : Hs} {v : A} (e : c (xs.map some ++ List.replicate (n - xs.length) none) h = .rt v h') : mDef n c xs h = .ok v h' := by
  unfold mDef
  rw [e]
theorem seq_nx {s1 s2 : En → Hs → Rs} {a a1 : En} {h h1 : Hs} (e : s1 a h = .nx a1 h1) : sSeq s1 s2 a h = s2 a1 h1 := by rw [sSeq_ap, e, then_nx]
/-- the pool stands at 1 -/
def Gd (h : Hs) : Prop := ∃ (P : Pl) (g : Hs), h = P.hs ++ g
/-- later: what was a list or a dict is one, and what is not the pool's is as it was -/
structure Ex (h h' : Hs) : Prop where
  le : h.length ≤ h'.length
  at_ : ∀ n, 2 ≤ n → n < h.length → h'[n]? = h[n]?
  ty : ∀ n t, tyN (.ref n) h = some t → tyN (.ref n) h' = some t
theorem Ex.refl {h : Hs} : Ex h h := ⟨Nat.le_refl _, fun _ _ _ => rfl, fun _ _ e => e⟩
theorem Ex.trans {h h1 h2 : Hs} (a : Ex h h1) (b : Ex h1 h2) : Ex h h2 := ⟨Nat.le_trans a.le b.le, fun n h2 hn => (b.at_ n h2 (Nat.lt_of_lt_of_le hn a.le)).trans (a.at_ n h2 hn), fun n t e => b.ty n t (a.ty n t e)⟩
theorem Ex.get {h h' : Hs} (e : Ex h h') {n : Nat} {o : O} (hn : 2 ≤ n) (ho : h[n]? = some o) : h'[n]? = some o := by
  rw [e.at_ n hn (List.getElem?_eq_some_iff.mp ho).1]
  exact ho
theorem tyN_ref {h : Hs} {n : Nat} : tyN (.ref n) h = match h[n]? with
    | some (.lst _) => some "list"
    | some (.dct _) => some "dict"
    | _ => none := rfl
theorem Ex.app {h g : Hs} : Ex h (h ++ g) := by
  refine ⟨by simp, fun n _ hn => List.getElem?_append_left hn, fun n t e => ?_⟩
  rw [tyN_ref] at e ⊢
  cases e1 : h[n]? with
  | none => rw [e1] at e; cases e
  | some o =>
    rw [List.getElem?_append_left (List.getElem?_eq_some_iff.mp e1).1, e1]
    rw [e1] at e
    exact e
theorem Gd.app {h g : Hs} (k : Gd h) : Gd (h ++ g) := by
  obtain ⟨P, g0, rfl⟩ := k
  exact ⟨P, g0 ++ g, by rw [List.append_assoc]⟩
theorem draw_gd {h : Hs} (k : Gd h) (many : Nat) (hm : 1 ≤ many) (hb : many.log2 < 1900) : ∃ (r : Nat) (h' : Hs), r < many ∧ m__law_draw [.ref 1, .int many] h = .ok (.int r) h' ∧ Gd h' ∧ Ex h h' ∧ h'.length = h.length := by
  obtain ⟨P, g, rfl⟩ := k
  obtain ⟨r, P2, h1, h2⟩ := draw_eq P many hm hb
  refine ⟨r, P2.hs ++ g, h1, h2 g, ⟨P2, g, rfl⟩, ⟨Nat.le_refl _, fun n hn _ => ?_, fun n t e => ?_⟩, rfl⟩
  · match n, hn with
    | n + 2, _ => rfl
  · match n, e with
    | 0, e => exact e
    | 1, e => exact e
    | n + 2, e => exact e
theorem Gd.set {h : Hs} (k : Gd h) {n : Nat} (hn : 2 ≤ n) (o : O) : Gd (h.set n o) := by
  obtain ⟨P, g, rfl⟩ := k
  match n, hn with
  | n + 2, _ => exact ⟨P, g.set n o, rfl⟩
theorem pick {xs : List A} {r : Nat} {h : Hs} (hr : r < xs.length) : ∃ v, v ∈ xs ∧ getA (.lst xs) (.int r) h = .ok v h := by
  refine ⟨xs[r], List.getElem_mem hr, ?_⟩
  rw [get_lst, List.getElem?_eq_getElem hr]
theorem add_rl {h : Hs} {n : Nat} {xs ys : List A} (e : h[n]? = some (.lst xs)) (hl : xs.length + ys.length ≤ 16777216) : addA (.ref n) (.lst ys) h = .ok (.lst (xs ++ ys)) h := by
  simp [addA, mlist, e, hl]
theorem add_lr {h : Hs} {n : Nat} {xs ys : List A} (e : h[n]? = some (.lst xs)) (hl : ys.length + xs.length ≤ 16777216) : addA (.lst ys) (.ref n) h = .ok (.lst (ys ++ xs)) h := by
  simp [addA, mlist, e, hl]
theorem get_ref {h : Hs} {n r : Nat} {xs : List A} (e : h[n]? = some (.lst xs)) (hr : r < xs.length) : ∃ v, v ∈ xs ∧ getA (.ref n) (.int r) h = .ok v h := by
  refine ⟨xs[r], List.getElem_mem hr, ?_⟩
  simp [getA, dctOf, ixA, rlist, mlist, atI, ixN, e, hr]
theorem rg_nat {h : Hs} {r : Nat} (hr : r ≤ 1000000000) : rg1 [.int r] h = .ok ⟨rgItems 0 r, none⟩ h := by
  unfold rg1
  have b1 : -(2 ^ 62) ≤ (r : Int) := by omega
  have b2 : (r : Int) < 2 ^ 62 := by omega
  simp only [b1, b2, and_self, if_true, Int.toNat_natCast]
theorem rd_strs (h : Hs) (k : Nat) : ∀ zs : List Str, zs.all PyData.strOk = true → mapO (rdD (k + 1) h) (zs.map A.str) = some (zs.map PyData.str)
  | [], _ => rfl
  | z :: zs, e => by
    rw [List.all_cons, Bool.and_eq_true] at e
    have e1 : rdD (k + 1) h (.str z) = some (.str z) := by
      unfold rdD
      exact if_pos e.1
    rw [List.map_cons, List.map_cons]
    unfold mapO
    rw [e1, rd_strs h k zs e.2]
theorem eqB_tstrs (h : Hs) (zs : List Str) (h1 : zs.all PyData.strOk = true) (h2 : PyData.eqv (.tuple (zs.map PyData.str)) (.tuple (zs.map PyData.str)) = true) : eqB (.tup (zs.map A.str)) (.tup (zs.map A.str)) h = some true := by
  have e : rdD 60 h (.tup (zs.map A.str)) = some (.tuple (zs.map PyData.str)) := by
    unfold rdD
    simp only [rd_strs h 58 zs h1, Option.map]
  unfold eqB
  simp only [e, h2]
theorem tup_ref {h : Hs} {n : Nat} {xs : List A} (e : h[n]? = some (.lst xs)) : tupA (.ref n) h = .ok (.tup xs) h := by
  simp [tupA, rlist, mlist, e]
theorem add_tt {h : Hs} {xs ys : List A} (hl : xs.length + ys.length ≤ 16777216) : addA (.tup xs) (.tup ys) h = .ok (.tup (xs ++ ys)) h := if_pos hl
theorem add_ll {h : Hs} {xs ys : List A} (hl : xs.length + ys.length ≤ 16777216) : addA (.lst xs) (.lst ys) h = .ok (.lst (xs ++ ys)) h := if_pos hl
theorem forL_inv {g : A → En → Option En} {b : En → Hs → Rs} {xs : List A} (I : En → Hs → Prop) : ∀ (l : List A) (a : En) (h : Hs), (∀ x ∈ l, ∀ a h, I a h → ∃ a1 a2 h2, g x a = some a1 ∧ b a1 h = .nx a2 h2 ∧ I a2 h2) → I a h → ∃ a2 h2, forL g b ⟨xs, none⟩ l a h = .nx a2 h2 ∧ I a2 h2
  | [], a, h, _, hi => ⟨a, h, by unfold forL; rw [if_pos Src.ok_none], hi⟩
  | x :: l, a, h, hx, hi => by
    obtain ⟨a1, a2, h2, e1, e2, hi2⟩ := hx x (List.mem_cons_self ..) a h hi
    obtain ⟨a3, h3, e3, hi3⟩ := forL_inv (xs := xs) I l a2 h2 (fun y hy => hx y (List.mem_cons_of_mem _ hy)) hi2
    refine ⟨a3, h3, ?_, hi3⟩
    unfold forL
    rw [if_pos Src.ok_none, e1]
    simp only [e2, e3]
theorem forL_invN {g : A → En → Option En} {b : En → Hs → Rs} {xs : List A} {N : Nat} (I : Nat → En → Hs → Prop) : ∀ (l : List A) (i : Nat) (a : En) (h : Hs), i + l.length ≤ N → (∀ x ∈ l, ∀ i a h, i < N → I i a h → ∃ a1 a2 h2, g x a = some a1 ∧ b a1 h = .nx a2 h2 ∧ I (i + 1) a2 h2) → I i a h → ∃ a2 h2, forL g b ⟨xs, none⟩ l a h = .nx a2 h2 ∧ I (i + l.length) a2 h2
  | [], i, a, h, _, _, hi => ⟨a, h, by unfold forL; rw [if_pos Src.ok_none], hi⟩
  | x :: l, i, a, h, hN, hx, hi => by
    rw [List.length_cons] at hN
    obtain ⟨a1, a2, h2, e1, e2, hi2⟩ := hx x (List.mem_cons_self ..) i a h (by omega) hi
    obtain ⟨a3, h3, e3, hi3⟩ := forL_invN (xs := xs) I l (i + 1) a2 h2 (by omega) (fun y hy => hx y (List.mem_cons_of_mem _ hy)) hi2
    refine ⟨a3, h3, ?_, by rw [List.length_cons, Nat.add_comm l.length 1, ← Nat.add_assoc]; exact hi3⟩
    unfold forL
    rw [if_pos Src.ok_none, e1]
    simp only [e2, e3]
theorem lc_mapB {β : Type} {g : A → En → Option En} {c : En → Hs → R Bool} {f : En → Hs → R A} {src : Src} {a : En} {h : Hs} (u : β → A) {p : β → Bool} {F : β → A} (hs : src.ok h = true) : ∀ (l : List β) (acc : List A), (∀ x ∈ l, ∃ a1, g (u x) a = some a1 ∧ c a1 h = .ok (p x) h ∧ (p x = true → (f a1 h).bind bx = .ok (F x) h)) → lcL g c f src a acc (l.map u) h = .ok (acc ++ (l.filter p).map F) h
  | [], acc, _ => by
    rw [List.map_nil]
    unfold lcL
    rw [if_pos hs]
    simp
  | x :: l, acc, hx => by
    obtain ⟨a1, e1, e2, e3⟩ := hx x (List.mem_cons_self ..)
    rw [List.map_cons]
    unfold lcL
    rw [if_pos hs, e1]
    simp only [e2]
    cases hp : p x with
    | true =>
      simp only [e3 hp]
      rw [lc_mapB u hs l _ fun y hy => hx y (List.mem_cons_of_mem _ hy)]
      simp [List.filter_cons, hp]
    | false =>
      simp only []
      rw [lc_mapB u hs l _ fun y hy => hx y (List.mem_cons_of_mem _ hy)]
      simp [List.filter_cons, hp]
/-- the whole comprehension, over what does not change -/
theorem lc_eq {β : Type} {fi : En → Hs → R Src} {g : A → En → Option En} {c : En → Hs → R Bool} {f : En → Hs → R A} {vs : List Nat} {a : En} {h0 h : Hs} {l : List β} (u : β → A) (p : β → Bool) (F : β → A) (hi : fi a h0 = .ok ⟨l.map u, none⟩ h) (hl : l.length ≤ 16777216)
    (hx : ∀ x ∈ l, ∃ a1, g (u x) (wipeA a vs) = some a1 ∧ c a1 h = .ok (p x) h ∧ (p x = true → (f a1 h).bind bx = .ok (F x) h)) : eLc fi g c f vs a h0 = .ok (.lst ((l.filter p).map F)) h := by
  rw [eLc_ap, hi]
  rw [R.bind_ok]
  show (if (l.map u).length ≤ 16777216 then (lcL g c f ⟨l.map u, none⟩ (wipeA a vs) [] (l.map u) h).bind fun xs h2 => R.ok (A.lst xs) h2 else .stuck) = _
  rw [List.length_map, if_pos hl, lc_mapB u rfl l [] hx]
  rfl
theorem lc_eqT {β : Type} {fi : En → Hs → R Src} {g : A → En → Option En} {f : En → Hs → R A} {vs : List Nat} {a : En} {h0 h : Hs} {l : List β} (u : β → A) (F : β → A) (hi : fi a h0 = .ok ⟨l.map u, none⟩ h) (hl : l.length ≤ 16777216)
    (hx : ∀ x ∈ l, ∃ a1, g (u x) (wipeA a vs) = some a1 ∧ (f a1 h).bind bx = .ok (F x) h) : eLc fi g cYes f vs a h0 = .ok (.lst (l.map F)) h := by
  have e : (l.filter fun _ => true) = l := by simp
  have k := lc_eq (c := cYes) u (fun _ => true) F hi hl fun x hx' => by
    obtain ⟨a1, e1, e2⟩ := hx x hx'
    exact ⟨a1, e1, rfl, fun _ => e2⟩
  rw [e] at k
  exact k
theorem mapO_bl {β : Type} (p : β → Bool) : ∀ l : List β, mapO blOf (l.map fun y => A.bl (p y)) = some (l.map p)
  | [] => rfl
  | x :: l => by
    rw [List.map_cons, List.map_cons]
    unfold mapO
    rw [mapO_bl p l]
    rfl
theorem all_bl {β : Type} (p : β → Bool) (l : List β) (h : Hs) : allA (.lst (l.map fun y => A.bl (p y))) h = .ok (.bl (l.all p)) h := by
  simp [allA, rlist, mlist, mapO_bl, List.all_map, Function.comp_def]
theorem empty_all {β γ : Type} (p : β → Bool) (u : β → γ) : ∀ l : List β, ((l.filter fun c => !p c).map u).isEmpty = l.all p
  | [] => rfl
  | x :: l => by
    cases hp : p x
    · simp [List.filter_cons, hp]
    · simpa [List.filter_cons, hp] using empty_all p u l
end Sm

set_option maxHeartbeats 0
namespace KW
open PySem L2 Sm

def top (i : Nat) : Stmt := PySem.Challenge.pw_handlesagain_k01_rows.main.body.getD i (.Pass ⟨0, 0, 0, 0⟩)
abbrev FnP (K : PySem.W.Frag) (x : Str) (st : Stmt) (f : Addr) (fd : FuncData) : Prop := FunD K x x (defArgs st) (defBody st) (defScope st) [] [] f fd
abbrev s_is_integer : Stmt := top 3
abbrev s_is_count : Stmt := top 4
abbrev s_is_name : Stmt := top 5
abbrev s_is_row : Stmt := top 10
abbrev s__law_begin : Stmt := top 12
abbrev s__law_mixed : Stmt := top 13
abbrev s__law_draw : Stmt := top 14
abbrev s__law_bad_number : Stmt := top 15
abbrev s__law_bad_name : Stmt := top 16
abbrev s__law_word_ok : Stmt := top 17
abbrev s__law_count_ok : Stmt := top 18
abbrev s__law_row_ok : Stmt := top 19
abbrev s_law : Stmt := top 20
def v_WORDS : List A := [.str "open", .str "close", .str "renew", .str "use", .str "set", .str "drop", .str "lock", .str "unlock", .str "go", .str "rest"]
def v_SIZES : List (Str × A) := [("open", .int (2)), ("close", .int (2)), ("renew", .int (2)), ("use", .int (2)), ("set", .int (3)), ("drop", .int (2)), ("lock", .int (2)), ("unlock", .int (2)), ("rest", .int (1))]
def nm (K : PySem.W.Frag) : Nm := ⟨fun c => He.ga K c, fun _ => []⟩
structure Txt (w : World) (K : PySem.W.Frag) (mg : Str → Option Value) : Prop where
  f_isinstance : mg "isinstance" = none
  f_int : mg "int" = none
  f_bool : mg "bool" = none
  f_str : mg "str" = none
  f_len : mg "len" = none
  f_all : mg "all" = none
  f_tuple : mg "tuple" = none
  f_abs : mg "abs" = none
  f_range : mg "range" = none
  f_repr : mg "repr" = none
  g_is_integer : mg "is_integer" = some (.ref (He.ga K "is_integer"))
  d_is_integer : ∃ fd, FnP K "is_integer" s_is_integer (He.ga K "is_integer") fd
  g_is_count : mg "is_count" = some (.ref (He.ga K "is_count"))
  d_is_count : ∃ fd, FnP K "is_count" s_is_count (He.ga K "is_count") fd
  g_is_name : mg "is_name" = some (.ref (He.ga K "is_name"))
  d_is_name : ∃ fd, FnP K "is_name" s_is_name (He.ga K "is_name") fd
  g_is_row : mg "is_row" = some (.ref (He.ga K "is_row"))
  d_is_row : ∃ fd, FnP K "is_row" s_is_row (He.ga K "is_row") fd
  g__law_begin : mg "_law_begin" = some (.ref (He.ga K "_law_begin"))
  d__law_begin : ∃ fd, FnP K "_law_begin" s__law_begin (He.ga K "_law_begin") fd
  g__law_mixed : mg "_law_mixed" = some (.ref (He.ga K "_law_mixed"))
  d__law_mixed : ∃ fd, FnP K "_law_mixed" s__law_mixed (He.ga K "_law_mixed") fd
  g__law_draw : mg "_law_draw" = some (.ref (He.ga K "_law_draw"))
  d__law_draw : ∃ fd, FnP K "_law_draw" s__law_draw (He.ga K "_law_draw") fd
  g__law_bad_number : mg "_law_bad_number" = some (.ref (He.ga K "_law_bad_number"))
  d__law_bad_number : ∃ fd, FnP K "_law_bad_number" s__law_bad_number (He.ga K "_law_bad_number") fd
  g__law_bad_name : mg "_law_bad_name" = some (.ref (He.ga K "_law_bad_name"))
  d__law_bad_name : ∃ fd, FnP K "_law_bad_name" s__law_bad_name (He.ga K "_law_bad_name") fd
  g__law_word_ok : mg "_law_word_ok" = some (.ref (He.ga K "_law_word_ok"))
  d__law_word_ok : ∃ fd, FnP K "_law_word_ok" s__law_word_ok (He.ga K "_law_word_ok") fd
  g__law_count_ok : mg "_law_count_ok" = some (.ref (He.ga K "_law_count_ok"))
  d__law_count_ok : ∃ fd, FnP K "_law_count_ok" s__law_count_ok (He.ga K "_law_count_ok") fd
  g__law_row_ok : mg "_law_row_ok" = some (.ref (He.ga K "_law_row_ok"))
  d__law_row_ok : ∃ fd, FnP K "_law_row_ok" s__law_row_ok (He.ga K "_law_row_ok") fd
  g_law : mg "law" = some (.ref (He.ga K "law"))
  d_law : ∃ fd, FnP K "law" s_law (He.ga K "law") fd
  g_LETTERS : ∃ t, mg "LETTERS" = some (.str "abcdefghijklmnopqrstuvwxyz" t)
  g_MOST_LETTERS : ∃ t, mg "MOST_LETTERS" = some (.int (8) t)
  g_WORDS : ∃ p vs, mg "WORDS" = some (.ref p) ∧ (∀ H, SqT K H p vs) ∧ ∀ r n H, VRs ⟨K, (nm K).cls, (nm K).fn⟩ r n H v_WORDS vs
  g_SIZES : ∃ p, mg "SIZES" = some (.ref p) ∧ ∀ z y, v_SIZES.lookup z = some y → ∃ v, KDct K w p z v ∧ ∀ r n H, VR ⟨K, (nm K).cls, (nm K).fn⟩ r n H y v
  g_MOST_TARGETS : ∃ t, mg "MOST_TARGETS" = some (.int (4) t)
theorem sc_is_integer : FnScope ["value"] ["value"] (defScope s_is_integer) := ⟨rfl, rfl, rfl, by decide +kernel, rfl, by decide +kernel, by decide +kernel⟩
noncomputable def c_is_integer : En → Hs → Rs :=
  (sRet (eAnd (eUn (eVar 0) (isiA "int")) (eNot (eUn (eVar 0) (isiA "bool")))))
noncomputable def m_is_integer : List A → Hs → R A := mDef 1 c_is_integer
theorem ok_is_integer {P : Program} {w : World} {K : PySem.W.Frag} {mg : Str → Option Value} {base : Heap} {f : Addr} {fd : FuncData} (T : Txt w K mg) (F : FnP K "is_integer" s_is_integer f fd) : FnOk P w K mg base (L2.CX P w) 1 f fd ["value"] (spOf ⟨K, (nm K).cls, (nm K).fn⟩ 1 m_is_integer) :=
  ok_def (k := 0) ⟨K, (nm K).cls, (nm K).fn⟩ F sc_is_integer c_is_integer fun cdv A outer s H E hr tk po => ⟨_, (show JB _ (nm K) _ _ _ from (jb1 (js_ret (j_and (j_isi (c := "int") (by decide) bt_int T.f_isinstance T.f_int (jv 0)) (j_one (j_not (j_isi (c := "bool") (by decide) bt_bool T.f_isinstance T.f_bool (jv 0)))))))), sS⟩
theorem cal_is_integer {P : Program} {w : World} {K : PySem.W.Frag} {mg : Str → Option Value} {base : Heap} (T : Txt w K mg) : Cal P w K mg base (nm K) 1 "is_integer" 1 [] m_is_integer := by
  obtain ⟨fd, F⟩ := T.d_is_integer
  exact Cal.of F T.g_is_integer (ok_is_integer T F) fun _ _ _ _ _ _ us hl => match us, hl with | [_], _ => rfl
theorem sc_is_count : FnScope ["value"] ["value"] (defScope s_is_count) := ⟨rfl, rfl, rfl, by decide +kernel, rfl, by decide +kernel, by decide +kernel⟩
noncomputable def c_is_count : En → Hs → Rs :=
  (sRet (eAnd (eCall 1 (aCons (eVar 0) aNil) [] m_is_integer) (eOp (eVar 0) (eC (.int 0)) geA)))
noncomputable def m_is_count : List A → Hs → R A := mDef 1 c_is_count
theorem ok_is_count {P : Program} {w : World} {K : PySem.W.Frag} {mg : Str → Option Value} {base : Heap} {f : Addr} {fd : FuncData} (T : Txt w K mg) (F : FnP K "is_count" s_is_count f fd) : FnOk P w K mg base (L2.CX P w) 2 f fd ["value"] (spOf ⟨K, (nm K).cls, (nm K).fn⟩ 1 m_is_count) :=
  ok_def (k := 1) ⟨K, (nm K).cls, (nm K).fn⟩ F sc_is_count c_is_count fun cdv A outer s H E hr tk po => ⟨_, (show JB _ (nm K) _ _ _ from (jb1 (js_ret (j_and (j_call (cal_is_integer T) hr tk (ja (jv 0) ja_nil)) (j_one (j_cmp c_ge (jv 0) j_int)))))), sS⟩
theorem cal_is_count {P : Program} {w : World} {K : PySem.W.Frag} {mg : Str → Option Value} {base : Heap} (T : Txt w K mg) : Cal P w K mg base (nm K) 2 "is_count" 1 [] m_is_count := by
  obtain ⟨fd, F⟩ := T.d_is_count
  exact Cal.of F T.g_is_count (ok_is_count T F) fun _ _ _ _ _ _ us hl => match us, hl with | [_], _ => rfl
theorem sc_is_name : FnScope ["value", "sign"] ["value"] (defScope s_is_name) := ⟨rfl, rfl, rfl, by decide +kernel, rfl, by decide +kernel, by decide +kernel⟩
noncomputable def y_is_name_0 : En → Hs → R A :=
  (eOp (eVar 1) (eC (.str "abcdefghijklmnopqrstuvwxyz")) inA)
noncomputable def c_is_name : En → Hs → Rs :=
  (sSeq (sIf (cOr (cNot (cTru (eUn (eVar 0) (isiA "str")))) (cNot (cTest (eChain leA leA (eC (.int 1)) (eUn (eVar 0) lenA) (eC (.int (8))))))) (sRet (eC (.bl false))) sNext)
  (sRet (eUn (eLc (iAnyF (eVar 0)) (gNm 1) cYes y_is_name_0 [1]) allA)))
noncomputable def m_is_name : List A → Hs → R A := mDef 2 c_is_name
theorem ok_is_name {P : Program} {w : World} {K : PySem.W.Frag} {mg : Str → Option Value} {base : Heap} {f : Addr} {fd : FuncData} (T : Txt w K mg) (F : FnP K "is_name" s_is_name f fd) : FnOk P w K mg base (L2.CX P w) 1 f fd ["value"] (spOf ⟨K, (nm K).cls, (nm K).fn⟩ 1 m_is_name) :=
  ok_def (k := 0) ⟨K, (nm K).cls, (nm K).fn⟩ F sc_is_name c_is_name fun cdv A outer s H E hr tk po => ⟨_, (show JB _ (nm K) _ _ _ from (jb (js_if (jtw (jw_or (jt_not (jt (j_isi (c := "str") (by decide) bt_str T.f_isinstance T.f_str (jv 0)))) (jw_or1 (jt_not (jt_chain c_le c_le j_int (j_b1 f_len bt_len T.f_len (jv 0)) (j_gint T.g_MOST_LETTERS)))))) (jb1 (js_ret j_bl)) jb_nil)
    (jb1 (js_ret (j_b1 (f_all rfl) bt_all T.f_all (j_lc [("sign", 1)] sc_is_name.nd rfl (ji (jv 0)) (fun _ _ _ _ _ => (jg 1 sc_is_name.nd)) (fun _ _ _ _ _ => jts_nil) (fun _ _ _ _ _ => (j_cmp (c_in hr) (jv 1) (j_gstr T.g_LETTERS))))))))), sS⟩
theorem cal_is_name {P : Program} {w : World} {K : PySem.W.Frag} {mg : Str → Option Value} {base : Heap} (T : Txt w K mg) : Cal P w K mg base (nm K) 1 "is_name" 1 [] m_is_name := by
  obtain ⟨fd, F⟩ := T.d_is_name
  exact Cal.of F T.g_is_name (ok_is_name T F) fun _ _ _ _ _ _ us hl => match us, hl with | [_], _ => rfl
theorem sc_is_row : FnScope ["value", "target", "name"] ["value"] (defScope s_is_row) := ⟨rfl, rfl, rfl, by decide +kernel, rfl, by decide +kernel, by decide +kernel⟩
noncomputable def y_is_row_0 : En → Hs → R A :=
  (eCall 1 (aCons (eVar 1) aNil) [] m_is_count)
noncomputable def y_is_row_1 : En → Hs → R A :=
  (eCall 1 (aCons (eVar 2) aNil) [] m_is_name)
noncomputable def c_is_row : En → Hs → Rs :=
  (sSeq (sIf (cOr (cNot (cTru (eUn (eVar 0) (isiA "tuple")))) (cOr (cTest (eOp (eVar 0) (eTup aNil) eqA)) (cOr (cNot (cTru (eUn (eOp (eVar 0) (eC (.int 0)) getA) (isiA "str")))) (cTest (eOp (eOp (eVar 0) (eC (.int 0)) getA) (eC (.tup v_WORDS)) notinA))))) (sRet (eC (.bl false))) sNext)
  (sSeq (sIf (cTest (eOp (eOp (eVar 0) (eC (.int 0)) getA) (eC (.str "go")) eqA)) (sRet (eAnd (eChain leA leA (eC (.int 2)) (eUn (eVar 0) lenA) (eOp (eC (.int (4))) (eC (.int 1)) addA)) (eUn (eLc (iAnyF (eSl (eVar 0) (oSome (eC (.int 1))) oNone)) (gNm 1) cYes y_is_row_0 [1]) allA))) sNext)
  (sRet (eAnd (eOp (eUn (eVar 0) lenA) (eGd v_SIZES (eOp (eVar 0) (eC (.int 0)) getA)) eqA) (eUn (eLc (iAnyF (eSl (eVar 0) (oSome (eC (.int 1))) oNone)) (gNm 2) cYes y_is_row_1 [2]) allA)))))
noncomputable def m_is_row : List A → Hs → R A := mDef 3 c_is_row
theorem ok_is_row {P : Program} {w : World} {K : PySem.W.Frag} {mg : Str → Option Value} {base : Heap} {f : Addr} {fd : FuncData} (T : Txt w K mg) (F : FnP K "is_row" s_is_row f fd) : FnOk P w K mg base (L2.CX P w) 3 f fd ["value"] (spOf ⟨K, (nm K).cls, (nm K).fn⟩ 1 m_is_row) :=
  ok_def (k := 2) ⟨K, (nm K).cls, (nm K).fn⟩ F sc_is_row c_is_row fun cdv A outer s H E hr tk po => ⟨_, (show JB _ (nm K) _ _ _ from (jb (js_if (jtw (jw_or (jt_not (jt (j_isi (c := "tuple") (by decide) bt_tuple T.f_isinstance T.f_tuple (jv 0)))) (jw_or (jt_cmp (c_eq hr) (jv 0) (j_tup ja_nil)) (jw_or (jt_not (jt (j_isi (c := "str") (by decide) bt_str T.f_isinstance T.f_str (j_ix hr (jv 0) j_int)))) (jw_or1 (jt_cmp (c_notin hr) (j_ix hr (jv 0) j_int) (j_gtup T.g_WORDS))))))) (jb1 (js_ret j_bl)) jb_nil)
    (jb (js_if (jt_cmp (c_eq hr) (j_ix hr (jv 0) j_int) j_str) (jb1 (js_ret (j_and (j_chain c_le c_le j_int (j_b1 f_len bt_len T.f_len (jv 0)) (j_bin b_add (j_gint T.g_MOST_TARGETS) j_int)) (j_one (j_b1 (f_all rfl) bt_all T.f_all (j_lc [("target", 1)] sc_is_row.nd rfl (ji (j_sl (jv 0) (jo_some j_int) jo_none)) (fun _ _ _ _ _ => (jg 1 sc_is_row.nd)) (fun _ _ _ _ _ => jts_nil) (fun _ _ _ _ _ => (j_call (cal_is_count T) hr takes0 (ja (jv 1) ja_nil))))))))) jb_nil)
    (jb1 (js_ret (j_and (j_cmp (c_eq hr) (j_b1 f_len bt_len T.f_len (jv 0)) (j_gd T.g_SIZES (j_ix hr (jv 0) j_int))) (j_one (j_b1 (f_all rfl) bt_all T.f_all (j_lc [("name", 2)] sc_is_row.nd rfl (ji (j_sl (jv 0) (jo_some j_int) jo_none)) (fun _ _ _ _ _ => (jg 2 sc_is_row.nd)) (fun _ _ _ _ _ => jts_nil) (fun _ _ _ _ _ => (j_call (cal_is_name T) hr takes0 (ja (jv 2) ja_nil)))))))))))), sS⟩
theorem cal_is_row {P : Program} {w : World} {K : PySem.W.Frag} {mg : Str → Option Value} {base : Heap} (T : Txt w K mg) : Cal P w K mg base (nm K) 3 "is_row" 1 [] m_is_row := by
  obtain ⟨fd, F⟩ := T.d_is_row
  exact Cal.of F T.g_is_row (ok_is_row T F) fun _ _ _ _ _ _ us hl => match us, hl with | [_], _ => rfl
theorem sc__law_begin : FnScope ["script", "seed", "cell"] ["script"] (defScope s__law_begin) := ⟨rfl, rfl, rfl, by decide +kernel, rfl, by decide +kernel, by decide +kernel⟩
theorem ok__law_begin {P : Program} {w : World} {K : PySem.W.Frag} {mg : Str → Option Value} {base : Heap} {f : Addr} {fd : FuncData} (T : Txt w K mg) (F : FnP K "_law_begin" s__law_begin f fd) : FnOk P w K mg base (L2.CX P w) 1 f fd ["script"] (spOf ⟨K, (nm K).cls, (nm K).fn⟩ 1 m__law_begin) :=
  ok_def (k := 0) ⟨K, (nm K).cls, (nm K).fn⟩ F sc__law_begin c__law_begin fun cdv A outer s H E hr tk po => ⟨_, (show JB _ (nm K) _ _ _ from (jb (js_set 1 sc__law_begin.nd j_int)
    (jb (js_for po rfl (ji (j_sl (jv 0) jo_none (jo_some j_int))) (jg 2 sc__law_begin.nd) (jb1 (js_set 1 sc__law_begin.nd (j_bin b_mod (j_bin b_add (j_bin b_add (j_bin b_mul (jv 1) j_int) (j_bin b_mod (j_t1 f_int bt_int T.f_int (jv 2)) j_int)) j_int) j_int))))
    (jb1 (js_ret (j_lst (ja (j_lc [("cell", 2)] sc__law_begin.nd rfl (ji (jv 0)) (fun _ _ _ _ _ => (jg 2 sc__law_begin.nd)) (fun _ _ _ _ _ => jts_nil) (fun _ _ _ _ _ => (j_b1 f_abs bt_abs T.f_abs (j_t1 f_int bt_int T.f_int (jv 2))))) (ja j_int (ja j_int (ja (jv 1) (ja j_int ja_nil))))))))))), sS⟩
theorem cal__law_begin {P : Program} {w : World} {K : PySem.W.Frag} {mg : Str → Option Value} {base : Heap} (T : Txt w K mg) : Cal P w K mg base (nm K) 1 "_law_begin" 1 [] m__law_begin := by
  obtain ⟨fd, F⟩ := T.d__law_begin
  exact Cal.of F T.g__law_begin (ok__law_begin T F) fun _ _ _ _ _ _ us hl => match us, hl with | [_], _ => rfl
theorem sc__law_mixed : FnScope ["pool", "many", "found", "turn"] ["pool", "many"] (defScope s__law_mixed) := ⟨rfl, rfl, rfl, by decide +kernel, rfl, by decide +kernel, by decide +kernel⟩
theorem ok__law_mixed {P : Program} {w : World} {K : PySem.W.Frag} {mg : Str → Option Value} {base : Heap} {f : Addr} {fd : FuncData} (T : Txt w K mg) (F : FnP K "_law_mixed" s__law_mixed f fd) : FnOk P w K mg base (L2.CX P w) 1 f fd ["pool", "many"] (spOf ⟨K, (nm K).cls, (nm K).fn⟩ 2 m__law_mixed) :=
  ok_def (k := 0) ⟨K, (nm K).cls, (nm K).fn⟩ F sc__law_mixed c__law_mixed fun cdv A outer s H E hr tk po => ⟨_, (show JB _ (nm K) _ _ _ from (jb (js_setIx (jv 0) j_int (j_bin b_add (j_ix hr (jv 0) j_int) j_int))
    (jb (js_set 2 sc__law_mixed.nd (j_ix hr (jv 0) j_int))
    (jb (js_for po rfl (ji_rg1 T.f_range (ja (j_bin b_add j_int (j_bin b_fdiv (j_b1 f_len bt_len T.f_len (j_t1 f_str bt_str T.f_str (jv 1))) j_int)) ja_nil)) (jg 3 sc__law_mixed.nd) (jb (js_setIx (jv 0) j_int (j_bin b_mod (j_bin b_add (j_bin b_add (j_bin b_mul (j_ix hr (jv 0) j_int) j_int) (j_bin b_mul (j_ix hr (jv 0) j_int) j_int)) j_int) j_int))
    (jb1 (js_set 2 sc__law_mixed.nd (j_bin b_add (j_bin b_mul (jv 2) j_int) (j_bin b_fdiv (j_ix hr (jv 0) j_int) j_int))))))
    (jb1 (js_ret (j_bin b_mod (jv 2) (jv 1)))))))), sS⟩
theorem cal__law_mixed {P : Program} {w : World} {K : PySem.W.Frag} {mg : Str → Option Value} {base : Heap} (T : Txt w K mg) : Cal P w K mg base (nm K) 1 "_law_mixed" 2 [] m__law_mixed := by
  obtain ⟨fd, F⟩ := T.d__law_mixed
  exact Cal.of F T.g__law_mixed (ok__law_mixed T F) fun _ _ _ _ _ _ us hl => match us, hl with | [_, _], _ => rfl
theorem sc__law_draw : FnScope ["pool", "many", "found"] ["pool", "many"] (defScope s__law_draw) := ⟨rfl, rfl, rfl, by decide +kernel, rfl, by decide +kernel, by decide +kernel⟩
theorem ok__law_draw {P : Program} {w : World} {K : PySem.W.Frag} {mg : Str → Option Value} {base : Heap} {f : Addr} {fd : FuncData} (T : Txt w K mg) (F : FnP K "_law_draw" s__law_draw f fd) : FnOk P w K mg base (L2.CX P w) 2 f fd ["pool", "many"] (spOf ⟨K, (nm K).cls, (nm K).fn⟩ 2 m__law_draw) :=
  ok_def (k := 1) ⟨K, (nm K).cls, (nm K).fn⟩ F sc__law_draw c__law_draw fun cdv A outer s H E hr tk po => ⟨_, (show JB _ (nm K) _ _ _ from (jb (js_if (jtw (jw_or (jt_cmp c_ge (j_ix hr (jv 0) j_int) (j_b1 f_len bt_len T.f_len (j_ix hr (jv 0) j_int))) (jw_or1 (jt_cmp (c_eq hr) (jv 1) j_int)))) (jb1 (js_ret (j_if (jt_cmp c_gt (jv 1) j_int) (j_call (cal__law_mixed T) hr tk (ja (jv 0) (ja (jv 1) ja_nil))) j_int))) jb_nil)
    (jb (js_if (jt_cmp c_lt (j_ix hr (j_ix hr (jv 0) j_int) (j_ix hr (jv 0) j_int)) (j_bin b_pow j_int j_int)) (jb (js_setIx (jv 0) j_int (j_bin b_mod (j_bin b_add (j_bin b_add (j_bin b_add (j_bin b_mul (j_ix hr (jv 0) j_int) j_int) (j_ix hr (j_ix hr (jv 0) j_int) (j_ix hr (jv 0) j_int))) (j_ix hr (jv 0) j_int)) j_int) j_int))
    (jb (js_setIx (jv 0) j_int (j_bin b_add (j_ix hr (jv 0) j_int) j_int))
    (jb (js_if (jt_cmp (c_eq hr) (j_bin b_mod (j_ix hr (jv 0) j_int) j_int) j_int) (jb1 (js_setIx (jv 0) j_int (j_bin b_add (j_ix hr (jv 0) j_int) j_int))) jb_nil)
    (jb1 (js_ret (j_call (cal__law_mixed T) hr tk (ja (jv 0) (ja (jv 1) ja_nil)))))))) jb_nil)
    (jb (js_set 2 sc__law_draw.nd (j_bin b_mod (j_ix hr (j_ix hr (jv 0) j_int) (j_ix hr (jv 0) j_int)) (jv 1)))
    (jb (js_setIx (j_ix hr (jv 0) j_int) (j_ix hr (jv 0) j_int) (j_bin b_fdiv (j_ix hr (j_ix hr (jv 0) j_int) (j_ix hr (jv 0) j_int)) (jv 1)))
    (jb (js_if (jt_cmp (c_eq hr) (j_ix hr (j_ix hr (jv 0) j_int) (j_ix hr (jv 0) j_int)) j_int) (jb1 (js_setIx (jv 0) j_int (j_bin b_add (j_ix hr (jv 0) j_int) j_int))) jb_nil)
    (jb1 (js_ret (jv 2))))))))), sS⟩
theorem cal__law_draw {P : Program} {w : World} {K : PySem.W.Frag} {mg : Str → Option Value} {base : Heap} (T : Txt w K mg) : Cal P w K mg base (nm K) 2 "_law_draw" 2 [] m__law_draw := by
  obtain ⟨fd, F⟩ := T.d__law_draw
  exact Cal.of F T.g__law_draw (ok__law_draw T F) fun _ _ _ _ _ _ us hl => match us, hl with | [_, _], _ => rfl
theorem sc__law_bad_number : FnScope ["pool"] ["pool"] (defScope s__law_bad_number) := ⟨rfl, rfl, rfl, by decide +kernel, rfl, by decide +kernel, by decide +kernel⟩
noncomputable def c__law_bad_number : En → Hs → Rs :=
  (sRet (eOp (eLst (aCons (eUn (eC (.int 1)) negA) (aCons (eC .non) (aCons (eC (.bl true)) (aCons (eC (.str "1")) (aCons (eTup (aCons (eC (.int 1)) aNil)) (aCons (eLst (aCons (eC (.int 1)) aNil)) (aCons eDnew (aCons (eC (.bl false)) (aCons (eOp (eC (.int 0)) (eOp (eC (.int 10)) (eC (.int 30)) powA) subA) aNil)))))))))) (eCall 2 (aCons (eVar 0) (aCons (eC (.int 9)) aNil)) [] m__law_draw) getA))
noncomputable def m__law_bad_number : List A → Hs → R A := mDef 1 c__law_bad_number
theorem ok__law_bad_number {P : Program} {w : World} {K : PySem.W.Frag} {mg : Str → Option Value} {base : Heap} {f : Addr} {fd : FuncData} (T : Txt w K mg) (F : FnP K "_law_bad_number" s__law_bad_number f fd) : FnOk P w K mg base (L2.CX P w) 3 f fd ["pool"] (spOf ⟨K, (nm K).cls, (nm K).fn⟩ 1 m__law_bad_number) :=
  ok_def (k := 2) ⟨K, (nm K).cls, (nm K).fn⟩ F sc__law_bad_number c__law_bad_number fun cdv A outer s H E hr tk po => ⟨_, (show JB _ (nm K) _ _ _ from (jb1 (js_ret (j_ix hr (j_lst (ja (j_neg j_int) (ja j_non (ja j_bl (ja j_str (ja (j_tup (ja j_int ja_nil)) (ja (j_lst (ja j_int ja_nil)) (ja j_dnew (ja j_bl (ja (j_bin b_sub j_int (j_bin b_pow j_int j_int)) ja_nil)))))))))) (j_call (cal__law_draw T) hr tk (ja (jv 0) (ja j_int ja_nil))))))), sS⟩
theorem cal__law_bad_number {P : Program} {w : World} {K : PySem.W.Frag} {mg : Str → Option Value} {base : Heap} (T : Txt w K mg) : Cal P w K mg base (nm K) 3 "_law_bad_number" 1 [] m__law_bad_number := by
  obtain ⟨fd, F⟩ := T.d__law_bad_number
  exact Cal.of F T.g__law_bad_number (ok__law_bad_number T F) fun _ _ _ _ _ _ us hl => match us, hl with | [_], _ => rfl
theorem sc__law_bad_name : FnScope ["pool"] ["pool"] (defScope s__law_bad_name) := ⟨rfl, rfl, rfl, by decide +kernel, rfl, by decide +kernel, by decide +kernel⟩
noncomputable def c__law_bad_name : En → Hs → Rs :=
  (sRet (eOp (eLst (aCons (eC (.str "")) (aCons (eC (.str "A")) (aCons (eC (.str "a1")) (aCons (eC (.str "toolongne")) (aCons (eC (.str "a b")) (aCons (eC .non) (aCons (eC (.int 3)) (aCons (eC (.bl true)) (aCons (eTup (aCons (eC (.str "a")) aNil)) (aCons (eLst (aCons (eC (.str "a")) aNil)) aNil))))))))))) (eCall 2 (aCons (eVar 0) (aCons (eC (.int 10)) aNil)) [] m__law_draw) getA))
noncomputable def m__law_bad_name : List A → Hs → R A := mDef 1 c__law_bad_name
theorem ok__law_bad_name {P : Program} {w : World} {K : PySem.W.Frag} {mg : Str → Option Value} {base : Heap} {f : Addr} {fd : FuncData} (T : Txt w K mg) (F : FnP K "_law_bad_name" s__law_bad_name f fd) : FnOk P w K mg base (L2.CX P w) 3 f fd ["pool"] (spOf ⟨K, (nm K).cls, (nm K).fn⟩ 1 m__law_bad_name) :=
  ok_def (k := 2) ⟨K, (nm K).cls, (nm K).fn⟩ F sc__law_bad_name c__law_bad_name fun cdv A outer s H E hr tk po => ⟨_, (show JB _ (nm K) _ _ _ from (jb1 (js_ret (j_ix hr (j_lst (ja j_str (ja j_str (ja j_str (ja j_str (ja j_str (ja j_non (ja j_int (ja j_bl (ja (j_tup (ja j_str ja_nil)) (ja (j_lst (ja j_str ja_nil)) ja_nil))))))))))) (j_call (cal__law_draw T) hr tk (ja (jv 0) (ja j_int ja_nil))))))), sS⟩
theorem cal__law_bad_name {P : Program} {w : World} {K : PySem.W.Frag} {mg : Str → Option Value} {base : Heap} (T : Txt w K mg) : Cal P w K mg base (nm K) 3 "_law_bad_name" 1 [] m__law_bad_name := by
  obtain ⟨fd, F⟩ := T.d__law_bad_name
  exact Cal.of F T.g__law_bad_name (ok__law_bad_name T F) fun _ _ _ _ _ _ us hl => match us, hl with | [_], _ => rfl
theorem sc__law_word_ok : FnScope ["value", "sign"] ["value"] (defScope s__law_word_ok) := ⟨rfl, rfl, rfl, by decide +kernel, rfl, by decide +kernel, by decide +kernel⟩
noncomputable def z__law_word_ok_0 : En → Hs → R Bool :=
  (cTest (eOp (eVar 1) (eC (.str "abcdefghijklmnopqrstuvwxyz")) notinA))
noncomputable def c__law_word_ok : En → Hs → Rs :=
  (sSeq (sIf (cOr (cNot (cTru (eUn (eVar 0) (isiA "str")))) (cNot (cTest (eChain leA leA (eC (.int 1)) (eUn (eVar 0) lenA) (eC (.int 8)))))) (sRet (eC (.bl false))) sNext)
  (sRet (eOp (eLc (iAnyF (eVar 0)) (gNm 1) z__law_word_ok_0 (eVar 1) [1]) (eLst aNil) eqA)))
noncomputable def m__law_word_ok : List A → Hs → R A := mDef 2 c__law_word_ok
theorem ok__law_word_ok {P : Program} {w : World} {K : PySem.W.Frag} {mg : Str → Option Value} {base : Heap} {f : Addr} {fd : FuncData} (T : Txt w K mg) (F : FnP K "_law_word_ok" s__law_word_ok f fd) : FnOk P w K mg base (L2.CX P w) 1 f fd ["value"] (spOf ⟨K, (nm K).cls, (nm K).fn⟩ 1 m__law_word_ok) :=
  ok_def (k := 0) ⟨K, (nm K).cls, (nm K).fn⟩ F sc__law_word_ok c__law_word_ok fun cdv A outer s H E hr tk po => ⟨_, (show JB _ (nm K) _ _ _ from (jb (js_if (jtw (jw_or (jt_not (jt (j_isi (c := "str") (by decide) bt_str T.f_isinstance T.f_str (jv 0)))) (jw_or1 (jt_not (jt_chain c_le c_le j_int (j_b1 f_len bt_len T.f_len (jv 0)) j_int))))) (jb1 (js_ret j_bl)) jb_nil)
    (jb1 (js_ret (j_cmp (c_eq hr) (j_lc [("sign", 1)] sc__law_word_ok.nd rfl (ji (jv 0)) (fun _ _ _ _ _ => (jg 1 sc__law_word_ok.nd)) (fun _ _ _ _ _ => (jts_one (jt_cmp (c_notin hr) (jv 1) j_str))) (fun _ _ _ _ _ => (jv 1))) (j_lst ja_nil)))))), sS⟩
theorem cal__law_word_ok {P : Program} {w : World} {K : PySem.W.Frag} {mg : Str → Option Value} {base : Heap} (T : Txt w K mg) : Cal P w K mg base (nm K) 1 "_law_word_ok" 1 [] m__law_word_ok := by
  obtain ⟨fd, F⟩ := T.d__law_word_ok
  exact Cal.of F T.g__law_word_ok (ok__law_word_ok T F) fun _ _ _ _ _ _ us hl => match us, hl with | [_], _ => rfl
theorem sc__law_count_ok : FnScope ["value"] ["value"] (defScope s__law_count_ok) := ⟨rfl, rfl, rfl, by decide +kernel, rfl, by decide +kernel, by decide +kernel⟩
noncomputable def c__law_count_ok : En → Hs → Rs :=
  (sRet (eAnd (eUn (eVar 0) (isiA "int")) (eAnd (eNot (eUn (eVar 0) (isiA "bool"))) (eOp (eVar 0) (eC (.int 0)) geA))))
noncomputable def m__law_count_ok : List A → Hs → R A := mDef 1 c__law_count_ok
theorem ok__law_count_ok {P : Program} {w : World} {K : PySem.W.Frag} {mg : Str → Option Value} {base : Heap} {f : Addr} {fd : FuncData} (T : Txt w K mg) (F : FnP K "_law_count_ok" s__law_count_ok f fd) : FnOk P w K mg base (L2.CX P w) 1 f fd ["value"] (spOf ⟨K, (nm K).cls, (nm K).fn⟩ 1 m__law_count_ok) :=
  ok_def (k := 0) ⟨K, (nm K).cls, (nm K).fn⟩ F sc__law_count_ok c__law_count_ok fun cdv A outer s H E hr tk po => ⟨_, (show JB _ (nm K) _ _ _ from (jb1 (js_ret (j_and (j_isi (c := "int") (by decide) bt_int T.f_isinstance T.f_int (jv 0)) (j_and (j_not (j_isi (c := "bool") (by decide) bt_bool T.f_isinstance T.f_bool (jv 0))) (j_one (j_cmp c_ge (jv 0) j_int))))))), sS⟩
theorem cal__law_count_ok {P : Program} {w : World} {K : PySem.W.Frag} {mg : Str → Option Value} {base : Heap} (T : Txt w K mg) : Cal P w K mg base (nm K) 1 "_law_count_ok" 1 [] m__law_count_ok := by
  obtain ⟨fd, F⟩ := T.d__law_count_ok
  exact Cal.of F T.g__law_count_ok (ok__law_count_ok T F) fun _ _ _ _ _ _ us hl => match us, hl with | [_], _ => rfl
theorem sc__law_row_ok : FnScope ["value", "lengths", "one"] ["value"] (defScope s__law_row_ok) := ⟨rfl, rfl, rfl, by decide +kernel, rfl, by decide +kernel, by decide +kernel⟩
noncomputable def z__law_row_ok_0 : En → Hs → R Bool :=
  (cNot (cTru (eCall 1 (aCons (eVar 2) aNil) [] m__law_count_ok)))
noncomputable def z__law_row_ok_1 : En → Hs → R Bool :=
  (cNot (cTru (eCall 1 (aCons (eVar 2) aNil) [] m__law_word_ok)))
noncomputable def c__law_row_ok : En → Hs → Rs :=
  (sSeq (sSet 1 (eDisp (pCons (eC (.str "open")) (eC (.int 2)) (pCons (eC (.str "close")) (eC (.int 2)) (pCons (eC (.str "renew")) (eC (.int 2)) (pCons (eC (.str "use")) (eC (.int 2)) (pCons (eC (.str "set")) (eC (.int 3)) (pCons (eC (.str "drop")) (eC (.int 2)) (pCons (eC (.str "lock")) (eC (.int 2)) (pCons (eC (.str "unlock")) (eC (.int 2)) (pCons (eC (.str "rest")) (eC (.int 1)) pNil)))))))))))
  (sSeq (sIf (cOr (cNot (cTru (eUn (eVar 0) (isiA "tuple")))) (cOr (cTest (eOp (eVar 0) (eTup aNil) eqA)) (cNot (cTru (eUn (eOp (eVar 0) (eC (.int 0)) getA) (isiA "str")))))) (sRet (eC (.bl false))) sNext)
  (sSeq (sIf (cTest (eOp (eOp (eVar 0) (eC (.int 0)) getA) (eC (.str "go")) eqA)) (sRet (eAnd (eChain leA leA (eC (.int 2)) (eUn (eVar 0) lenA) (eC (.int 5))) (eOp (eLc (iAnyF (eSl (eVar 0) (oSome (eC (.int 1))) oNone)) (gNm 2) z__law_row_ok_0 (eVar 2) [2]) (eLst aNil) eqA))) sNext)
  (sSeq (sIf (cOr (cTest (eOp (eOp (eVar 0) (eC (.int 0)) getA) (eVar 1) notinA)) (cTest (eOp (eUn (eVar 0) lenA) (eOp (eVar 1) (eOp (eVar 0) (eC (.int 0)) getA) getA) neA))) (sRet (eC (.bl false))) sNext)
  (sRet (eOp (eLc (iAnyF (eSl (eVar 0) (oSome (eC (.int 1))) oNone)) (gNm 2) z__law_row_ok_1 (eVar 2) [2]) (eLst aNil) eqA))))))
noncomputable def m__law_row_ok : List A → Hs → R A := mDef 3 c__law_row_ok
theorem ok__law_row_ok {P : Program} {w : World} {K : PySem.W.Frag} {mg : Str → Option Value} {base : Heap} {f : Addr} {fd : FuncData} (T : Txt w K mg) (F : FnP K "_law_row_ok" s__law_row_ok f fd) : FnOk P w K mg base (L2.CX P w) 2 f fd ["value"] (spOf ⟨K, (nm K).cls, (nm K).fn⟩ 1 m__law_row_ok) :=
  ok_def (k := 1) ⟨K, (nm K).cls, (nm K).fn⟩ F sc__law_row_ok c__law_row_ok fun cdv A outer s H E hr tk po => ⟨_, (show JB _ (nm K) _ _ _ from (jb (js_set 1 sc__law_row_ok.nd (j_disp (jp j_str j_int (jp j_str j_int (jp j_str j_int (jp j_str j_int (jp j_str j_int (jp j_str j_int (jp j_str j_int (jp j_str j_int (jp j_str j_int jp_nil)))))))))))
    (jb (js_if (jtw (jw_or (jt_not (jt (j_isi (c := "tuple") (by decide) bt_tuple T.f_isinstance T.f_tuple (jv 0)))) (jw_or (jt_cmp (c_eq hr) (jv 0) (j_tup ja_nil)) (jw_or1 (jt_not (jt (j_isi (c := "str") (by decide) bt_str T.f_isinstance T.f_str (j_ix hr (jv 0) j_int)))))))) (jb1 (js_ret j_bl)) jb_nil)
    (jb (js_if (jt_cmp (c_eq hr) (j_ix hr (jv 0) j_int) j_str) (jb1 (js_ret (j_and (j_chain c_le c_le j_int (j_b1 f_len bt_len T.f_len (jv 0)) j_int) (j_one (j_cmp (c_eq hr) (j_lc [("one", 2)] sc__law_row_ok.nd rfl (ji (j_sl (jv 0) (jo_some j_int) jo_none)) (fun _ _ _ _ _ => (jg 2 sc__law_row_ok.nd)) (fun _ _ _ _ _ => (jts_one (jt_not (jt (j_call (cal__law_count_ok T) hr takes0 (ja (jv 2) ja_nil)))))) (fun _ _ _ _ _ => (jv 2))) (j_lst ja_nil)))))) jb_nil)
    (jb (js_if (jtw (jw_or (jt_cmp (c_notin hr) (j_ix hr (jv 0) j_int) (jv 1)) (jw_or1 (jt_cmp (c_ne hr) (j_b1 f_len bt_len T.f_len (jv 0)) (j_ix hr (jv 1) (j_ix hr (jv 0) j_int)))))) (jb1 (js_ret j_bl)) jb_nil)
    (jb1 (js_ret (j_cmp (c_eq hr) (j_lc [("one", 2)] sc__law_row_ok.nd rfl (ji (j_sl (jv 0) (jo_some j_int) jo_none)) (fun _ _ _ _ _ => (jg 2 sc__law_row_ok.nd)) (fun _ _ _ _ _ => (jts_one (jt_not (jt (j_call (cal__law_word_ok T) hr takes0 (ja (jv 2) ja_nil)))))) (fun _ _ _ _ _ => (jv 2))) (j_lst ja_nil))))))))), sS⟩
theorem cal__law_row_ok {P : Program} {w : World} {K : PySem.W.Frag} {mg : Str → Option Value} {base : Heap} (T : Txt w K mg) : Cal P w K mg base (nm K) 2 "_law_row_ok" 1 [] m__law_row_ok := by
  obtain ⟨fd, F⟩ := T.d__law_row_ok
  exact Cal.of F T.g__law_row_ok (ok__law_row_ok T F) fun _ _ _ _ _ _ us hl => match us, hl with | [_], _ => rfl
theorem sc_law : FnScope ["script", "pool", "words", "k", "word", "rest", "again", "some", "value", "odd"] ["script"] (defScope s_law) := ⟨rfl, rfl, rfl, by decide +kernel, rfl, by decide +kernel, by decide +kernel⟩
noncomputable def b_law_0 : En → Hs → Rs :=
  (sSeq (sSet 7 (eLst (aCons (eCall 1 (aCons (eVar 1) aNil) [] m__law_bad_name) (aCons (eC (.str "v")) (aCons (eC (.str "abcdefgh")) (aCons (eCall 1 (aCons (eVar 1) aNil) [] m__law_bad_number) (aCons (eC (.int 0)) (aCons (eC (.int 7)) (aCons (eOp (eC (.int 10)) (eC (.int 9)) powA) aNil)))))))))
  (sExpr (eLm1 appA (eVar 5) (eOp (eVar 7) (eCall 2 (aCons (eVar 1) (aCons (eC (.int 7)) aNil)) [] m__law_draw) getA))))
noncomputable def b_law_1 : En → Hs → Rs :=
  (sIf (cTest (eOp (eUn (eCall 1 (aCons (eVar 8) aNil) [] m_is_row) reprS) (eUn (eCall 1 (aCons (eVar 8) aNil) [] m__law_row_ok) reprS) neA)) (sRet (eC (.bl false))) sNext)
noncomputable def b_law_2 : En → Hs → Rs :=
  (sSeq (sSet 4 (eOp (eOp (eVar 2) (eLst (aCons (eC (.str "")) (aCons (eC (.str "Open")) (aCons (eC .non) (aCons (eC (.int 3)) (aCons (eTup (aCons (eC (.str "open")) aNil)) aNil)))))) addA) (eCall 2 (aCons (eVar 1) (aCons (eC (.int 15)) aNil)) [] m__law_draw) getA))
  (sSeq (sSet 5 (eLst aNil))
  (sSeq (sFor (iRg1 (aCons (eCall 2 (aCons (eVar 1) (aCons (eC (.int 6)) aNil)) [] m__law_draw) aNil)) (gNm 6) b_law_0)
  (sSeq (sSet 7 (eLst (aCons (eOp (eTup (aCons (eVar 4) aNil)) (eUn (eVar 5) tupA) addA) (aCons (eOp (eLst (aCons (eVar 4) aNil)) (eVar 5) addA) (aCons (eTup (aCons (eVar 4) aNil)) (aCons (eTup (aCons (eVar 4) (aCons (eC (.str "v")) aNil))) (aCons (eTup (aCons (eVar 4) (aCons (eC (.str "v")) (aCons (eC (.str "w")) aNil)))) (aCons (eTup (aCons (eVar 4) (aCons (eC (.int 0)) (aCons (eC (.int 1)) aNil)))) aNil))))))))
  (sFor (iAnyF (eOp (eVar 7) (eLst (aCons (eVar 4) aNil)) addA)) (gNm 8) b_law_1)))))
noncomputable def y_law_3 : En → Hs → R A :=
  (eCall 1 (aCons (eVar 9) aNil) [] m_is_row)
noncomputable def c_law : En → Hs → Rs :=
  (sSeq (sSet 1 (eCall 1 (aCons (eVar 0) aNil) [] m__law_begin))
  (sSeq (sSet 2 (eLst (aCons (eC (.str "open")) (aCons (eC (.str "close")) (aCons (eC (.str "renew")) (aCons (eC (.str "use")) (aCons (eC (.str "set")) (aCons (eC (.str "drop")) (aCons (eC (.str "lock")) (aCons (eC (.str "unlock")) (aCons (eC (.str "go")) (aCons (eC (.str "rest")) aNil))))))))))))
  (sSeq (sIf (cTest (eOp (eC (.tup v_WORDS)) (eUn (eVar 2) tupA) neA)) (sRet (eC (.bl false))) sNext)
  (sSeq (sFor (iRg1 (aCons (eC (.int 20)) aNil)) (gNm 3) b_law_2)
  (sRet (eOp (eLc (iAnyF (eLst (aCons (eTup aNil) (aCons (eC .non) (aCons (eC (.int 0)) (aCons (eC (.str "rest")) (aCons eDnew aNil))))))) (gNm 9) cYes y_law_3 [9]) (eOp (eLst (aCons (eC (.bl false)) aNil)) (eC (.int 5)) mulA) eqA))))))
noncomputable def m_law : List A → Hs → R A := mDef 10 c_law
theorem ok_law {P : Program} {w : World} {K : PySem.W.Frag} {mg : Str → Option Value} {base : Heap} {f : Addr} {fd : FuncData} (T : Txt w K mg) (F : FnP K "law" s_law f fd) : FnOk P w K mg base (L2.CX P w) 4 f fd ["script"] (spOf ⟨K, (nm K).cls, (nm K).fn⟩ 1 m_law) :=
  ok_def (k := 3) ⟨K, (nm K).cls, (nm K).fn⟩ F sc_law c_law fun cdv A outer s H E hr tk po => ⟨_, (show JB _ (nm K) _ _ _ from (jb (js_set 1 sc_law.nd (j_call (cal__law_begin T) hr tk (ja (jv 0) ja_nil)))
    (jb (js_set 2 sc_law.nd (j_lst (ja j_str (ja j_str (ja j_str (ja j_str (ja j_str (ja j_str (ja j_str (ja j_str (ja j_str (ja j_str ja_nil))))))))))))
    (jb (js_if (jt_cmp (c_ne hr) (j_gtup T.g_WORDS) (j_t1 f_tup bt_tuple T.f_tuple (jv 2))) (jb1 (js_ret j_bl)) jb_nil)
    (jb (js_for po rfl (ji_rg1 T.f_range (ja j_int ja_nil)) (jg 3 sc_law.nd) (jb (js_set 4 sc_law.nd (j_ix hr (j_bin b_add (jv 2) (j_lst (ja j_str (ja j_str (ja j_non (ja j_int (ja (j_tup (ja j_str ja_nil)) ja_nil))))))) (j_call (cal__law_draw T) hr tk (ja (jv 1) (ja j_int ja_nil)))))
    (jb (js_set 5 sc_law.nd (j_lst ja_nil))
    (jb (js_for po rfl (ji_rg1 T.f_range (ja (j_call (cal__law_draw T) hr tk (ja (jv 1) (ja j_int ja_nil))) ja_nil)) (jg 6 sc_law.nd) (jb (js_set 7 sc_law.nd (j_lst (ja (j_call (cal__law_bad_name T) hr tk (ja (jv 1) ja_nil)) (ja j_str (ja j_str (ja (j_call (cal__law_bad_number T) hr tk (ja (jv 1) ja_nil)) (ja j_int (ja j_int (ja (j_bin b_pow j_int j_int) ja_nil)))))))))
    (jb1 (js_expr (j_app (jv 5) (j_ix hr (jv 7) (j_call (cal__law_draw T) hr tk (ja (jv 1) (ja j_int ja_nil)))))))))
    (jb (js_set 7 sc_law.nd (j_lst (ja (j_bin b_add (j_tup (ja (jv 4) ja_nil)) (j_t1 f_tup bt_tuple T.f_tuple (jv 5))) (ja (j_bin b_add (j_lst (ja (jv 4) ja_nil)) (jv 5)) (ja (j_tup (ja (jv 4) ja_nil)) (ja (j_tup (ja (jv 4) (ja j_str ja_nil))) (ja (j_tup (ja (jv 4) (ja j_str (ja j_str ja_nil)))) (ja (j_tup (ja (jv 4) (ja j_int (ja j_int ja_nil)))) ja_nil))))))))
    (jb1 (js_for po rfl (ji (j_bin b_add (jv 7) (j_lst (ja (jv 4) ja_nil)))) (jg 8 sc_law.nd) (jb1 (js_if (jt_cmp (c_ne hr) (j_b1 f_reprS bt_repr T.f_repr (j_call (cal_is_row T) hr tk (ja (jv 8) ja_nil))) (j_b1 f_reprS bt_repr T.f_repr (j_call (cal__law_row_ok T) hr tk (ja (jv 8) ja_nil)))) (jb1 (js_ret j_bl)) jb_nil)))))))))
    (jb1 (js_ret (j_cmp (c_eq hr) (j_lc [("odd", 9)] sc_law.nd rfl (ji (j_lst (ja (j_tup ja_nil) (ja j_non (ja j_int (ja j_str (ja j_dnew ja_nil))))))) (fun _ _ _ _ _ => (jg 9 sc_law.nd)) (fun _ _ _ _ _ => jts_nil) (fun _ _ _ _ _ => (j_call (cal_is_row T) hr takes0 (ja (jv 9) ja_nil)))) (j_bin b_mul (j_lst (ja j_bl ja_nil)) j_int))))))))), sS⟩
theorem cal_law {P : Program} {w : World} {K : PySem.W.Frag} {mg : Str → Option Value} {base : Heap} (T : Txt w K mg) : Cal P w K mg base (nm K) 4 "law" 1 [] m_law := by
  obtain ⟨fd, F⟩ := T.d_law
  exact Cal.of F T.g_law (ok_law T F) fun _ _ _ _ _ _ us hl => match us, hl with | [_], _ => rfl
/-! ### the plain law -/
def okE (h : Hs) (x : A) : Prop := (∃ t, tyN x h = some t) ∧ (∀ z, x = .str z → z.length ≤ 16777216) ∧ ∀ l, x ≠ .lst l
def cntB : A → Bool
  | .int i => decide (0 ≤ i)
  | _ => false
def letB (c : Nat) : Bool := decide (c ∈ (("abcdefghijklmnopqrstuvwxyz" : Str)).cps.toList)
def wordB : A → Bool
  | .str z => decide (1 ≤ z.length ∧ z.length ≤ 8) && z.cps.toList.all letB
  | _ => false
def isI : A → Bool
  | .int _ => true
  | _ => false
/-- the kinds of a thing -/
theorem okE.cases {h : Hs} {x : A} (k : okE h x) : x = .non ∨ (∃ b, x = .bl b) ∨ (∃ i, x = .int i) ∨ (∃ z, x = .str z ∧ z.length ≤ 16777216) ∨ (∃ xs, x = .tup xs) ∨ (tyN x h = some "list" ∨ tyN x h = some "dict") ∧ (∀ l, x ≠ .lst l) ∧ isI x = false ∧ cntB x = false ∧ wordB x = false ∧ ∀ xs, x ≠ .tup xs := by
  obtain ⟨⟨t, k⟩, ks, kl⟩ := k
  cases x with
  | non => exact .inl rfl
  | bl b => exact .inr (.inl ⟨b, rfl⟩)
  | int i => exact .inr (.inr (.inl ⟨i, rfl⟩))
  | str z => exact .inr (.inr (.inr (.inl ⟨z, rfl, ks z rfl⟩)))
  | tup xs => exact .inr (.inr (.inr (.inr (.inl ⟨xs, rfl⟩))))
  | obj c xs => cases k
  | lst l => exact absurd rfl (kl l)
  | rol l => exact .inr (.inr (.inr (.inr (.inr ⟨.inl rfl, kl, rfl, rfl, rfl, fun _ e => nomatch e⟩))))
  | ref n =>
    refine .inr (.inr (.inr (.inr (.inr ⟨?_, kl, rfl, rfl, rfl, fun _ e => nomatch e⟩))))
    simp only [tyN] at k ⊢
    cases e : h[n]? with
    | none => simp [e] at k
    | some o =>
      cases o with
      | lst xs => exact .inl rfl
      | dct xs => exact .inr rfl
      | ins c fs => simp [e] at k
theorem integer_eq {h : Hs} {x : A} (k : okE h x) : m_is_integer [x] h = .ok (.bl (isI x)) h := by
  refine mDef_rt ?_
  show c_is_integer [some x] h = _
  rcases k.cases with rfl | ⟨b, rfl⟩ | ⟨i, rfl⟩ | ⟨z, rfl, hz⟩ | ⟨xs, rfl⟩ | ⟨e | e, k1, k2, k3, k4, k5⟩
  all_goals first | rfl | skip
  · have e1 := isi_of (d := "int") e
    have e2 := isi_of (d := "bool") e
    simp [c_is_integer, eVar0, eUn_ap, R.bind_ok, e1, e2, k2, sRet_ap, eAnd_ap, eNot_ap, toS_ok, tru_bl, subB]
  · have e1 := isi_of (d := "int") e
    have e2 := isi_of (d := "bool") e
    simp [c_is_integer, eVar0, eUn_ap, R.bind_ok, e1, e2, k2, sRet_ap, eAnd_ap, eNot_ap, toS_ok, tru_bl, subB]
theorem count_eq {h : Hs} {x : A} (k : okE h x) : m_is_count [x] h = .ok (.bl (cntB x)) h := by
  refine mDef_rt ?_
  show c_is_count [some x] h = _
  have e := integer_eq k
  have ex := bx_no (h := h) k.2.2
  cases x <;> simp [c_is_count, e, ex, isI, cntB, sRet_ap, eAnd_ap, eCall_ap, aCons_ap, aNil_ap, eVar0, R.bind_ok, tru_bl, eOp_ap, eC_ap, ge_ii, toS_ok]
theorem lcount_eq {h : Hs} {x : A} (k : okE h x) : m__law_count_ok [x] h = .ok (.bl (cntB x)) h := by
  refine mDef_rt ?_
  show c__law_count_ok [some x] h = _
  rcases k.cases with rfl | ⟨b, rfl⟩ | ⟨i, rfl⟩ | ⟨z, rfl, hz⟩ | ⟨xs, rfl⟩ | ⟨e | e, k1, k2, k3, k4, k5⟩
  all_goals first | rfl | skip
  · have e1 := isi_of (d := "int") e
    simp [c__law_count_ok, eVar0, eUn_ap, R.bind_ok, e1, k3, sRet_ap, eAnd_ap, eNot_ap, toS_ok, tru_bl, subB]
  · have e1 := isi_of (d := "int") e
    simp [c__law_count_ok, eVar0, eUn_ap, R.bind_ok, e1, k3, sRet_ap, eAnd_ap, eNot_ap, toS_ok, tru_bl, subB]
theorem name_eq {h : Hs} {x : A} (k : okE h x) : m_is_name [x] h = .ok (.bl (wordB x)) h := by
  refine mDef_rt ?_
  show c_is_name [some x, none] h = _
  rcases k.cases with rfl | ⟨b, rfl⟩ | ⟨i, rfl⟩ | ⟨z, rfl, hz⟩ | ⟨xs, rfl⟩ | ⟨e | e, k1, k2, k3, k4, k5⟩
  all_goals first | rfl | skip
  · have w : eLc (iAnyF (eVar 0)) (gNm 1) cYes y_is_name_0 [1] [some (.str z), none] h = .ok (.lst (z.cps.toList.map fun c => .bl (letB c))) h :=
      lc_eqT (fun c => A.str ⟨#[c]⟩) (fun c => .bl (letB c)) rfl hz fun c _ => ⟨_, rfl, rfl⟩
    by_cases h1 : 1 ≤ z.length
    · by_cases h2 : z.length ≤ 8
      · have k1 : (1 : Int) ≤ z.length := by omega
        have k2 : (z.length : Int) ≤ 8 := by omega
        simp [c_is_name, sSeq_ap, sIf_ap, sSet_ap, sRet_ap, sExpr_ap, sNext_ap, sFor_ap, sSetIx_ap, eOp_ap, eUn_ap, eC_ap, eVar0, eVar_1, eVar_2, eVar_3, eVar_4, eVar_5, eVar_6, eVar_7, eVar_8, eVar_9, eCall_ap, aNil_ap, aCons_ap, eTup_ap, eLst_ap, cTest_ap, cTru_ap, cAnd_ap, cOr_ap, cNot_ap, cYes_ap, eIf_ap, eAnd_ap, eOr_ap, eNot_ap, eSl_ap, oNone_ap, oSome_ap, iRg1_ap, iRg2_ap, iAnyF_ap, eLm1_ap, eChain_ap, eDnew_ap, pNil_ap, pCons_ap, eDisp_ap, eGd_ap, bx_int, bx_str, bx_bl, bx_non, bx_tup, bx_rol, bx_obj, bx_ref, bx_lst, tru_bl, Sm.sl_tup, get_lst, get_tup, len_tup, R.bind_ok, R.bind_exc, toS_ok, toS_exc, then_nx, then_rt, then_bk, then_ct, then_exc, add_ii, sub_ii, mul_r, mod_ii, fdiv_ii, pow_ii, lt_ii, le_ii, gt_ii, ge_ii, eq_ii, ne_ii, eq_ss, ne_ss, eq_tz, eq_lz, isi_non, isi_bl, isi_int, isi_str, isi_tup, subB, get_tup0, w, wordB, len_str hz, h1, h2, k1, k2, all_bl]
      · have k1 : (1 : Int) ≤ z.length := by omega
        have k2 : ¬ (z.length : Int) ≤ 8 := by omega
        simp [c_is_name, sSeq_ap, sIf_ap, sSet_ap, sRet_ap, sExpr_ap, sNext_ap, sFor_ap, sSetIx_ap, eOp_ap, eUn_ap, eC_ap, eVar0, eVar_1, eVar_2, eVar_3, eVar_4, eVar_5, eVar_6, eVar_7, eVar_8, eVar_9, eCall_ap, aNil_ap, aCons_ap, eTup_ap, eLst_ap, cTest_ap, cTru_ap, cAnd_ap, cOr_ap, cNot_ap, cYes_ap, eIf_ap, eAnd_ap, eOr_ap, eNot_ap, eSl_ap, oNone_ap, oSome_ap, iRg1_ap, iRg2_ap, iAnyF_ap, eLm1_ap, eChain_ap, eDnew_ap, pNil_ap, pCons_ap, eDisp_ap, eGd_ap, bx_int, bx_str, bx_bl, bx_non, bx_tup, bx_rol, bx_obj, bx_ref, bx_lst, tru_bl, Sm.sl_tup, get_lst, get_tup, len_tup, R.bind_ok, R.bind_exc, toS_ok, toS_exc, then_nx, then_rt, then_bk, then_ct, then_exc, add_ii, sub_ii, mul_r, mod_ii, fdiv_ii, pow_ii, lt_ii, le_ii, gt_ii, ge_ii, eq_ii, ne_ii, eq_ss, ne_ss, eq_tz, eq_lz, isi_non, isi_bl, isi_int, isi_str, isi_tup, subB, get_tup0, w, wordB, len_str hz, h1, h2, k1, k2, all_bl]
    · have k1 : ¬ (1 : Int) ≤ z.length := by omega
      simp [c_is_name, sSeq_ap, sIf_ap, sSet_ap, sRet_ap, sExpr_ap, sNext_ap, sFor_ap, sSetIx_ap, eOp_ap, eUn_ap, eC_ap, eVar0, eVar_1, eVar_2, eVar_3, eVar_4, eVar_5, eVar_6, eVar_7, eVar_8, eVar_9, eCall_ap, aNil_ap, aCons_ap, eTup_ap, eLst_ap, cTest_ap, cTru_ap, cAnd_ap, cOr_ap, cNot_ap, cYes_ap, eIf_ap, eAnd_ap, eOr_ap, eNot_ap, eSl_ap, oNone_ap, oSome_ap, iRg1_ap, iRg2_ap, iAnyF_ap, eLm1_ap, eChain_ap, eDnew_ap, pNil_ap, pCons_ap, eDisp_ap, eGd_ap, bx_int, bx_str, bx_bl, bx_non, bx_tup, bx_rol, bx_obj, bx_ref, bx_lst, tru_bl, Sm.sl_tup, get_lst, get_tup, len_tup, R.bind_ok, R.bind_exc, toS_ok, toS_exc, then_nx, then_rt, then_bk, then_ct, then_exc, add_ii, sub_ii, mul_r, mod_ii, fdiv_ii, pow_ii, lt_ii, le_ii, gt_ii, ge_ii, eq_ii, ne_ii, eq_ss, ne_ss, eq_tz, eq_lz, isi_non, isi_bl, isi_int, isi_str, isi_tup, subB, get_tup0, w, wordB, len_str hz, h1, k1, all_bl]
  · have e1 := isi_of (d := "str") e
    simp [c_is_name, eVar0, eUn_ap, R.bind_ok, e1, k4, sSeq_ap, sIf_ap, then_rt, cOr_ap, cNot_ap, cTru_ap, sRet_ap, eC_ap, toS_ok, tru_bl, subB]
  · have e1 := isi_of (d := "str") e
    simp [c_is_name, eVar0, eUn_ap, R.bind_ok, e1, k4, sSeq_ap, sIf_ap, then_rt, cOr_ap, cNot_ap, cTru_ap, sRet_ap, eC_ap, toS_ok, tru_bl, subB]
theorem word_eq {h : Hs} {x : A} (k : okE h x) : m__law_word_ok [x] h = .ok (.bl (wordB x)) h := by
  refine mDef_rt ?_
  show c__law_word_ok [some x, none] h = _
  rcases k.cases with rfl | ⟨b, rfl⟩ | ⟨i, rfl⟩ | ⟨z, rfl, hz⟩ | ⟨xs, rfl⟩ | ⟨e | e, k1, k2, k3, k4, k5⟩
  all_goals first | rfl | skip
  · have w : eLc (iAnyF (eVar 0)) (gNm 1) z__law_word_ok_0 (eVar 1) [1] [some (.str z), none] h = .ok (.lst ((z.cps.toList.filter fun c => !letB c).map fun c => .str ⟨#[c]⟩)) h :=
      lc_eq (fun c => A.str ⟨#[c]⟩) (fun c => !letB c) (fun c => A.str ⟨#[c]⟩) rfl hz fun c _ => ⟨_, rfl, rfl, fun _ => rfl⟩
    by_cases h1 : 1 ≤ z.length
    · by_cases h2 : z.length ≤ 8
      · have k1 : (1 : Int) ≤ z.length := by omega
        have k2 : (z.length : Int) ≤ 8 := by omega
        have w2 : eqA (.lst ((z.cps.toList.filter fun c => !letB c).map fun c => .str ⟨#[c]⟩)) (.lst []) h = .ok (.bl (z.cps.toList.all letB)) h := by rw [eq_lz, empty_all]
        simp [c__law_word_ok, sSeq_ap, sIf_ap, sSet_ap, sRet_ap, sExpr_ap, sNext_ap, sFor_ap, sSetIx_ap, eOp_ap, eUn_ap, eC_ap, eVar0, eVar_1, eVar_2, eVar_3, eVar_4, eVar_5, eVar_6, eVar_7, eVar_8, eVar_9, eCall_ap, aNil_ap, aCons_ap, eTup_ap, eLst_ap, cTest_ap, cTru_ap, cAnd_ap, cOr_ap, cNot_ap, cYes_ap, eIf_ap, eAnd_ap, eOr_ap, eNot_ap, eSl_ap, oNone_ap, oSome_ap, iRg1_ap, iRg2_ap, iAnyF_ap, eLm1_ap, eChain_ap, eDnew_ap, pNil_ap, pCons_ap, eDisp_ap, eGd_ap, bx_int, bx_str, bx_bl, bx_non, bx_tup, bx_rol, bx_obj, bx_ref, bx_lst, tru_bl, Sm.sl_tup, get_lst, get_tup, len_tup, R.bind_ok, R.bind_exc, toS_ok, toS_exc, then_nx, then_rt, then_bk, then_ct, then_exc, add_ii, sub_ii, mul_r, mod_ii, fdiv_ii, pow_ii, lt_ii, le_ii, gt_ii, ge_ii, eq_ii, ne_ii, eq_ss, ne_ss, eq_tz, eq_lz, isi_non, isi_bl, isi_int, isi_str, isi_tup, subB, get_tup0, -eq_lz, w, w2, wordB, len_str hz, h1, h2, k1, k2]
      · have k1 : (1 : Int) ≤ z.length := by omega
        have k2 : ¬ (z.length : Int) ≤ 8 := by omega
        simp [c__law_word_ok, sSeq_ap, sIf_ap, sSet_ap, sRet_ap, sExpr_ap, sNext_ap, sFor_ap, sSetIx_ap, eOp_ap, eUn_ap, eC_ap, eVar0, eVar_1, eVar_2, eVar_3, eVar_4, eVar_5, eVar_6, eVar_7, eVar_8, eVar_9, eCall_ap, aNil_ap, aCons_ap, eTup_ap, eLst_ap, cTest_ap, cTru_ap, cAnd_ap, cOr_ap, cNot_ap, cYes_ap, eIf_ap, eAnd_ap, eOr_ap, eNot_ap, eSl_ap, oNone_ap, oSome_ap, iRg1_ap, iRg2_ap, iAnyF_ap, eLm1_ap, eChain_ap, eDnew_ap, pNil_ap, pCons_ap, eDisp_ap, eGd_ap, bx_int, bx_str, bx_bl, bx_non, bx_tup, bx_rol, bx_obj, bx_ref, bx_lst, tru_bl, Sm.sl_tup, get_lst, get_tup, len_tup, R.bind_ok, R.bind_exc, toS_ok, toS_exc, then_nx, then_rt, then_bk, then_ct, then_exc, add_ii, sub_ii, mul_r, mod_ii, fdiv_ii, pow_ii, lt_ii, le_ii, gt_ii, ge_ii, eq_ii, ne_ii, eq_ss, ne_ss, eq_tz, eq_lz, isi_non, isi_bl, isi_int, isi_str, isi_tup, subB, get_tup0, w, wordB, len_str hz, h1, h2, k1, k2]
    · have k1 : ¬ (1 : Int) ≤ z.length := by omega
      simp [c__law_word_ok, sSeq_ap, sIf_ap, sSet_ap, sRet_ap, sExpr_ap, sNext_ap, sFor_ap, sSetIx_ap, eOp_ap, eUn_ap, eC_ap, eVar0, eVar_1, eVar_2, eVar_3, eVar_4, eVar_5, eVar_6, eVar_7, eVar_8, eVar_9, eCall_ap, aNil_ap, aCons_ap, eTup_ap, eLst_ap, cTest_ap, cTru_ap, cAnd_ap, cOr_ap, cNot_ap, cYes_ap, eIf_ap, eAnd_ap, eOr_ap, eNot_ap, eSl_ap, oNone_ap, oSome_ap, iRg1_ap, iRg2_ap, iAnyF_ap, eLm1_ap, eChain_ap, eDnew_ap, pNil_ap, pCons_ap, eDisp_ap, eGd_ap, bx_int, bx_str, bx_bl, bx_non, bx_tup, bx_rol, bx_obj, bx_ref, bx_lst, tru_bl, Sm.sl_tup, get_lst, get_tup, len_tup, R.bind_ok, R.bind_exc, toS_ok, toS_exc, then_nx, then_rt, then_bk, then_ct, then_exc, add_ii, sub_ii, mul_r, mod_ii, fdiv_ii, pow_ii, lt_ii, le_ii, gt_ii, ge_ii, eq_ii, ne_ii, eq_ss, ne_ss, eq_tz, eq_lz, isi_non, isi_bl, isi_int, isi_str, isi_tup, subB, get_tup0, w, wordB, len_str hz, h1, k1]
  · have e1 := isi_of (d := "str") e
    simp [c__law_word_ok, eVar0, eUn_ap, R.bind_ok, e1, k4, sSeq_ap, sIf_ap, then_rt, cOr_ap, cNot_ap, cTru_ap, sRet_ap, eC_ap, toS_ok, tru_bl, subB]
  · have e1 := isi_of (d := "str") e
    simp [c__law_word_ok, eVar0, eUn_ap, R.bind_ok, e1, k4, sSeq_ap, sIf_ap, then_rt, cOr_ap, cNot_ap, cTru_ap, sRet_ap, eC_ap, toS_ok, tru_bl, subB]
def lensL : List (A × A) := [(.str "open", .int 2), (.str "close", .int 2), (.str "renew", .int 2), (.str "use", .int 2), (.str "set", .int 3), (.str "drop", .int 2), (.str "lock", .int 2), (.str "unlock", .int 2), (.str "rest", .int 1)]
theorem lens_eq : ([(.str "open", .int 2), (.str "close", .int 2), (.str "renew", .int 2), (.str "use", .int 2), (.str "set", .int 3), (.str "drop", .int 2), (.str "lock", .int 2), (.str "unlock", .int 2), (.str "rest", .int 1)] : List (A × A)).foldl (fun acc p => putA acc p.1 p.2) [] = lensL := by rfl
def numA (o : Option A) : Option Int := match o with
  | some (.int n) => some n
  | _ => none
theorem sizes_cases (s : Str) : (∃ n : Int, v_SIZES.lookup s = some (.int n) ∧ valA lensL (.str s) = some (.int n) ∧ (v_WORDS.any fun y => eqF y (.str s)) = true ∧ s ≠ "go") ∨ s = "go" ∨ (v_SIZES.lookup s = none ∧ valA lensL (.str s) = none ∧ (v_WORDS.any fun y => eqF y (.str s)) = false ∧ s ≠ "go") := by
  by_cases e1 : s = "open"
  · subst e1; exact .inl ⟨2, rfl, rfl, rfl, by decide⟩
  by_cases e2 : s = "close"
  · subst e2; exact .inl ⟨2, rfl, rfl, rfl, by decide⟩
  by_cases e3 : s = "renew"
  · subst e3; exact .inl ⟨2, rfl, rfl, rfl, by decide⟩
  by_cases e4 : s = "use"
  · subst e4; exact .inl ⟨2, rfl, rfl, rfl, by decide⟩
  by_cases e5 : s = "set"
  · subst e5; exact .inl ⟨3, rfl, rfl, rfl, by decide⟩
  by_cases e6 : s = "drop"
  · subst e6; exact .inl ⟨2, rfl, rfl, rfl, by decide⟩
  by_cases e7 : s = "lock"
  · subst e7; exact .inl ⟨2, rfl, rfl, rfl, by decide⟩
  by_cases e8 : s = "unlock"
  · subst e8; exact .inl ⟨2, rfl, rfl, rfl, by decide⟩
  by_cases e9 : s = "rest"
  · subst e9; exact .inl ⟨1, rfl, rfl, rfl, by decide⟩
  by_cases e0 : s = "go"
  · exact .inr (.inl e0)
  have n1 := Ne.symm e1
  have b1 : (s == _) = false := beq_false_of_ne e1
  have n2 := Ne.symm e2
  have b2 : (s == _) = false := beq_false_of_ne e2
  have n3 := Ne.symm e3
  have b3 : (s == _) = false := beq_false_of_ne e3
  have n4 := Ne.symm e4
  have b4 : (s == _) = false := beq_false_of_ne e4
  have n5 := Ne.symm e5
  have b5 : (s == _) = false := beq_false_of_ne e5
  have n6 := Ne.symm e6
  have b6 : (s == _) = false := beq_false_of_ne e6
  have n7 := Ne.symm e7
  have b7 : (s == _) = false := beq_false_of_ne e7
  have n8 := Ne.symm e8
  have b8 : (s == _) = false := beq_false_of_ne e8
  have n9 := Ne.symm e9
  have b9 : (s == _) = false := beq_false_of_ne e9
  have n0 := Ne.symm e0
  refine .inr (.inr ⟨?_, ?_, ?_, e0⟩)
  · simp [v_SIZES, List.lookup, b1, b2, b3, b4, b5, b6, b7, b8, b9]
  · simp [lensL, valA, keyB, n1, n2, n3, n4, n5, n6, n7, n8, n9]
  · simp [v_WORDS, eqF, n1, n2, n3, n4, n5, n6, n7, n8, n9, n0]
def rowB : A → Bool
  | .tup (.str s :: xs) => if s = "go" then decide (1 ≤ xs.length ∧ xs.length ≤ 4) && xs.all cntB else match numA (v_SIZES.lookup s) with
    | some n => decide ((xs.length : Int) + 1 = n) && xs.all wordB
    | none => false
  | _ => false
theorem cut1 (x : A) (xs : List A) : cutA (x :: xs) (some 1) none = xs := by
  unfold cutA
  have e : HT.sIx (x :: xs).length 0 (some 1) = 1 := by
    show min 1 (xs.length + 1) = 1
    omega
  rw [e]
  show (List.drop 1 (x :: xs)).take ((xs.length + 1) - 1) = xs
  simp
def okVal (h : Hs) (x : A) : Prop := okE h x ∧ ∀ xs, x = .tup xs → xs.length ≤ 16777216 ∧ ∀ y ∈ xs, okE h y
theorem inW {s : Str} {h : Hs} : inB (.str s) (.tup v_WORDS) h = some (v_WORDS.any fun y => eqF y (.str s)) := rfl
theorem row_eq {h : Hs} {x : A} (k : okVal h x) : m_is_row [x] h = .ok (.bl (rowB x)) h := by
  refine mDef_rt ?_
  show c_is_row [some x, none, none] h = _
  rcases k.1.cases with rfl | ⟨b, rfl⟩ | ⟨i, rfl⟩ | ⟨z, rfl, hz⟩ | ⟨xs, rfl⟩ | ⟨e, k1, k2, k3, k4, k5⟩
  all_goals first | rfl | skip
  · obtain ⟨hl, hy⟩ := k.2 xs rfl
    cases xs with
    | nil => rfl
    | cons y ys =>
      have hy0 := hy y (List.mem_cons_self ..)
      have hl2 : ys.length ≤ 16777216 := by simp at hl; omega
      have hys : ∀ z ∈ ys, okE h z := fun z hz => hy z (List.mem_cons_of_mem _ hz)
      by_cases hs : ∃ z, y = .str z
      · obtain ⟨z, rfl⟩ := hs
        have w1 : eLc (iAnyF (eSl (eVar 0) (oSome (eC (.int 1))) oNone)) (gNm 1) cYes y_is_row_0 [1] [some (.tup (.str z :: ys)), none, none] h = .ok (.lst (ys.map fun y => .bl (cntB y))) h :=
          lc_eqT id (fun y => .bl (cntB y)) (by simp [sSeq_ap, sIf_ap, sSet_ap, sRet_ap, sExpr_ap, sNext_ap, sFor_ap, sSetIx_ap, eOp_ap, eUn_ap, eC_ap, eVar0, eVar_1, eVar_2, eVar_3, eVar_4, eVar_5, eVar_6, eVar_7, eVar_8, eVar_9, eCall_ap, aNil_ap, aCons_ap, eTup_ap, eLst_ap, cTest_ap, cTru_ap, cAnd_ap, cOr_ap, cNot_ap, cYes_ap, eIf_ap, eAnd_ap, eOr_ap, eNot_ap, eSl_ap, oNone_ap, oSome_ap, iRg1_ap, iRg2_ap, iAnyF_ap, eLm1_ap, eChain_ap, eDnew_ap, pNil_ap, pCons_ap, eDisp_ap, eGd_ap, bx_int, bx_str, bx_bl, bx_non, bx_tup, bx_rol, bx_obj, bx_ref, bx_lst, tru_bl, Sm.sl_tup, get_lst, get_tup, len_tup, R.bind_ok, R.bind_exc, toS_ok, toS_exc, then_nx, then_rt, then_bk, then_ct, then_exc, add_ii, sub_ii, mul_r, mod_ii, fdiv_ii, pow_ii, lt_ii, le_ii, gt_ii, ge_ii, eq_ii, ne_ii, eq_ss, ne_ss, eq_tz, eq_lz, isi_non, isi_bl, isi_int, isi_str, isi_tup, subB, get_tup0, itA, cut1]) hl2 fun c hc => ⟨_, rfl, by
            show (y_is_row_0 [some (.tup (.str z :: ys)), some c, none] h).bind bx = _
            simp [y_is_row_0, sSeq_ap, sIf_ap, sSet_ap, sRet_ap, sExpr_ap, sNext_ap, sFor_ap, sSetIx_ap, eOp_ap, eUn_ap, eC_ap, eVar0, eVar_1, eVar_2, eVar_3, eVar_4, eVar_5, eVar_6, eVar_7, eVar_8, eVar_9, eCall_ap, aNil_ap, aCons_ap, eTup_ap, eLst_ap, cTest_ap, cTru_ap, cAnd_ap, cOr_ap, cNot_ap, cYes_ap, eIf_ap, eAnd_ap, eOr_ap, eNot_ap, eSl_ap, oNone_ap, oSome_ap, iRg1_ap, iRg2_ap, iAnyF_ap, eLm1_ap, eChain_ap, eDnew_ap, pNil_ap, pCons_ap, eDisp_ap, eGd_ap, bx_int, bx_str, bx_bl, bx_non, bx_tup, bx_rol, bx_obj, bx_ref, bx_lst, tru_bl, Sm.sl_tup, get_lst, get_tup, len_tup, R.bind_ok, R.bind_exc, toS_ok, toS_exc, then_nx, then_rt, then_bk, then_ct, then_exc, add_ii, sub_ii, mul_r, mod_ii, fdiv_ii, pow_ii, lt_ii, le_ii, gt_ii, ge_ii, eq_ii, ne_ii, eq_ss, ne_ss, eq_tz, eq_lz, isi_non, isi_bl, isi_int, isi_str, isi_tup, subB, get_tup0, bx_no (hys c hc).2.2, count_eq (hys c hc)]⟩
        have w2 : eLc (iAnyF (eSl (eVar 0) (oSome (eC (.int 1))) oNone)) (gNm 2) cYes y_is_row_1 [2] [some (.tup (.str z :: ys)), none, none] h = .ok (.lst (ys.map fun y => .bl (wordB y))) h :=
          lc_eqT id (fun y => .bl (wordB y)) (by simp [sSeq_ap, sIf_ap, sSet_ap, sRet_ap, sExpr_ap, sNext_ap, sFor_ap, sSetIx_ap, eOp_ap, eUn_ap, eC_ap, eVar0, eVar_1, eVar_2, eVar_3, eVar_4, eVar_5, eVar_6, eVar_7, eVar_8, eVar_9, eCall_ap, aNil_ap, aCons_ap, eTup_ap, eLst_ap, cTest_ap, cTru_ap, cAnd_ap, cOr_ap, cNot_ap, cYes_ap, eIf_ap, eAnd_ap, eOr_ap, eNot_ap, eSl_ap, oNone_ap, oSome_ap, iRg1_ap, iRg2_ap, iAnyF_ap, eLm1_ap, eChain_ap, eDnew_ap, pNil_ap, pCons_ap, eDisp_ap, eGd_ap, bx_int, bx_str, bx_bl, bx_non, bx_tup, bx_rol, bx_obj, bx_ref, bx_lst, tru_bl, Sm.sl_tup, get_lst, get_tup, len_tup, R.bind_ok, R.bind_exc, toS_ok, toS_exc, then_nx, then_rt, then_bk, then_ct, then_exc, add_ii, sub_ii, mul_r, mod_ii, fdiv_ii, pow_ii, lt_ii, le_ii, gt_ii, ge_ii, eq_ii, ne_ii, eq_ss, ne_ss, eq_tz, eq_lz, isi_non, isi_bl, isi_int, isi_str, isi_tup, subB, get_tup0, itA, cut1]) hl2 fun c hc => ⟨_, rfl, by
            show (y_is_row_1 [some (.tup (.str z :: ys)), none, some c] h).bind bx = _
            simp [y_is_row_1, sSeq_ap, sIf_ap, sSet_ap, sRet_ap, sExpr_ap, sNext_ap, sFor_ap, sSetIx_ap, eOp_ap, eUn_ap, eC_ap, eVar0, eVar_1, eVar_2, eVar_3, eVar_4, eVar_5, eVar_6, eVar_7, eVar_8, eVar_9, eCall_ap, aNil_ap, aCons_ap, eTup_ap, eLst_ap, cTest_ap, cTru_ap, cAnd_ap, cOr_ap, cNot_ap, cYes_ap, eIf_ap, eAnd_ap, eOr_ap, eNot_ap, eSl_ap, oNone_ap, oSome_ap, iRg1_ap, iRg2_ap, iAnyF_ap, eLm1_ap, eChain_ap, eDnew_ap, pNil_ap, pCons_ap, eDisp_ap, eGd_ap, bx_int, bx_str, bx_bl, bx_non, bx_tup, bx_rol, bx_obj, bx_ref, bx_lst, tru_bl, Sm.sl_tup, get_lst, get_tup, len_tup, R.bind_ok, R.bind_exc, toS_ok, toS_exc, then_nx, then_rt, then_bk, then_ct, then_exc, add_ii, sub_ii, mul_r, mod_ii, fdiv_ii, pow_ii, lt_ii, le_ii, gt_ii, ge_ii, eq_ii, ne_ii, eq_ss, ne_ss, eq_tz, eq_lz, isi_non, isi_bl, isi_int, isi_str, isi_tup, subB, get_tup0, bx_no (hys c hc).2.2, name_eq (hys c hc)]⟩
        rcases sizes_cases z with ⟨n, q1, q2, q3, q4⟩ | rfl | ⟨q1, q2, q3, q4⟩
        · by_cases hn : (ys.length : Int) + 1 = n
          · simp [c_is_row, sSeq_ap, sIf_ap, sSet_ap, sRet_ap, sExpr_ap, sNext_ap, sFor_ap, sSetIx_ap, eOp_ap, eUn_ap, eC_ap, eVar0, eVar_1, eVar_2, eVar_3, eVar_4, eVar_5, eVar_6, eVar_7, eVar_8, eVar_9, eCall_ap, aNil_ap, aCons_ap, eTup_ap, eLst_ap, cTest_ap, cTru_ap, cAnd_ap, cOr_ap, cNot_ap, cYes_ap, eIf_ap, eAnd_ap, eOr_ap, eNot_ap, eSl_ap, oNone_ap, oSome_ap, iRg1_ap, iRg2_ap, iAnyF_ap, eLm1_ap, eChain_ap, eDnew_ap, pNil_ap, pCons_ap, eDisp_ap, eGd_ap, bx_int, bx_str, bx_bl, bx_non, bx_tup, bx_rol, bx_obj, bx_ref, bx_lst, tru_bl, Sm.sl_tup, get_lst, get_tup, len_tup, R.bind_ok, R.bind_exc, toS_ok, toS_exc, then_nx, then_rt, then_bk, then_ct, then_exc, add_ii, sub_ii, mul_r, mod_ii, fdiv_ii, pow_ii, lt_ii, le_ii, gt_ii, ge_ii, eq_ii, ne_ii, eq_ss, ne_ss, eq_tz, eq_lz, isi_non, isi_bl, isi_int, isi_str, isi_tup, subB, get_tup0, notinA, inW, q1, q3, q4, w1, w2, all_bl, rowB, numA, hn]
          · simp [c_is_row, sSeq_ap, sIf_ap, sSet_ap, sRet_ap, sExpr_ap, sNext_ap, sFor_ap, sSetIx_ap, eOp_ap, eUn_ap, eC_ap, eVar0, eVar_1, eVar_2, eVar_3, eVar_4, eVar_5, eVar_6, eVar_7, eVar_8, eVar_9, eCall_ap, aNil_ap, aCons_ap, eTup_ap, eLst_ap, cTest_ap, cTru_ap, cAnd_ap, cOr_ap, cNot_ap, cYes_ap, eIf_ap, eAnd_ap, eOr_ap, eNot_ap, eSl_ap, oNone_ap, oSome_ap, iRg1_ap, iRg2_ap, iAnyF_ap, eLm1_ap, eChain_ap, eDnew_ap, pNil_ap, pCons_ap, eDisp_ap, eGd_ap, bx_int, bx_str, bx_bl, bx_non, bx_tup, bx_rol, bx_obj, bx_ref, bx_lst, tru_bl, Sm.sl_tup, get_lst, get_tup, len_tup, R.bind_ok, R.bind_exc, toS_ok, toS_exc, then_nx, then_rt, then_bk, then_ct, then_exc, add_ii, sub_ii, mul_r, mod_ii, fdiv_ii, pow_ii, lt_ii, le_ii, gt_ii, ge_ii, eq_ii, ne_ii, eq_ss, ne_ss, eq_tz, eq_lz, isi_non, isi_bl, isi_int, isi_str, isi_tup, subB, get_tup0, notinA, inW, q1, q3, q4, w1, w2, all_bl, rowB, numA, hn]
        · have q3 : (v_WORDS.any fun y => eqF y (.str "go")) = true := rfl
          by_cases h1 : 1 ≤ ys.length
          · by_cases h2 : ys.length ≤ 4
            · have k1 : (2 : Int) ≤ ys.length + 1 := by omega
              have k2 : (ys.length : Int) + 1 ≤ 5 := by omega
              simp [c_is_row, sSeq_ap, sIf_ap, sSet_ap, sRet_ap, sExpr_ap, sNext_ap, sFor_ap, sSetIx_ap, eOp_ap, eUn_ap, eC_ap, eVar0, eVar_1, eVar_2, eVar_3, eVar_4, eVar_5, eVar_6, eVar_7, eVar_8, eVar_9, eCall_ap, aNil_ap, aCons_ap, eTup_ap, eLst_ap, cTest_ap, cTru_ap, cAnd_ap, cOr_ap, cNot_ap, cYes_ap, eIf_ap, eAnd_ap, eOr_ap, eNot_ap, eSl_ap, oNone_ap, oSome_ap, iRg1_ap, iRg2_ap, iAnyF_ap, eLm1_ap, eChain_ap, eDnew_ap, pNil_ap, pCons_ap, eDisp_ap, eGd_ap, bx_int, bx_str, bx_bl, bx_non, bx_tup, bx_rol, bx_obj, bx_ref, bx_lst, tru_bl, Sm.sl_tup, get_lst, get_tup, len_tup, R.bind_ok, R.bind_exc, toS_ok, toS_exc, then_nx, then_rt, then_bk, then_ct, then_exc, add_ii, sub_ii, mul_r, mod_ii, fdiv_ii, pow_ii, lt_ii, le_ii, gt_ii, ge_ii, eq_ii, ne_ii, eq_ss, ne_ss, eq_tz, eq_lz, isi_non, isi_bl, isi_int, isi_str, isi_tup, subB, get_tup0, notinA, inW, q3, w1, w2, all_bl, rowB, h1, h2, k1, k2]
            · have k1 : (2 : Int) ≤ ys.length + 1 := by omega
              have k2 : ¬ (ys.length : Int) + 1 ≤ 5 := by omega
              simp [c_is_row, sSeq_ap, sIf_ap, sSet_ap, sRet_ap, sExpr_ap, sNext_ap, sFor_ap, sSetIx_ap, eOp_ap, eUn_ap, eC_ap, eVar0, eVar_1, eVar_2, eVar_3, eVar_4, eVar_5, eVar_6, eVar_7, eVar_8, eVar_9, eCall_ap, aNil_ap, aCons_ap, eTup_ap, eLst_ap, cTest_ap, cTru_ap, cAnd_ap, cOr_ap, cNot_ap, cYes_ap, eIf_ap, eAnd_ap, eOr_ap, eNot_ap, eSl_ap, oNone_ap, oSome_ap, iRg1_ap, iRg2_ap, iAnyF_ap, eLm1_ap, eChain_ap, eDnew_ap, pNil_ap, pCons_ap, eDisp_ap, eGd_ap, bx_int, bx_str, bx_bl, bx_non, bx_tup, bx_rol, bx_obj, bx_ref, bx_lst, tru_bl, Sm.sl_tup, get_lst, get_tup, len_tup, R.bind_ok, R.bind_exc, toS_ok, toS_exc, then_nx, then_rt, then_bk, then_ct, then_exc, add_ii, sub_ii, mul_r, mod_ii, fdiv_ii, pow_ii, lt_ii, le_ii, gt_ii, ge_ii, eq_ii, ne_ii, eq_ss, ne_ss, eq_tz, eq_lz, isi_non, isi_bl, isi_int, isi_str, isi_tup, subB, get_tup0, notinA, inW, q3, w1, w2, all_bl, rowB, h1, h2, k1, k2]
          · have k1 : ¬ (2 : Int) ≤ ys.length + 1 := by omega
            simp [c_is_row, sSeq_ap, sIf_ap, sSet_ap, sRet_ap, sExpr_ap, sNext_ap, sFor_ap, sSetIx_ap, eOp_ap, eUn_ap, eC_ap, eVar0, eVar_1, eVar_2, eVar_3, eVar_4, eVar_5, eVar_6, eVar_7, eVar_8, eVar_9, eCall_ap, aNil_ap, aCons_ap, eTup_ap, eLst_ap, cTest_ap, cTru_ap, cAnd_ap, cOr_ap, cNot_ap, cYes_ap, eIf_ap, eAnd_ap, eOr_ap, eNot_ap, eSl_ap, oNone_ap, oSome_ap, iRg1_ap, iRg2_ap, iAnyF_ap, eLm1_ap, eChain_ap, eDnew_ap, pNil_ap, pCons_ap, eDisp_ap, eGd_ap, bx_int, bx_str, bx_bl, bx_non, bx_tup, bx_rol, bx_obj, bx_ref, bx_lst, tru_bl, Sm.sl_tup, get_lst, get_tup, len_tup, R.bind_ok, R.bind_exc, toS_ok, toS_exc, then_nx, then_rt, then_bk, then_ct, then_exc, add_ii, sub_ii, mul_r, mod_ii, fdiv_ii, pow_ii, lt_ii, le_ii, gt_ii, ge_ii, eq_ii, ne_ii, eq_ss, ne_ss, eq_tz, eq_lz, isi_non, isi_bl, isi_int, isi_str, isi_tup, subB, get_tup0, notinA, inW, q3, w1, w2, all_bl, rowB, h1, k1]
        · simp [c_is_row, sSeq_ap, sIf_ap, sSet_ap, sRet_ap, sExpr_ap, sNext_ap, sFor_ap, sSetIx_ap, eOp_ap, eUn_ap, eC_ap, eVar0, eVar_1, eVar_2, eVar_3, eVar_4, eVar_5, eVar_6, eVar_7, eVar_8, eVar_9, eCall_ap, aNil_ap, aCons_ap, eTup_ap, eLst_ap, cTest_ap, cTru_ap, cAnd_ap, cOr_ap, cNot_ap, cYes_ap, eIf_ap, eAnd_ap, eOr_ap, eNot_ap, eSl_ap, oNone_ap, oSome_ap, iRg1_ap, iRg2_ap, iAnyF_ap, eLm1_ap, eChain_ap, eDnew_ap, pNil_ap, pCons_ap, eDisp_ap, eGd_ap, bx_int, bx_str, bx_bl, bx_non, bx_tup, bx_rol, bx_obj, bx_ref, bx_lst, tru_bl, Sm.sl_tup, get_lst, get_tup, len_tup, R.bind_ok, R.bind_exc, toS_ok, toS_exc, then_nx, then_rt, then_bk, then_ct, then_exc, add_ii, sub_ii, mul_r, mod_ii, fdiv_ii, pow_ii, lt_ii, le_ii, gt_ii, ge_ii, eq_ii, ne_ii, eq_ss, ne_ss, eq_tz, eq_lz, isi_non, isi_bl, isi_int, isi_str, isi_tup, subB, get_tup0, notinA, inW, q1, q3, q4, w1, w2, all_bl, rowB, numA]
      · have e1 : isiA "str" y h = .ok (.bl false) h := by
          rcases hy0.cases with rfl | ⟨b, rfl⟩ | ⟨i, rfl⟩ | ⟨z, rfl, hz⟩ | ⟨xs, rfl⟩ | ⟨e | e, k1, k2, k3, k4, k5⟩
          all_goals first | rfl | exact isi_of e | exact absurd ⟨_, rfl⟩ hs
        have e2 : rowB (.tup (y :: ys)) = false := by
          cases y with
          | str z => exact absurd ⟨_, rfl⟩ hs
          | _ => rfl
        simp [c_is_row, sSeq_ap, sIf_ap, sSet_ap, sRet_ap, sExpr_ap, sNext_ap, sFor_ap, sSetIx_ap, eOp_ap, eUn_ap, eC_ap, eVar0, eVar_1, eVar_2, eVar_3, eVar_4, eVar_5, eVar_6, eVar_7, eVar_8, eVar_9, eCall_ap, aNil_ap, aCons_ap, eTup_ap, eLst_ap, cTest_ap, cTru_ap, cAnd_ap, cOr_ap, cNot_ap, cYes_ap, eIf_ap, eAnd_ap, eOr_ap, eNot_ap, eSl_ap, oNone_ap, oSome_ap, iRg1_ap, iRg2_ap, iAnyF_ap, eLm1_ap, eChain_ap, eDnew_ap, pNil_ap, pCons_ap, eDisp_ap, eGd_ap, bx_int, bx_str, bx_bl, bx_non, bx_tup, bx_rol, bx_obj, bx_ref, bx_lst, tru_bl, Sm.sl_tup, get_lst, get_tup, len_tup, R.bind_ok, R.bind_exc, toS_ok, toS_exc, then_nx, then_rt, then_bk, then_ct, then_exc, add_ii, sub_ii, mul_r, mod_ii, fdiv_ii, pow_ii, lt_ii, le_ii, gt_ii, ge_ii, eq_ii, ne_ii, eq_ss, ne_ss, eq_tz, eq_lz, isi_non, isi_bl, isi_int, isi_str, isi_tup, subB, get_tup0, e1, e2]
  · have e1 : isiA "tuple" x h = .ok (.bl false) h := by rcases e with e | e <;> exact isi_of e
    have e2 : rowB x = false := by
      cases x with
      | tup xs => exact absurd rfl (k5 xs)
      | _ => rfl
    simp [c_is_row, sSeq_ap, sIf_ap, sSet_ap, sRet_ap, sExpr_ap, sNext_ap, sFor_ap, sSetIx_ap, eOp_ap, eUn_ap, eC_ap, eVar0, eVar_1, eVar_2, eVar_3, eVar_4, eVar_5, eVar_6, eVar_7, eVar_8, eVar_9, eCall_ap, aNil_ap, aCons_ap, eTup_ap, eLst_ap, cTest_ap, cTru_ap, cAnd_ap, cOr_ap, cNot_ap, cYes_ap, eIf_ap, eAnd_ap, eOr_ap, eNot_ap, eSl_ap, oNone_ap, oSome_ap, iRg1_ap, iRg2_ap, iAnyF_ap, eLm1_ap, eChain_ap, eDnew_ap, pNil_ap, pCons_ap, eDisp_ap, eGd_ap, bx_int, bx_str, bx_bl, bx_non, bx_tup, bx_rol, bx_obj, bx_ref, bx_lst, tru_bl, Sm.sl_tup, get_lst, get_tup, len_tup, R.bind_ok, R.bind_exc, toS_ok, toS_exc, then_nx, then_rt, then_bk, then_ct, then_exc, add_ii, sub_ii, mul_r, mod_ii, fdiv_ii, pow_ii, lt_ii, le_ii, gt_ii, ge_ii, eq_ii, ne_ii, eq_ss, ne_ss, eq_tz, eq_lz, isi_non, isi_bl, isi_int, isi_str, isi_tup, subB, get_tup0, e1, e2]
theorem okE.mono {h g : Hs} {x : A} (k : okE h x) : okE (h ++ g) x := by
  refine ⟨?_, k.2⟩
  obtain ⟨t, e⟩ := k.1
  cases x with
  | ref n =>
    refine ⟨t, ?_⟩
    simp only [tyN] at e ⊢
    cases e1 : h[n]? with
    | none => simp [e1] at e
    | some o =>
      have hn : n < h.length := (List.getElem?_eq_some_iff.mp e1).1
      rw [List.getElem?_append_left hn, e1]
      rw [e1] at e
      exact e
  | _ => exact ⟨t, e⟩
theorem get_last {h : Hs} {kvs : List (A × A)} {y : A} : getA (.ref h.length) y (h ++ [.dct kvs]) = if isKey y = true then (match valA kvs y with
    | some v => .ok v (h ++ [.dct kvs])
    | none => .stuck) else .stuck := by
  simp only [getA, dctOf]
  simp <;> rfl
theorem in_last {h : Hs} {kvs : List (A × A)} {s : Str} : notinA (.str s) (.ref h.length) (h ++ [.dct kvs]) = .ok (.bl (!(valA kvs (.str s)).isSome)) (h ++ [.dct kvs]) := by
  simp [notinA, inB, seqOf, rlist, mlist, dctOf, isKey]
theorem lrow_eq {h : Hs} {x : A} (k : okVal h x) : m__law_row_ok [x] h = .ok (.bl (rowB x)) (h ++ [.dct lensL]) := by
  refine mDef_rt ?_
  show c__law_row_ok [some x, none, none] h = _
  have hx := bx_no (h := h ++ [.dct lensL]) k.1.2.2
  rcases k.1.cases with rfl | ⟨b, rfl⟩ | ⟨i, rfl⟩ | ⟨z, rfl, hz⟩ | ⟨xs, rfl⟩ | ⟨e, k1, k2, k3, k4, k5⟩
  all_goals first | rfl | skip
  · obtain ⟨hl, hy⟩ := k.2 xs rfl
    cases xs with
    | nil => rfl
    | cons y ys =>
      have hy0 := hy y (List.mem_cons_self ..)
      have hl2 : ys.length ≤ 16777216 := by simp at hl; omega
      have hys : ∀ z ∈ ys, okE (h ++ [.dct lensL]) z := fun z hz => (hy z (List.mem_cons_of_mem _ hz)).mono
      by_cases hs : ∃ z, y = .str z
      · obtain ⟨z, rfl⟩ := hs
        have w1 : eLc (iAnyF (eSl (eVar 0) (oSome (eC (.int 1))) oNone)) (gNm 2) z__law_row_ok_0 (eVar 2) [2] [some (.tup (.str z :: ys)), some (.ref h.length), none] (h ++ [.dct lensL]) = .ok (.lst ((ys.filter fun y => !cntB y).map id)) (h ++ [.dct lensL]) :=
          lc_eq id (fun y => !cntB y) id (by simp [sSeq_ap, sIf_ap, sSet_ap, sRet_ap, sExpr_ap, sNext_ap, sFor_ap, sSetIx_ap, eOp_ap, eUn_ap, eC_ap, eVar0, eVar_1, eVar_2, eVar_3, eVar_4, eVar_5, eVar_6, eVar_7, eVar_8, eVar_9, eCall_ap, aNil_ap, aCons_ap, eTup_ap, eLst_ap, cTest_ap, cTru_ap, cAnd_ap, cOr_ap, cNot_ap, cYes_ap, eIf_ap, eAnd_ap, eOr_ap, eNot_ap, eSl_ap, oNone_ap, oSome_ap, iRg1_ap, iRg2_ap, iAnyF_ap, eLm1_ap, eChain_ap, eDnew_ap, pNil_ap, pCons_ap, eDisp_ap, eGd_ap, bx_int, bx_str, bx_bl, bx_non, bx_tup, bx_rol, bx_obj, bx_ref, bx_lst, tru_bl, Sm.sl_tup, get_lst, get_tup, len_tup, R.bind_ok, R.bind_exc, toS_ok, toS_exc, then_nx, then_rt, then_bk, then_ct, then_exc, add_ii, sub_ii, mul_r, mod_ii, fdiv_ii, pow_ii, lt_ii, le_ii, gt_ii, ge_ii, eq_ii, ne_ii, eq_ss, ne_ss, eq_tz, eq_lz, isi_non, isi_bl, isi_int, isi_str, isi_tup, subB, get_tup0, itA, cut1]) hl2 fun c hc => ⟨_, rfl, by
            show z__law_row_ok_0 [some (.tup (.str z :: ys)), some (.ref h.length), some c] (h ++ [.dct lensL]) = _
            simp [z__law_row_ok_0, sSeq_ap, sIf_ap, sSet_ap, sRet_ap, sExpr_ap, sNext_ap, sFor_ap, sSetIx_ap, eOp_ap, eUn_ap, eC_ap, eVar0, eVar_1, eVar_2, eVar_3, eVar_4, eVar_5, eVar_6, eVar_7, eVar_8, eVar_9, eCall_ap, aNil_ap, aCons_ap, eTup_ap, eLst_ap, cTest_ap, cTru_ap, cAnd_ap, cOr_ap, cNot_ap, cYes_ap, eIf_ap, eAnd_ap, eOr_ap, eNot_ap, eSl_ap, oNone_ap, oSome_ap, iRg1_ap, iRg2_ap, iAnyF_ap, eLm1_ap, eChain_ap, eDnew_ap, pNil_ap, pCons_ap, eDisp_ap, eGd_ap, bx_int, bx_str, bx_bl, bx_non, bx_tup, bx_rol, bx_obj, bx_ref, bx_lst, tru_bl, Sm.sl_tup, get_lst, get_tup, len_tup, R.bind_ok, R.bind_exc, toS_ok, toS_exc, then_nx, then_rt, then_bk, then_ct, then_exc, add_ii, sub_ii, mul_r, mod_ii, fdiv_ii, pow_ii, lt_ii, le_ii, gt_ii, ge_ii, eq_ii, ne_ii, eq_ss, ne_ss, eq_tz, eq_lz, isi_non, isi_bl, isi_int, isi_str, isi_tup, subB, get_tup0, bx_no (hys c hc).2.2, lcount_eq (hys c hc)], fun _ => by
            show R.bind (R.ok c (h ++ [.dct lensL])) bx = _
            simp [sSeq_ap, sIf_ap, sSet_ap, sRet_ap, sExpr_ap, sNext_ap, sFor_ap, sSetIx_ap, eOp_ap, eUn_ap, eC_ap, eVar0, eVar_1, eVar_2, eVar_3, eVar_4, eVar_5, eVar_6, eVar_7, eVar_8, eVar_9, eCall_ap, aNil_ap, aCons_ap, eTup_ap, eLst_ap, cTest_ap, cTru_ap, cAnd_ap, cOr_ap, cNot_ap, cYes_ap, eIf_ap, eAnd_ap, eOr_ap, eNot_ap, eSl_ap, oNone_ap, oSome_ap, iRg1_ap, iRg2_ap, iAnyF_ap, eLm1_ap, eChain_ap, eDnew_ap, pNil_ap, pCons_ap, eDisp_ap, eGd_ap, bx_int, bx_str, bx_bl, bx_non, bx_tup, bx_rol, bx_obj, bx_ref, bx_lst, tru_bl, Sm.sl_tup, get_lst, get_tup, len_tup, R.bind_ok, R.bind_exc, toS_ok, toS_exc, then_nx, then_rt, then_bk, then_ct, then_exc, add_ii, sub_ii, mul_r, mod_ii, fdiv_ii, pow_ii, lt_ii, le_ii, gt_ii, ge_ii, eq_ii, ne_ii, eq_ss, ne_ss, eq_tz, eq_lz, isi_non, isi_bl, isi_int, isi_str, isi_tup, subB, get_tup0, bx_no (hys c hc).2.2]⟩
        have w2 : eLc (iAnyF (eSl (eVar 0) (oSome (eC (.int 1))) oNone)) (gNm 2) z__law_row_ok_1 (eVar 2) [2] [some (.tup (.str z :: ys)), some (.ref h.length), none] (h ++ [.dct lensL]) = .ok (.lst ((ys.filter fun y => !wordB y).map id)) (h ++ [.dct lensL]) :=
          lc_eq id (fun y => !wordB y) id (by simp [sSeq_ap, sIf_ap, sSet_ap, sRet_ap, sExpr_ap, sNext_ap, sFor_ap, sSetIx_ap, eOp_ap, eUn_ap, eC_ap, eVar0, eVar_1, eVar_2, eVar_3, eVar_4, eVar_5, eVar_6, eVar_7, eVar_8, eVar_9, eCall_ap, aNil_ap, aCons_ap, eTup_ap, eLst_ap, cTest_ap, cTru_ap, cAnd_ap, cOr_ap, cNot_ap, cYes_ap, eIf_ap, eAnd_ap, eOr_ap, eNot_ap, eSl_ap, oNone_ap, oSome_ap, iRg1_ap, iRg2_ap, iAnyF_ap, eLm1_ap, eChain_ap, eDnew_ap, pNil_ap, pCons_ap, eDisp_ap, eGd_ap, bx_int, bx_str, bx_bl, bx_non, bx_tup, bx_rol, bx_obj, bx_ref, bx_lst, tru_bl, Sm.sl_tup, get_lst, get_tup, len_tup, R.bind_ok, R.bind_exc, toS_ok, toS_exc, then_nx, then_rt, then_bk, then_ct, then_exc, add_ii, sub_ii, mul_r, mod_ii, fdiv_ii, pow_ii, lt_ii, le_ii, gt_ii, ge_ii, eq_ii, ne_ii, eq_ss, ne_ss, eq_tz, eq_lz, isi_non, isi_bl, isi_int, isi_str, isi_tup, subB, get_tup0, itA, cut1]) hl2 fun c hc => ⟨_, rfl, by
            show z__law_row_ok_1 [some (.tup (.str z :: ys)), some (.ref h.length), some c] (h ++ [.dct lensL]) = _
            simp [z__law_row_ok_1, sSeq_ap, sIf_ap, sSet_ap, sRet_ap, sExpr_ap, sNext_ap, sFor_ap, sSetIx_ap, eOp_ap, eUn_ap, eC_ap, eVar0, eVar_1, eVar_2, eVar_3, eVar_4, eVar_5, eVar_6, eVar_7, eVar_8, eVar_9, eCall_ap, aNil_ap, aCons_ap, eTup_ap, eLst_ap, cTest_ap, cTru_ap, cAnd_ap, cOr_ap, cNot_ap, cYes_ap, eIf_ap, eAnd_ap, eOr_ap, eNot_ap, eSl_ap, oNone_ap, oSome_ap, iRg1_ap, iRg2_ap, iAnyF_ap, eLm1_ap, eChain_ap, eDnew_ap, pNil_ap, pCons_ap, eDisp_ap, eGd_ap, bx_int, bx_str, bx_bl, bx_non, bx_tup, bx_rol, bx_obj, bx_ref, bx_lst, tru_bl, Sm.sl_tup, get_lst, get_tup, len_tup, R.bind_ok, R.bind_exc, toS_ok, toS_exc, then_nx, then_rt, then_bk, then_ct, then_exc, add_ii, sub_ii, mul_r, mod_ii, fdiv_ii, pow_ii, lt_ii, le_ii, gt_ii, ge_ii, eq_ii, ne_ii, eq_ss, ne_ss, eq_tz, eq_lz, isi_non, isi_bl, isi_int, isi_str, isi_tup, subB, get_tup0, bx_no (hys c hc).2.2, word_eq (hys c hc)], fun _ => by
            show R.bind (R.ok c (h ++ [.dct lensL])) bx = _
            simp [sSeq_ap, sIf_ap, sSet_ap, sRet_ap, sExpr_ap, sNext_ap, sFor_ap, sSetIx_ap, eOp_ap, eUn_ap, eC_ap, eVar0, eVar_1, eVar_2, eVar_3, eVar_4, eVar_5, eVar_6, eVar_7, eVar_8, eVar_9, eCall_ap, aNil_ap, aCons_ap, eTup_ap, eLst_ap, cTest_ap, cTru_ap, cAnd_ap, cOr_ap, cNot_ap, cYes_ap, eIf_ap, eAnd_ap, eOr_ap, eNot_ap, eSl_ap, oNone_ap, oSome_ap, iRg1_ap, iRg2_ap, iAnyF_ap, eLm1_ap, eChain_ap, eDnew_ap, pNil_ap, pCons_ap, eDisp_ap, eGd_ap, bx_int, bx_str, bx_bl, bx_non, bx_tup, bx_rol, bx_obj, bx_ref, bx_lst, tru_bl, Sm.sl_tup, get_lst, get_tup, len_tup, R.bind_ok, R.bind_exc, toS_ok, toS_exc, then_nx, then_rt, then_bk, then_ct, then_exc, add_ii, sub_ii, mul_r, mod_ii, fdiv_ii, pow_ii, lt_ii, le_ii, gt_ii, ge_ii, eq_ii, ne_ii, eq_ss, ne_ss, eq_tz, eq_lz, isi_non, isi_bl, isi_int, isi_str, isi_tup, subB, get_tup0, bx_no (hys c hc).2.2]⟩
        rw [List.map_id] at w1 w2
        have e1 : eqA (.lst (ys.filter fun y => !cntB y)) (.lst []) (h ++ [.dct lensL]) = .ok (.bl (ys.all cntB)) (h ++ [.dct lensL]) := by
          have q := empty_all cntB id ys
          rw [List.map_id] at q
          rw [eq_lz, q]
        have e2 : eqA (.lst (ys.filter fun y => !wordB y)) (.lst []) (h ++ [.dct lensL]) = .ok (.bl (ys.all wordB)) (h ++ [.dct lensL]) := by
          have q := empty_all wordB id ys
          rw [List.map_id] at q
          rw [eq_lz, q]
        have es : (sSet 1 (eDisp (pCons (eC (.str "open")) (eC (.int 2)) (pCons (eC (.str "close")) (eC (.int 2)) (pCons (eC (.str "renew")) (eC (.int 2)) (pCons (eC (.str "use")) (eC (.int 2)) (pCons (eC (.str "set")) (eC (.int 3)) (pCons (eC (.str "drop")) (eC (.int 2)) (pCons (eC (.str "lock")) (eC (.int 2)) (pCons (eC (.str "unlock")) (eC (.int 2)) (pCons (eC (.str "rest")) (eC (.int 1)) pNil))))))))))) [some (.tup (.str z :: ys)), none, none] h = .nx [some (.tup (.str z :: ys)), some (.ref h.length), none] (h ++ [.dct lensL]) := rfl
        rcases sizes_cases z with ⟨n, q1, q2, q3, q4⟩ | rfl | ⟨q1, q2, q3, q4⟩
        · by_cases hn : (ys.length : Int) + 1 = n
          · simp [c__law_row_ok, es, sSeq_ap, sIf_ap, sSet_ap, sRet_ap, sExpr_ap, sNext_ap, sFor_ap, sSetIx_ap, eOp_ap, eUn_ap, eC_ap, eVar0, eVar_1, eVar_2, eVar_3, eVar_4, eVar_5, eVar_6, eVar_7, eVar_8, eVar_9, eCall_ap, aNil_ap, aCons_ap, eTup_ap, eLst_ap, cTest_ap, cTru_ap, cAnd_ap, cOr_ap, cNot_ap, cYes_ap, eIf_ap, eAnd_ap, eOr_ap, eNot_ap, eSl_ap, oNone_ap, oSome_ap, iRg1_ap, iRg2_ap, iAnyF_ap, eLm1_ap, eChain_ap, eDnew_ap, pNil_ap, pCons_ap, eDisp_ap, eGd_ap, bx_int, bx_str, bx_bl, bx_non, bx_tup, bx_rol, bx_obj, bx_ref, bx_lst, tru_bl, Sm.sl_tup, get_lst, get_tup, len_tup, R.bind_ok, R.bind_exc, toS_ok, toS_exc, then_nx, then_rt, then_bk, then_ct, then_exc, add_ii, sub_ii, mul_r, mod_ii, fdiv_ii, pow_ii, lt_ii, le_ii, gt_ii, ge_ii, eq_ii, ne_ii, eq_ss, ne_ss, eq_tz, eq_lz, isi_non, isi_bl, isi_int, isi_str, isi_tup, subB, get_tup0, -sSet_ap, -eDisp_ap, -eq_lz, get_last, in_last, isKey, q2, q4, w1, w2, e1, e2, rowB, numA, q1, hn]
          · simp [c__law_row_ok, es, sSeq_ap, sIf_ap, sSet_ap, sRet_ap, sExpr_ap, sNext_ap, sFor_ap, sSetIx_ap, eOp_ap, eUn_ap, eC_ap, eVar0, eVar_1, eVar_2, eVar_3, eVar_4, eVar_5, eVar_6, eVar_7, eVar_8, eVar_9, eCall_ap, aNil_ap, aCons_ap, eTup_ap, eLst_ap, cTest_ap, cTru_ap, cAnd_ap, cOr_ap, cNot_ap, cYes_ap, eIf_ap, eAnd_ap, eOr_ap, eNot_ap, eSl_ap, oNone_ap, oSome_ap, iRg1_ap, iRg2_ap, iAnyF_ap, eLm1_ap, eChain_ap, eDnew_ap, pNil_ap, pCons_ap, eDisp_ap, eGd_ap, bx_int, bx_str, bx_bl, bx_non, bx_tup, bx_rol, bx_obj, bx_ref, bx_lst, tru_bl, Sm.sl_tup, get_lst, get_tup, len_tup, R.bind_ok, R.bind_exc, toS_ok, toS_exc, then_nx, then_rt, then_bk, then_ct, then_exc, add_ii, sub_ii, mul_r, mod_ii, fdiv_ii, pow_ii, lt_ii, le_ii, gt_ii, ge_ii, eq_ii, ne_ii, eq_ss, ne_ss, eq_tz, eq_lz, isi_non, isi_bl, isi_int, isi_str, isi_tup, subB, get_tup0, -sSet_ap, -eDisp_ap, -eq_lz, get_last, in_last, isKey, q2, q4, w1, w2, e1, e2, rowB, numA, q1, hn]
        · by_cases h1 : 1 ≤ ys.length
          · by_cases h2 : ys.length ≤ 4
            · have k1 : (2 : Int) ≤ ys.length + 1 := by omega
              have k2 : (ys.length : Int) + 1 ≤ 5 := by omega
              simp [c__law_row_ok, es, sSeq_ap, sIf_ap, sSet_ap, sRet_ap, sExpr_ap, sNext_ap, sFor_ap, sSetIx_ap, eOp_ap, eUn_ap, eC_ap, eVar0, eVar_1, eVar_2, eVar_3, eVar_4, eVar_5, eVar_6, eVar_7, eVar_8, eVar_9, eCall_ap, aNil_ap, aCons_ap, eTup_ap, eLst_ap, cTest_ap, cTru_ap, cAnd_ap, cOr_ap, cNot_ap, cYes_ap, eIf_ap, eAnd_ap, eOr_ap, eNot_ap, eSl_ap, oNone_ap, oSome_ap, iRg1_ap, iRg2_ap, iAnyF_ap, eLm1_ap, eChain_ap, eDnew_ap, pNil_ap, pCons_ap, eDisp_ap, eGd_ap, bx_int, bx_str, bx_bl, bx_non, bx_tup, bx_rol, bx_obj, bx_ref, bx_lst, tru_bl, Sm.sl_tup, get_lst, get_tup, len_tup, R.bind_ok, R.bind_exc, toS_ok, toS_exc, then_nx, then_rt, then_bk, then_ct, then_exc, add_ii, sub_ii, mul_r, mod_ii, fdiv_ii, pow_ii, lt_ii, le_ii, gt_ii, ge_ii, eq_ii, ne_ii, eq_ss, ne_ss, eq_tz, eq_lz, isi_non, isi_bl, isi_int, isi_str, isi_tup, subB, get_tup0, -sSet_ap, -eDisp_ap, -eq_lz, w1, w2, e1, e2, rowB, h1, h2, k1, k2]
            · have k1 : (2 : Int) ≤ ys.length + 1 := by omega
              have k2 : ¬ (ys.length : Int) + 1 ≤ 5 := by omega
              simp [c__law_row_ok, es, sSeq_ap, sIf_ap, sSet_ap, sRet_ap, sExpr_ap, sNext_ap, sFor_ap, sSetIx_ap, eOp_ap, eUn_ap, eC_ap, eVar0, eVar_1, eVar_2, eVar_3, eVar_4, eVar_5, eVar_6, eVar_7, eVar_8, eVar_9, eCall_ap, aNil_ap, aCons_ap, eTup_ap, eLst_ap, cTest_ap, cTru_ap, cAnd_ap, cOr_ap, cNot_ap, cYes_ap, eIf_ap, eAnd_ap, eOr_ap, eNot_ap, eSl_ap, oNone_ap, oSome_ap, iRg1_ap, iRg2_ap, iAnyF_ap, eLm1_ap, eChain_ap, eDnew_ap, pNil_ap, pCons_ap, eDisp_ap, eGd_ap, bx_int, bx_str, bx_bl, bx_non, bx_tup, bx_rol, bx_obj, bx_ref, bx_lst, tru_bl, Sm.sl_tup, get_lst, get_tup, len_tup, R.bind_ok, R.bind_exc, toS_ok, toS_exc, then_nx, then_rt, then_bk, then_ct, then_exc, add_ii, sub_ii, mul_r, mod_ii, fdiv_ii, pow_ii, lt_ii, le_ii, gt_ii, ge_ii, eq_ii, ne_ii, eq_ss, ne_ss, eq_tz, eq_lz, isi_non, isi_bl, isi_int, isi_str, isi_tup, subB, get_tup0, -sSet_ap, -eDisp_ap, -eq_lz, w1, w2, e1, e2, rowB, h1, h2, k1, k2]
          · have k1 : ¬ (2 : Int) ≤ ys.length + 1 := by omega
            simp [c__law_row_ok, es, sSeq_ap, sIf_ap, sSet_ap, sRet_ap, sExpr_ap, sNext_ap, sFor_ap, sSetIx_ap, eOp_ap, eUn_ap, eC_ap, eVar0, eVar_1, eVar_2, eVar_3, eVar_4, eVar_5, eVar_6, eVar_7, eVar_8, eVar_9, eCall_ap, aNil_ap, aCons_ap, eTup_ap, eLst_ap, cTest_ap, cTru_ap, cAnd_ap, cOr_ap, cNot_ap, cYes_ap, eIf_ap, eAnd_ap, eOr_ap, eNot_ap, eSl_ap, oNone_ap, oSome_ap, iRg1_ap, iRg2_ap, iAnyF_ap, eLm1_ap, eChain_ap, eDnew_ap, pNil_ap, pCons_ap, eDisp_ap, eGd_ap, bx_int, bx_str, bx_bl, bx_non, bx_tup, bx_rol, bx_obj, bx_ref, bx_lst, tru_bl, Sm.sl_tup, get_lst, get_tup, len_tup, R.bind_ok, R.bind_exc, toS_ok, toS_exc, then_nx, then_rt, then_bk, then_ct, then_exc, add_ii, sub_ii, mul_r, mod_ii, fdiv_ii, pow_ii, lt_ii, le_ii, gt_ii, ge_ii, eq_ii, ne_ii, eq_ss, ne_ss, eq_tz, eq_lz, isi_non, isi_bl, isi_int, isi_str, isi_tup, subB, get_tup0, -sSet_ap, -eDisp_ap, -eq_lz, w1, w2, e1, e2, rowB, h1, k1]
        · simp [c__law_row_ok, es, sSeq_ap, sIf_ap, sSet_ap, sRet_ap, sExpr_ap, sNext_ap, sFor_ap, sSetIx_ap, eOp_ap, eUn_ap, eC_ap, eVar0, eVar_1, eVar_2, eVar_3, eVar_4, eVar_5, eVar_6, eVar_7, eVar_8, eVar_9, eCall_ap, aNil_ap, aCons_ap, eTup_ap, eLst_ap, cTest_ap, cTru_ap, cAnd_ap, cOr_ap, cNot_ap, cYes_ap, eIf_ap, eAnd_ap, eOr_ap, eNot_ap, eSl_ap, oNone_ap, oSome_ap, iRg1_ap, iRg2_ap, iAnyF_ap, eLm1_ap, eChain_ap, eDnew_ap, pNil_ap, pCons_ap, eDisp_ap, eGd_ap, bx_int, bx_str, bx_bl, bx_non, bx_tup, bx_rol, bx_obj, bx_ref, bx_lst, tru_bl, Sm.sl_tup, get_lst, get_tup, len_tup, R.bind_ok, R.bind_exc, toS_ok, toS_exc, then_nx, then_rt, then_bk, then_ct, then_exc, add_ii, sub_ii, mul_r, mod_ii, fdiv_ii, pow_ii, lt_ii, le_ii, gt_ii, ge_ii, eq_ii, ne_ii, eq_ss, ne_ss, eq_tz, eq_lz, isi_non, isi_bl, isi_int, isi_str, isi_tup, subB, get_tup0, -sSet_ap, -eDisp_ap, -eq_lz, get_last, in_last, isKey, q2, q4, w1, w2, e1, e2, rowB, numA, q1]
      · have e1 : isiA "str" y (h ++ [.dct lensL]) = .ok (.bl false) (h ++ [.dct lensL]) := by
          rcases (hy0.mono (g := [.dct lensL])).cases with rfl | ⟨b, rfl⟩ | ⟨i, rfl⟩ | ⟨z, rfl, hz⟩ | ⟨xs, rfl⟩ | ⟨e | e, k1, k2, k3, k4, k5⟩
          all_goals first | rfl | exact isi_of e | exact absurd ⟨_, rfl⟩ hs
        have e2 : rowB (.tup (y :: ys)) = false := by
          cases y with
          | str z => exact absurd ⟨_, rfl⟩ hs
          | _ => rfl
        have es : (sSet 1 (eDisp (pCons (eC (.str "open")) (eC (.int 2)) (pCons (eC (.str "close")) (eC (.int 2)) (pCons (eC (.str "renew")) (eC (.int 2)) (pCons (eC (.str "use")) (eC (.int 2)) (pCons (eC (.str "set")) (eC (.int 3)) (pCons (eC (.str "drop")) (eC (.int 2)) (pCons (eC (.str "lock")) (eC (.int 2)) (pCons (eC (.str "unlock")) (eC (.int 2)) (pCons (eC (.str "rest")) (eC (.int 1)) pNil))))))))))) [some (.tup (y :: ys)), none, none] h = .nx [some (.tup (y :: ys)), some (.ref h.length), none] (h ++ [.dct lensL]) := rfl
        simp [c__law_row_ok, es, sSeq_ap, sIf_ap, sSet_ap, sRet_ap, sExpr_ap, sNext_ap, sFor_ap, sSetIx_ap, eOp_ap, eUn_ap, eC_ap, eVar0, eVar_1, eVar_2, eVar_3, eVar_4, eVar_5, eVar_6, eVar_7, eVar_8, eVar_9, eCall_ap, aNil_ap, aCons_ap, eTup_ap, eLst_ap, cTest_ap, cTru_ap, cAnd_ap, cOr_ap, cNot_ap, cYes_ap, eIf_ap, eAnd_ap, eOr_ap, eNot_ap, eSl_ap, oNone_ap, oSome_ap, iRg1_ap, iRg2_ap, iAnyF_ap, eLm1_ap, eChain_ap, eDnew_ap, pNil_ap, pCons_ap, eDisp_ap, eGd_ap, bx_int, bx_str, bx_bl, bx_non, bx_tup, bx_rol, bx_obj, bx_ref, bx_lst, tru_bl, Sm.sl_tup, get_lst, get_tup, len_tup, R.bind_ok, R.bind_exc, toS_ok, toS_exc, then_nx, then_rt, then_bk, then_ct, then_exc, add_ii, sub_ii, mul_r, mod_ii, fdiv_ii, pow_ii, lt_ii, le_ii, gt_ii, ge_ii, eq_ii, ne_ii, eq_ss, ne_ss, eq_tz, eq_lz, isi_non, isi_bl, isi_int, isi_str, isi_tup, subB, get_tup0, -sSet_ap, -eDisp_ap, e1, e2]
  · have e1 : isiA "tuple" x (h ++ [.dct lensL]) = .ok (.bl false) (h ++ [.dct lensL]) := by
      rcases (k.1.mono (g := [.dct lensL])).cases with rfl | ⟨b, rfl⟩ | ⟨i, rfl⟩ | ⟨z, rfl, hz⟩ | ⟨xs, rfl⟩ | ⟨e | e, k1, k2, k3, k4, k5⟩
      all_goals first | rfl | exact isi_of e | exact absurd rfl (k5 _)
    have e2 : rowB x = false := by
      cases x with
      | tup xs => exact absurd rfl (k5 xs)
      | _ => rfl
    have es : (sSet 1 (eDisp (pCons (eC (.str "open")) (eC (.int 2)) (pCons (eC (.str "close")) (eC (.int 2)) (pCons (eC (.str "renew")) (eC (.int 2)) (pCons (eC (.str "use")) (eC (.int 2)) (pCons (eC (.str "set")) (eC (.int 3)) (pCons (eC (.str "drop")) (eC (.int 2)) (pCons (eC (.str "lock")) (eC (.int 2)) (pCons (eC (.str "unlock")) (eC (.int 2)) (pCons (eC (.str "rest")) (eC (.int 1)) pNil))))))))))) [some x, none, none] h = .nx [some x, some (.ref h.length), none] (h ++ [.dct lensL]) := rfl
    simp [c__law_row_ok, es, sSeq_ap, sIf_ap, sSet_ap, sRet_ap, sExpr_ap, sNext_ap, sFor_ap, sSetIx_ap, eOp_ap, eUn_ap, eC_ap, eVar0, eVar_1, eVar_2, eVar_3, eVar_4, eVar_5, eVar_6, eVar_7, eVar_8, eVar_9, eCall_ap, aNil_ap, aCons_ap, eTup_ap, eLst_ap, cTest_ap, cTru_ap, cAnd_ap, cOr_ap, cNot_ap, cYes_ap, eIf_ap, eAnd_ap, eOr_ap, eNot_ap, eSl_ap, oNone_ap, oSome_ap, iRg1_ap, iRg2_ap, iAnyF_ap, eLm1_ap, eChain_ap, eDnew_ap, pNil_ap, pCons_ap, eDisp_ap, eGd_ap, bx_int, bx_str, bx_bl, bx_non, bx_tup, bx_rol, bx_obj, bx_ref, bx_lst, tru_bl, Sm.sl_tup, get_lst, get_tup, len_tup, R.bind_ok, R.bind_exc, toS_ok, toS_exc, then_nx, then_rt, then_bk, then_ct, then_exc, add_ii, sub_ii, mul_r, mod_ii, fdiv_ii, pow_ii, lt_ii, le_ii, gt_ii, ge_ii, eq_ii, ne_ii, eq_ss, ne_ss, eq_tz, eq_lz, isi_non, isi_bl, isi_int, isi_str, isi_tup, subB, get_tup0, -sSet_ap, -eDisp_ap, e1, e2]
theorem okE.ex {h h' : Hs} {x : A} (k : okE h x) (e : Ex h h') : okE h' x := by
  refine ⟨?_, k.2⟩
  obtain ⟨t, q⟩ := k.1
  cases x with
  | ref n => exact ⟨t, e.ty n t q⟩
  | _ => exact ⟨t, q⟩
theorem okE_non {h : Hs} : okE h .non := ⟨⟨_, rfl⟩, fun _ e => (nomatch e), fun _ e => (nomatch e)⟩
theorem okE_bl {h : Hs} {b : Bool} : okE h (.bl b) := ⟨⟨_, rfl⟩, fun _ e => (nomatch e), fun _ e => (nomatch e)⟩
theorem okE_int {h : Hs} {i : Int} : okE h (.int i) := ⟨⟨_, rfl⟩, fun _ e => (nomatch e), fun _ e => (nomatch e)⟩
theorem okE_tup {h : Hs} {xs : List A} : okE h (.tup xs) := ⟨⟨_, rfl⟩, fun _ e => (nomatch e), fun _ e => (nomatch e)⟩
theorem okE_str {h : Hs} {z : Str} (hz : z.length ≤ 16777216) : okE h (.str z) := ⟨⟨_, rfl⟩, fun _ e => by cases e; exact hz, fun _ e => nomatch e⟩
theorem okE_lst {h : Hs} {n : Nat} {xs : List A} (e : h[n]? = some (.lst xs)) : okE h (.ref n) := ⟨⟨"list", by rw [tyN_ref, e]⟩, fun _ e => (nomatch e), fun _ e => (nomatch e)⟩
theorem okE_dct {h : Hs} {n : Nat} {xs : List (A × A)} (e : h[n]? = some (.dct xs)) : okE h (.ref n) := ⟨⟨"dict", by rw [tyN_ref, e]⟩, fun _ e => (nomatch e), fun _ e => (nomatch e)⟩
theorem getLast {h : Hs} {o : O} : (h ++ [o])[h.length]? = some o := by simp
theorem bad_name {h : Hs} (k : Gd h) : ∃ v h', m__law_bad_name [.ref 1] h = .ok v h' ∧ Gd h' ∧ Ex h h' ∧ okE h' v := by
  obtain ⟨r, h', hr, e, g, x, _⟩ := draw_gd (k.app (g := [.lst [.str "a"]])) 10 (by decide) (by decide)
  have x0 : Ex h h' := Ex.app.trans x
  have hw : okE h' (.ref h.length) := (okE_lst getLast).ex x
  obtain ⟨v, hv, ev⟩ := pick (xs := [.str "", .str "A", .str "a1", .str "toolongne", .str "a b", .non, .int 3, .bl true, .tup [.str "a"], .ref h.length]) (h := h') hr
  refine ⟨v, h', ?_, g, x0, ?_⟩
  · refine mDef_rt ?_
    show c__law_bad_name [some (.ref 1)] h = _
    have e' : m__law_draw [.ref 1, .int 10] (h ++ [.lst [.str "a"]]) = .ok (.int r) h' := e
    simp [c__law_bad_name, sSeq_ap, sIf_ap, sSet_ap, sRet_ap, sExpr_ap, sNext_ap, sFor_ap, sSetIx_ap, eOp_ap, eUn_ap, eC_ap, eVar0, eVar_1, eVar_2, eVar_3, eVar_4, eVar_5, eVar_6, eVar_7, eVar_8, eVar_9, eCall_ap, aNil_ap, aCons_ap, eTup_ap, eLst_ap, cTest_ap, cTru_ap, cAnd_ap, cOr_ap, cNot_ap, cYes_ap, eIf_ap, eAnd_ap, eOr_ap, eNot_ap, eSl_ap, oNone_ap, oSome_ap, iRg1_ap, iRg2_ap, iAnyF_ap, eLm1_ap, eChain_ap, eDnew_ap, pNil_ap, pCons_ap, eDisp_ap, eGd_ap, bx_int, bx_str, bx_bl, bx_non, bx_tup, bx_rol, bx_obj, bx_ref, bx_lst, tru_bl, Sm.sl_tup, get_lst, get_tup, len_tup, R.bind_ok, R.bind_exc, toS_ok, toS_exc, then_nx, then_rt, then_bk, then_ct, then_exc, add_ii, sub_ii, mul_r, mod_ii, fdiv_ii, pow_ii, lt_ii, le_ii, gt_ii, ge_ii, eq_ii, ne_ii, eq_ss, ne_ss, eq_tz, eq_lz, isi_non, isi_bl, isi_int, isi_str, isi_tup, subB, get_tup0, -get_lst, e', ev]
  · simp only [List.mem_cons, List.not_mem_nil, or_false] at hv
    rcases hv with rfl | rfl | rfl | rfl | rfl | rfl | rfl | rfl | rfl | rfl
    all_goals first | exact hw | exact okE_non | exact okE_bl | exact okE_int | exact okE_tup | exact okE_str (by decide)
theorem bad_number {h : Hs} (k : Gd h) : ∃ v h', m__law_bad_number [.ref 1] h = .ok v h' ∧ Gd h' ∧ Ex h h' ∧ okE h' v := by
  obtain ⟨r, h', hr, e, g, x, _⟩ := draw_gd ((k.app (g := [.lst [.int 1]])).app (g := [.dct []])) 9 (by decide) (by decide)
  have x0 : Ex h h' := (Ex.app.trans Ex.app).trans x
  have hw : okE h' (.ref h.length) := (okE_lst getLast).ex (Ex.app.trans x)
  have hw2 : okE h' (.ref (h ++ [O.lst [.int 1]]).length) := (okE_dct getLast).ex x
  obtain ⟨v, hv, ev⟩ := pick (xs := [.int (-1), .non, .bl true, .str "1", .tup [.int 1], .ref h.length, .ref (h ++ [O.lst [.int 1]]).length, .bl false, .int (0 - 10 ^ 30)]) (h := h') hr
  refine ⟨v, h', ?_, g, x0, ?_⟩
  · refine mDef_rt ?_
    show c__law_bad_number [some (.ref 1)] h = _
    have e' : m__law_draw [.ref 1, .int 9] (h ++ [.lst [.int 1]] ++ [.dct []]) = .ok (.int r) h' := e
    simp at e' ev
    simp [c__law_bad_number, sSeq_ap, sIf_ap, sSet_ap, sRet_ap, sExpr_ap, sNext_ap, sFor_ap, sSetIx_ap, eOp_ap, eUn_ap, eC_ap, eVar0, eVar_1, eVar_2, eVar_3, eVar_4, eVar_5, eVar_6, eVar_7, eVar_8, eVar_9, eCall_ap, aNil_ap, aCons_ap, eTup_ap, eLst_ap, cTest_ap, cTru_ap, cAnd_ap, cOr_ap, cNot_ap, cYes_ap, eIf_ap, eAnd_ap, eOr_ap, eNot_ap, eSl_ap, oNone_ap, oSome_ap, iRg1_ap, iRg2_ap, iAnyF_ap, eLm1_ap, eChain_ap, eDnew_ap, pNil_ap, pCons_ap, eDisp_ap, eGd_ap, bx_int, bx_str, bx_bl, bx_non, bx_tup, bx_rol, bx_obj, bx_ref, bx_lst, tru_bl, Sm.sl_tup, get_lst, get_tup, len_tup, R.bind_ok, R.bind_exc, toS_ok, toS_exc, then_nx, then_rt, then_bk, then_ct, then_exc, add_ii, sub_ii, mul_r, mod_ii, fdiv_ii, pow_ii, lt_ii, le_ii, gt_ii, ge_ii, eq_ii, ne_ii, eq_ss, ne_ss, eq_tz, eq_lz, isi_non, isi_bl, isi_int, isi_str, isi_tup, subB, get_tup0, negA, -get_lst, e', ev]
  · simp only [List.mem_cons, List.not_mem_nil, or_false] at hv
    rcases hv with rfl | rfl | rfl | rfl | rfl | rfl | rfl | rfl | rfl
    all_goals first | exact hw | exact hw2 | exact okE_non | exact okE_bl | exact okE_int | exact okE_tup | exact okE_str (by decide)
def wordsL : List A := [.str "open", .str "close", .str "renew", .str "use", .str "set", .str "drop", .str "lock", .str "unlock", .str "go", .str "rest"]
theorem word_pick {h : Hs} (k : Gd h) (h2 : h[2]? = some (.lst wordsL)) {a : En} (e1 : a[1]? = some (some (.ref 1))) (e2 : a[2]? = some (some (.ref 2))) : ∃ v h', (sSet 4 (eOp (eOp (eVar 2) (eLst (aCons (eC (.str "")) (aCons (eC (.str "Open")) (aCons (eC .non) (aCons (eC (.int 3)) (aCons (eTup (aCons (eC (.str "open")) aNil)) aNil)))))) addA) (eCall 2 (aCons (eVar 1) (aCons (eC (.int 15)) aNil)) [] m__law_draw) getA)) a h = .nx (a.set 4 (some v)) h' ∧ Gd h' ∧ Ex h h' ∧ okE h' v ∧ okVal h' v := by
  obtain ⟨r, h', hr, e, g, x, _⟩ := draw_gd k 15 (by decide) (by decide)
  obtain ⟨v, hv, ev⟩ := pick (xs := wordsL ++ [.str "", .str "Open", .non, .int 3, .tup [.str "open"]]) (h := h') hr
  have ok : okE h' v ∧ okVal h' v := by
    simp only [wordsL, List.cons_append, List.nil_append, List.mem_cons, List.not_mem_nil, or_false] at hv
    have st : ∀ z : Str, z.length ≤ 16777216 → okE h' (.str z) ∧ okVal h' (.str z) := fun z hz => ⟨okE_str hz, okE_str hz, fun _ e => (nomatch e)⟩
    rcases hv with rfl | rfl | rfl | rfl | rfl | rfl | rfl | rfl | rfl | rfl | rfl | rfl | rfl | rfl | rfl
    all_goals first | exact st _ (by decide) | exact ⟨okE_non, okE_non, fun _ e => (nomatch e)⟩ | exact ⟨okE_int, okE_int, fun _ e => (nomatch e)⟩ | skip
    exact ⟨okE_tup, okE_tup, fun xs e => by
      cases e
      refine ⟨by decide, fun y hy => ?_⟩
      simp only [List.mem_cons, List.not_mem_nil, or_false] at hy
      subst hy
      exact okE_str (by decide)⟩
  refine ⟨v, h', ?_, g, x, ok⟩
  have e' : m__law_draw [.ref 1, .int 15] h = .ok (.int r) h' := e
  have v1 : eVar 1 a h = .ok (.ref 1) h := by unfold eVar; rw [e1]
  have v2 : eVar 2 a h = .ok (.ref 2) h := by unfold eVar; rw [e2]
  have ad := add_rl (ys := [.str "", .str "Open", .non, .int 3, .tup [.str "open"]]) h2 (by decide)
  simp [sSeq_ap, sIf_ap, sSet_ap, sRet_ap, sExpr_ap, sNext_ap, sFor_ap, sSetIx_ap, eOp_ap, eUn_ap, eC_ap, eVar0, eVar_1, eVar_2, eVar_3, eVar_4, eVar_5, eVar_6, eVar_7, eVar_8, eVar_9, eCall_ap, aNil_ap, aCons_ap, eTup_ap, eLst_ap, cTest_ap, cTru_ap, cAnd_ap, cOr_ap, cNot_ap, cYes_ap, eIf_ap, eAnd_ap, eOr_ap, eNot_ap, eSl_ap, oNone_ap, oSome_ap, iRg1_ap, iRg2_ap, iAnyF_ap, eLm1_ap, eChain_ap, eDnew_ap, pNil_ap, pCons_ap, eDisp_ap, eGd_ap, bx_int, bx_str, bx_bl, bx_non, bx_tup, bx_rol, bx_obj, bx_ref, bx_lst, tru_bl, Sm.sl_tup, get_lst, get_tup, len_tup, R.bind_ok, R.bind_exc, toS_ok, toS_exc, then_nx, then_rt, then_bk, then_ct, then_exc, add_ii, sub_ii, mul_r, mod_ii, fdiv_ii, pow_ii, lt_ii, le_ii, gt_ii, ge_ii, eq_ii, ne_ii, eq_ss, ne_ss, eq_tz, eq_lz, isi_non, isi_bl, isi_int, isi_str, isi_tup, subB, get_tup0, -get_lst, v1, v2, ad, e', ev, bx_no ok.1.2.2]
theorem okE.set {h : Hs} {x : A} {n : Nat} {xs ys : List A} (e : h[n]? = some (.lst xs)) (k : okE h x) : okE (h.set n (.lst ys)) x := by
  refine ⟨?_, k.2⟩
  obtain ⟨t, q⟩ := k.1
  cases x with
  | ref m =>
    refine ⟨t, ?_⟩
    rw [tyN_ref] at q ⊢
    by_cases hm : n = m
    · subst hm
      rw [e] at q
      rw [List.getElem?_set_self (List.getElem?_eq_some_iff.mp e).1]
      exact q
    · rw [List.getElem?_set_ne hm]
      exact q
  | _ => exact ⟨t, q⟩
theorem rest_step {h : Hs} (k : Gd h) {u0 u2 u3 u4 u6 u7 u8 u9 : Option A} {n : Nat} {rs : List A} (hn : 3 ≤ n) (hr : h[n]? = some (.lst rs)) (hl : rs.length ≤ 1000) (ok : ∀ y ∈ rs, okE h y) :
    ∃ v x7 h', b_law_0 [u0, some (.ref 1), u2, u3, u4, some (.ref n), u6, u7, u8, u9] h = .nx [u0, some (.ref 1), u2, u3, u4, some (.ref n), u6, some x7, u8, u9] h' ∧ Gd h' ∧ h'[2]? = h[2]? ∧ (∀ x, okE h x → okE h' x) ∧ h'[n]? = some (.lst (rs ++ [v])) ∧ ∀ y ∈ rs ++ [v], okE h' y := by
  obtain ⟨v1, h1, a1, a2, a3, a4⟩ := bad_name k
  obtain ⟨v2, h2, b1, b2, b3, b4⟩ := bad_number a2
  obtain ⟨r, h3, hr3, c1, c2, c3, c4⟩ := draw_gd (b2.app (g := [.lst [v1, .str "v", .str "abcdefgh", v2, .int 0, .int 7, .int (10 ^ 9)]])) 7 (by decide) (by decide)
  have g3 := c3.get (n := h2.length) (o := .lst [v1, .str "v", .str "abcdefgh", v2, .int 0, .int 7, .int (10 ^ 9)]) (by have := a3.le; have := b3.le; have := (List.getElem?_eq_some_iff.mp hr).1; omega) getLast
  obtain ⟨v, hv, ev⟩ := get_ref g3 hr3
  have x13 : Ex h1 h3 := (b3.trans Ex.app).trans c3
  have x23 : Ex h2 h3 := Ex.app.trans c3
  have x03 : Ex h h3 := a3.trans x13
  have okv : okE h3 v := by
    simp only [List.mem_cons, List.not_mem_nil, or_false] at hv
    rcases hv with rfl | rfl | rfl | rfl | rfl | rfl | rfl
    all_goals first | exact a4.ex x13 | exact b4.ex x23 | exact okE_int | exact okE_str (by decide)
  have hr' : h3[n]? = some (.lst rs) := x03.get (by omega) hr
  refine ⟨v, .ref h2.length, h3.set n (.lst (rs ++ [v])), ?_, c2.set (by omega) _, ?_, fun x hx => (hx.ex x03).set hr', ?_, ?_⟩
  · have c1' : m__law_draw [.ref 1, .int 7] (h2 ++ [.lst [v1, .str "v", .str "abcdefgh", v2, .int 0, .int 7, .int 1000000000]]) = .ok (.int r) h3 := c1
    have hr2 : (h2 ++ [O.lst [v1, .str "v", .str "abcdefgh", v2, .int 0, .int 7, .int 1000000000]])[n]? = some (.lst rs) := ((a3.trans b3).trans Ex.app).get (by omega) hr
    have il : isLst (.ref n) (h2 ++ [O.lst [v1, .str "v", .str "abcdefgh", v2, .int 0, .int 7, .int 1000000000]]) = true := by
      simp only [isLst, hr2]
    have ap : appA (.ref n) v h3 = .ok .non (h3.set n (.lst (rs ++ [v]))) := by
      simp [appA, hr']
      omega
    simp [b_law_0, sSeq_ap, sIf_ap, sSet_ap, sRet_ap, sExpr_ap, sNext_ap, sFor_ap, sSetIx_ap, eOp_ap, eUn_ap, eC_ap, eVar0, eVar_1, eVar_2, eVar_3, eVar_4, eVar_5, eVar_6, eVar_7, eVar_8, eVar_9, eCall_ap, aNil_ap, aCons_ap, eTup_ap, eLst_ap, cTest_ap, cTru_ap, cAnd_ap, cOr_ap, cNot_ap, cYes_ap, eIf_ap, eAnd_ap, eOr_ap, eNot_ap, eSl_ap, oNone_ap, oSome_ap, iRg1_ap, iRg2_ap, iAnyF_ap, eLm1_ap, eChain_ap, eDnew_ap, pNil_ap, pCons_ap, eDisp_ap, eGd_ap, bx_int, bx_str, bx_bl, bx_non, bx_tup, bx_rol, bx_obj, bx_ref, bx_lst, tru_bl, Sm.sl_tup, get_lst, get_tup, len_tup, R.bind_ok, R.bind_exc, toS_ok, toS_exc, then_nx, then_rt, then_bk, then_ct, then_exc, add_ii, sub_ii, mul_r, mod_ii, fdiv_ii, pow_ii, lt_ii, le_ii, gt_ii, ge_ii, eq_ii, ne_ii, eq_ss, ne_ss, eq_tz, eq_lz, isi_non, isi_bl, isi_int, isi_str, isi_tup, subB, get_tup0, -get_lst, a1, b1, c1', ev, il, ap, bx_no okv.2.2, bx_no a4.2.2, bx_no b4.2.2]
  · rw [List.getElem?_set_ne (by omega), x03.at_ 2 (by omega) (by have := (List.getElem?_eq_some_iff.mp hr).1; omega)]
  · rw [List.getElem?_set_self (List.getElem?_eq_some_iff.mp hr').1]
  · intro y hy
    rw [List.mem_append] at hy
    rcases hy with hy | hy
    · exact ((ok y hy).ex x03).set hr'
    · rw [List.mem_singleton] at hy
      subst hy
      exact okv.set hr'
theorem okVal.ex {h h' : Hs} {x : A} (k : okVal h x) (e : Ex h h') : okVal h' x := ⟨k.1.ex e, fun xs q => ⟨(k.2 xs q).1, fun y hy => ((k.2 xs q).2 y hy).ex e⟩⟩
theorem cmp_step {h : Hs} {x : A} (k : okVal h x) {u0 u1 u2 u3 u4 u5 u6 u7 u9 : Option A} : b_law_1 [u0, u1, u2, u3, u4, u5, u6, u7, some x, u9] h = .nx [u0, u1, u2, u3, u4, u5, u6, u7, some x, u9] (h ++ [.dct lensL]) := by
  have e1 := row_eq k
  have e2 := lrow_eq k
  have r1 : ∀ (b : Bool) (h : Hs), reprS (.bl b) h = .ok (.str (if b then "True" else "False")) h := fun _ _ => rfl
  simp [b_law_1, sSeq_ap, sIf_ap, sSet_ap, sRet_ap, sExpr_ap, sNext_ap, sFor_ap, sSetIx_ap, eOp_ap, eUn_ap, eC_ap, eVar0, eVar_1, eVar_2, eVar_3, eVar_4, eVar_5, eVar_6, eVar_7, eVar_8, eVar_9, eCall_ap, aNil_ap, aCons_ap, eTup_ap, eLst_ap, cTest_ap, cTru_ap, cAnd_ap, cOr_ap, cNot_ap, cYes_ap, eIf_ap, eAnd_ap, eOr_ap, eNot_ap, eSl_ap, oNone_ap, oSome_ap, iRg1_ap, iRg2_ap, iAnyF_ap, eLm1_ap, eChain_ap, eDnew_ap, pNil_ap, pCons_ap, eDisp_ap, eGd_ap, bx_int, bx_str, bx_bl, bx_non, bx_tup, bx_rol, bx_obj, bx_ref, bx_lst, tru_bl, Sm.sl_tup, get_lst, get_tup, len_tup, R.bind_ok, R.bind_exc, toS_ok, toS_exc, then_nx, then_rt, then_bk, then_ct, then_exc, add_ii, sub_ii, mul_r, mod_ii, fdiv_ii, pow_ii, lt_ii, le_ii, gt_ii, ge_ii, eq_ii, ne_ii, eq_ss, ne_ss, eq_tz, eq_lz, isi_non, isi_bl, isi_int, isi_str, isi_tup, subB, get_tup0, bx_no k.1.2.2, e1, e2, r1]
theorem rest_r1 {r : Nat} (hr : r < 6) (h3 : Hs) : rg1 [.int r] h3 = .ok ⟨rgItems 0 r, none⟩ h3 := rg_nat (by omega)
theorem rest_r2 {r : Nat} (a : En) (h1 h3 : Hs) (u0 : Option A) (d1' : m__law_draw [.ref 1, .int 6] h1 = .ok (.int r) h3) : (aCons (eCall 2 (aCons (eVar 1) (aCons (eC (.int 6)) aNil)) [] m__law_draw) aNil) (u0 :: some (.ref 1) :: a) h1 = .ok [.int r] h3 := by
  simp only [aCons_ap, eCall_ap, eVar_1, R.bind_ok, bx_ref, eC_ap, bx_int, aNil_ap, List.length_cons, List.length_nil, List.append_nil, Nat.reduceAdd, if_true, d1']
theorem rest_range {r : Nat} (hr : r < 6) (a : En) (h1 h3 : Hs) (u0 : Option A) (d1' : m__law_draw [.ref 1, .int 6] h1 = .ok (.int r) h3) : iRg1 (aCons (eCall 2 (aCons (eVar 1) (aCons (eC (.int 6)) aNil)) [] m__law_draw) aNil) (u0 :: some (.ref 1) :: a) h1 = .ok ⟨rgItems 0 r, none⟩ h3 := by
  rw [iRg1_ap, rest_r2 _ _ _ _ d1', R.bind_ok, rest_r1 hr]
theorem turn {h : Hs} (k : Gd h) (h2 : h[2]? = some (.lst wordsL)) {u0 u3 u4 u5 u6 u7 u8 u9 : Option A} : ∃ w4 w5 w6 w7 w8 h', b_law_2 [u0, some (.ref 1), some (.ref 2), u3, u4, u5, u6, u7, u8, u9] h = .nx [u0, some (.ref 1), some (.ref 2), u3, w4, w5, w6, w7, w8, u9] h' ∧ Gd h' ∧ h'[2]? = some (.lst wordsL) := by
  obtain ⟨w, h1, e1, g1, x1, k1, k1v⟩ := word_pick k h2 (a := [u0, some (.ref 1), some (.ref 2), u3, u4, u5, u6, u7, u8, u9]) rfl rfl
  have e2 : sSet 5 (eLst aNil) [u0, some (.ref 1), some (.ref 2), u3, some w, u5, u6, u7, u8, u9] h1 = .nx [u0, some (.ref 1), some (.ref 2), u3, some w, some (.ref h1.length), u6, u7, u8, u9] (h1 ++ [.lst []]) := rfl
  obtain ⟨r, h3, hr, d1, d2, d3, d4⟩ := draw_gd (g1.app (g := [.lst []])) 6 (by decide) (by decide)
  have hl1 : 3 ≤ h1.length := by
    have a := (List.getElem?_eq_some_iff.mp h2).1
    have b := x1.le
    omega
  have hx3 : Ex h1 h3 := Ex.app.trans d3
  obtain ⟨a4, h4, f1, v6, v7, rs, rfl, f3, f4, f5, f6, f7, f8⟩ := forL_invN (g := gNm 6) (b := b_law_0) (xs := rgItems 0 r) (N := 6) (fun i a h => ∃ v6 v7 rs, a = [u0, some (.ref 1), some (.ref 2), u3, some w, some (.ref h1.length), v6, v7, u8, u9] ∧ Gd h ∧ h[2]? = some (.lst wordsL) ∧ h[h1.length]? = some (.lst rs) ∧ rs.length ≤ i ∧ (∀ y ∈ rs, okE h y) ∧ ∀ x, okE h1 x → okE h x)
    (rgItems 0 r) 0 [u0, some (.ref 1), some (.ref 2), u3, some w, some (.ref h1.length), u6, u7, u8, u9] h3 (by rw [rgItems_length]; omega)
    (by
      rintro x _ i a h hi ⟨v6, v7, rs, rfl, q1, q2, q3, q4, q5, q6⟩
      obtain ⟨v, x7, h', z1, z2, z3, z4, z5, z6⟩ := rest_step q1 (u0 := u0) (u2 := some (.ref 2)) (u3 := u3) (u4 := some w) (u6 := some x) (u7 := v7) (u8 := u8) (u9 := u9) hl1 q3 (by omega) q5
      exact ⟨_, _, h', rfl, z1, _, _, rs ++ [v], rfl, z2, z3.trans q2, z5, by simp; omega, z6, fun y hy => z4 y (q6 y hy)⟩)
    ⟨_, _, [], rfl, d2, by rw [hx3.at_ 2 (by omega) (by omega), x1.at_ 2 (by omega) (List.getElem?_eq_some_iff.mp h2).1]; exact h2, d3.get (by omega) getLast, Nat.le_refl _, fun _ h => (nomatch h), fun x hx => hx.ex hx3⟩
  have kw : okE h4 w := f8 w k1
  have kwv : okVal h4 w := ⟨kw, fun xs q => ⟨(k1v.2 xs q).1, fun y hy => f8 y ((k1v.2 xs q).2 y hy)⟩⟩
  rw [rgItems_length, Nat.zero_add] at f6
  have e3 : sFor (iRg1 (aCons (eCall 2 (aCons (eVar 1) (aCons (eC (.int 6)) aNil)) [] m__law_draw) aNil)) (gNm 6) b_law_0 [u0, some (.ref 1), some (.ref 2), u3, some w, some (.ref h1.length), u6, u7, u8, u9] (h1 ++ [.lst []]) = .nx [u0, some (.ref 1), some (.ref 2), u3, some w, some (.ref h1.length), v6, v7, u8, u9] h4 := by
    have d1' : m__law_draw [.ref 1, .int 6] (h1 ++ [.lst []]) = .ok (.int r) h3 := d1
    have ei : iRg1 (aCons (eCall 2 (aCons (eVar 1) (aCons (eC (.int 6)) aNil)) [] m__law_draw) aNil) [u0, some (.ref 1), some (.ref 2), u3, some w, some (.ref h1.length), u6, u7, u8, u9] (h1 ++ [.lst []]) = .ok ⟨rgItems 0 r, none⟩ h3 := rest_range hr _ _ _ _ d1'
    rw [sFor_ap, ei, toS_ok]
    exact f1
  obtain ⟨sl, hsl⟩ : ∃ sl, sl = [A.tup (w :: rs), .ref h4.length, .tup [w], .tup [w, .str "v"], .tup [w, .str "v", .str "w"], .tup [w, .int 0, .int 1]] := ⟨_, rfl⟩
  have e4 : sSet 7 (eLst (aCons (eOp (eTup (aCons (eVar 4) aNil)) (eUn (eVar 5) tupA) addA) (aCons (eOp (eLst (aCons (eVar 4) aNil)) (eVar 5) addA) (aCons (eTup (aCons (eVar 4) aNil)) (aCons (eTup (aCons (eVar 4) (aCons (eC (.str "v")) aNil))) (aCons (eTup (aCons (eVar 4) (aCons (eC (.str "v")) (aCons (eC (.str "w")) aNil)))) (aCons (eTup (aCons (eVar 4) (aCons (eC (.int 0)) (aCons (eC (.int 1)) aNil)))) aNil)))))))
      [u0, some (.ref 1), some (.ref 2), u3, some w, some (.ref h1.length), v6, v7, u8, u9] h4 = .nx [u0, some (.ref 1), some (.ref 2), u3, some w, some (.ref h1.length), v6, some (.ref (h4.length + 1)), u8, u9] (h4 ++ [.lst (w :: rs)] ++ [.lst sl]) := by
    have t1 : addA (.tup [w]) (.tup rs) h4 = .ok (.tup (w :: rs)) h4 := add_tt (by simp; omega)
    have t2 : addA (.lst [w]) (.ref h1.length) h4 = .ok (.lst (w :: rs)) h4 := add_lr f5 (by simp; omega)
    have bn : ∀ h, bx w h = .ok w h := fun h => bx_no kw.2.2
    simp [sSeq_ap, sIf_ap, sSet_ap, sRet_ap, sExpr_ap, sNext_ap, sFor_ap, sSetIx_ap, eOp_ap, eUn_ap, eC_ap, eVar0, eVar_1, eVar_2, eVar_3, eVar_4, eVar_5, eVar_6, eVar_7, eVar_8, eVar_9, eCall_ap, aNil_ap, aCons_ap, eTup_ap, eLst_ap, cTest_ap, cTru_ap, cAnd_ap, cOr_ap, cNot_ap, cYes_ap, eIf_ap, eAnd_ap, eOr_ap, eNot_ap, eSl_ap, oNone_ap, oSome_ap, iRg1_ap, iRg2_ap, iAnyF_ap, eLm1_ap, eChain_ap, eDnew_ap, pNil_ap, pCons_ap, eDisp_ap, eGd_ap, bx_int, bx_str, bx_bl, bx_non, bx_tup, bx_rol, bx_obj, bx_ref, bx_lst, tru_bl, Sm.sl_tup, get_lst, get_tup, len_tup, R.bind_ok, R.bind_exc, toS_ok, toS_exc, then_nx, then_rt, then_bk, then_ct, then_exc, add_ii, sub_ii, mul_r, mod_ii, fdiv_ii, pow_ii, lt_ii, le_ii, gt_ii, ge_ii, eq_ii, ne_ii, eq_ss, ne_ss, eq_tz, eq_lz, isi_non, isi_bl, isi_int, isi_str, isi_tup, subB, get_tup0, bn, t1, t2, tup_ref f5, hsl]
  have hl7 : (h4 ++ [O.lst (w :: rs)] ++ [O.lst sl])[h4.length + 1]? = some (.lst sl) := by
    have e : h4.length + 1 = (h4 ++ [O.lst (w :: rs)]).length := by simp
    rw [e]
    exact getLast
  have x45 : Ex h4 (h4 ++ [O.lst (w :: rs)] ++ [O.lst sl]) := Ex.app.trans Ex.app
  have oks : ∀ x ∈ sl ++ [w], okVal (h4 ++ [O.lst (w :: rs)] ++ [O.lst sl]) x := by
    intro x hx
    have kw5 := kw.ex x45
    have tp : ∀ xs : List A, xs.length ≤ 16777216 → (∀ y ∈ xs, okE (h4 ++ [O.lst (w :: rs)] ++ [O.lst sl]) y) → okVal (h4 ++ [O.lst (w :: rs)] ++ [O.lst sl]) (.tup xs) := fun xs h1 h2 => ⟨okE_tup, fun ys e => by cases e; exact ⟨h1, h2⟩⟩
    rw [List.mem_append] at hx
    rcases hx with hx | hx
    · rw [hsl] at hx
      simp only [List.mem_cons, List.not_mem_nil, or_false] at hx
      rcases hx with rfl | rfl | rfl | rfl | rfl | rfl
      · refine tp _ (by simp; omega) fun y hy => ?_
        rw [List.mem_cons] at hy
        rcases hy with rfl | hy
        · exact kw5
        · exact (f7 y hy).ex x45
      · exact ⟨(okE_lst getLast).ex Ex.app, fun _ e => (nomatch e)⟩
      all_goals
        refine tp _ (by simp) fun y hy => ?_
        simp only [List.mem_cons, List.not_mem_nil, or_false] at hy
        rcases hy with rfl | rfl | rfl
        all_goals first | exact kw5 | exact okE_str (by decide) | exact okE_int
    · rw [List.mem_singleton] at hx
      subst hx
      exact kwv.ex x45
  have g5 : Gd (h4 ++ [O.lst (w :: rs)] ++ [O.lst sl]) := f3.app.app
  generalize h4 ++ [O.lst (w :: rs)] ++ [O.lst sl] = h5 at e4 hl7 x45 oks g5
  obtain ⟨a6, h6, p1, v8, rfl, p2, p3, p4⟩ := forL_inv (g := gNm 8) (b := b_law_1) (xs := sl ++ [w]) (fun a h => ∃ v8, a = [u0, some (.ref 1), some (.ref 2), u3, some w, some (.ref h1.length), v6, some (.ref (h4.length + 1)), v8, u9] ∧ Gd h ∧ h[2]? = some (.lst wordsL) ∧ ∀ x ∈ sl ++ [w], okVal h x)
    (sl ++ [w]) [u0, some (.ref 1), some (.ref 2), u3, some w, some (.ref h1.length), v6, some (.ref (h4.length + 1)), u8, u9] h5
    (by
      rintro x hx a h ⟨v8, rfl, q1, q2, q3⟩
      exact ⟨_, _, _, rfl, cmp_step (q3 x hx), _, rfl, q1.app, Ex.app.get (by omega) q2, fun y hy => (q3 y hy).ex Ex.app⟩)
    ⟨_, rfl, g5, x45.get (by omega) f4, oks⟩
  have e5 : sFor (iAnyF (eOp (eVar 7) (eLst (aCons (eVar 4) aNil)) addA)) (gNm 8) b_law_1 [u0, some (.ref 1), some (.ref 2), u3, some w, some (.ref h1.length), v6, some (.ref (h4.length + 1)), u8, u9] h5 = .nx [u0, some (.ref 1), some (.ref 2), u3, some w, some (.ref h1.length), v6, some (.ref (h4.length + 1)), v8, u9] h6 := by
    have ad := add_rl (ys := [w]) hl7 (by rw [hsl]; simp)
    have bn : ∀ h, bx w h = .ok w h := fun h => bx_no kw.2.2
    rw [← p1]
    simp [sSeq_ap, sIf_ap, sSet_ap, sRet_ap, sExpr_ap, sNext_ap, sFor_ap, sSetIx_ap, eOp_ap, eUn_ap, eC_ap, eVar0, eVar_1, eVar_2, eVar_3, eVar_4, eVar_5, eVar_6, eVar_7, eVar_8, eVar_9, eCall_ap, aNil_ap, aCons_ap, eTup_ap, eLst_ap, cTest_ap, cTru_ap, cAnd_ap, cOr_ap, cNot_ap, cYes_ap, eIf_ap, eAnd_ap, eOr_ap, eNot_ap, eSl_ap, oNone_ap, oSome_ap, iRg1_ap, iRg2_ap, iAnyF_ap, eLm1_ap, eChain_ap, eDnew_ap, pNil_ap, pCons_ap, eDisp_ap, eGd_ap, bx_int, bx_str, bx_bl, bx_non, bx_tup, bx_rol, bx_obj, bx_ref, bx_lst, tru_bl, Sm.sl_tup, get_lst, get_tup, len_tup, R.bind_ok, R.bind_exc, toS_ok, toS_exc, then_nx, then_rt, then_bk, then_ct, then_exc, add_ii, sub_ii, mul_r, mod_ii, fdiv_ii, pow_ii, lt_ii, le_ii, gt_ii, ge_ii, eq_ii, ne_ii, eq_ss, ne_ss, eq_tz, eq_lz, isi_non, isi_bl, isi_int, isi_str, isi_tup, subB, get_tup0, bn, ad, itA]
  refine ⟨some w, some (.ref h1.length), v6, some (.ref (h4.length + 1)), v8, h6, ?_, p2, p3⟩
  unfold b_law_2
  rw [seq_nx e1]
  refine (seq_nx e2).trans ?_
  rw [seq_nx e3, seq_nx e4, e5]
theorem law_ok (ns : List Int) (hl : ns.length ≤ 63) : ∃ h, m_law [.rol (ns.map A.int)] [] = .ok (.bl true) h := by
  obtain ⟨cs, f, e0⟩ := begin_eq ns hl
  have g0 : Gd ((Pl.mk cs 0 0 f 0).hs ++ [.lst wordsL]) := ⟨_, _, rfl⟩
  obtain ⟨a1, h1, p1, u3, u4, u5, u6, u7, u8, rfl, p2, p3⟩ := forL_inv (g := gNm 3) (b := b_law_2) (xs := rgItems 0 20) (fun a h => ∃ u3 u4 u5 u6 u7 u8, a = [some (.rol (ns.map A.int)), some (.ref 1), some (.ref 2), u3, u4, u5, u6, u7, u8, none] ∧ Gd h ∧ h[2]? = some (.lst wordsL))
    (rgItems 0 20) [some (.rol (ns.map A.int)), some (.ref 1), some (.ref 2), none, none, none, none, none, none, none] ((Pl.mk cs 0 0 f 0).hs ++ [.lst wordsL])
    (by
      rintro x _ a h ⟨u3, u4, u5, u6, u7, u8, rfl, q1, q2⟩
      obtain ⟨w4, w5, w6, w7, w8, h', z1, z2, z3⟩ := turn q1 q2 (u0 := some (.rol (ns.map A.int))) (u3 := some x) (u4 := u4) (u5 := u5) (u6 := u6) (u7 := u7) (u8 := u8) (u9 := none)
      exact ⟨_, _, h', rfl, z1, _, _, _, _, _, _, rfl, z2, z3⟩)
    ⟨_, _, _, _, _, _, rfl, g0, rfl⟩
  have fin : ∃ h, sRet (eOp (eLc (iAnyF (eLst (aCons (eTup aNil) (aCons (eC .non) (aCons (eC (.int 0)) (aCons (eC (.str "rest")) (aCons eDnew aNil))))))) (gNm 9) cYes y_law_3 [9]) (eOp (eLst (aCons (eC (.bl false)) aNil)) (eC (.int 5)) mulA) eqA) [some (.rol (ns.map A.int)), some (.ref 1), some (.ref 2), u3, u4, u5, u6, u7, u8, none] h1 = .rt (.bl true) h := by
    have w : eLc (iAnyF (eLst (aCons (eTup aNil) (aCons (eC .non) (aCons (eC (.int 0)) (aCons (eC (.str "rest")) (aCons eDnew aNil))))))) (gNm 9) cYes y_law_3 [9] [some (.rol (ns.map A.int)), some (.ref 1), some (.ref 2), u3, u4, u5, u6, u7, u8, none] h1 = .ok (.lst [.bl false, .bl false, .bl false, .bl false, .bl false]) (h1 ++ [.dct []]) := by
      have ok : ∀ x ∈ [A.tup [], .non, .int 0, .str "rest", .ref h1.length], okVal (h1 ++ [.dct []]) x ∧ rowB x = false := by
        intro x hx
        simp only [List.mem_cons, List.not_mem_nil, or_false] at hx
        rcases hx with rfl | rfl | rfl | rfl | rfl
        · exact ⟨⟨okE_tup, fun xs e => by cases e; exact ⟨by decide, fun _ h => (nomatch h)⟩⟩, rfl⟩
        · exact ⟨⟨okE_non, fun xs e => (nomatch e)⟩, rfl⟩
        · exact ⟨⟨okE_int, fun xs e => (nomatch e)⟩, rfl⟩
        · exact ⟨⟨okE_str (by decide), fun xs e => (nomatch e)⟩, rfl⟩
        · exact ⟨⟨okE_dct getLast, fun xs e => (nomatch e)⟩, rfl⟩
      exact lc_eqT (l := [A.tup [], .non, .int 0, .str "rest", .ref h1.length]) id (fun _ => .bl false) (by simp [sSeq_ap, sIf_ap, sSet_ap, sRet_ap, sExpr_ap, sNext_ap, sFor_ap, sSetIx_ap, eOp_ap, eUn_ap, eC_ap, eVar0, eVar_1, eVar_2, eVar_3, eVar_4, eVar_5, eVar_6, eVar_7, eVar_8, eVar_9, eCall_ap, aNil_ap, aCons_ap, eTup_ap, eLst_ap, cTest_ap, cTru_ap, cAnd_ap, cOr_ap, cNot_ap, cYes_ap, eIf_ap, eAnd_ap, eOr_ap, eNot_ap, eSl_ap, oNone_ap, oSome_ap, iRg1_ap, iRg2_ap, iAnyF_ap, eLm1_ap, eChain_ap, eDnew_ap, pNil_ap, pCons_ap, eDisp_ap, eGd_ap, bx_int, bx_str, bx_bl, bx_non, bx_tup, bx_rol, bx_obj, bx_ref, bx_lst, tru_bl, Sm.sl_tup, get_lst, get_tup, len_tup, R.bind_ok, R.bind_exc, toS_ok, toS_exc, then_nx, then_rt, then_bk, then_ct, then_exc, add_ii, sub_ii, mul_r, mod_ii, fdiv_ii, pow_ii, lt_ii, le_ii, gt_ii, ge_ii, eq_ii, ne_ii, eq_ss, ne_ss, eq_tz, eq_lz, isi_non, isi_bl, isi_int, isi_str, isi_tup, subB, get_tup0, itA]) (by simp) fun x hx => ⟨_, rfl, by
        obtain ⟨k1, k2⟩ := ok x hx
        show (y_law_3 [some (.rol (ns.map A.int)), some (.ref 1), some (.ref 2), u3, u4, u5, u6, u7, u8, some x] (h1 ++ [.dct []])).bind bx = _
        simp [y_law_3, sSeq_ap, sIf_ap, sSet_ap, sRet_ap, sExpr_ap, sNext_ap, sFor_ap, sSetIx_ap, eOp_ap, eUn_ap, eC_ap, eVar0, eVar_1, eVar_2, eVar_3, eVar_4, eVar_5, eVar_6, eVar_7, eVar_8, eVar_9, eCall_ap, aNil_ap, aCons_ap, eTup_ap, eLst_ap, cTest_ap, cTru_ap, cAnd_ap, cOr_ap, cNot_ap, cYes_ap, eIf_ap, eAnd_ap, eOr_ap, eNot_ap, eSl_ap, oNone_ap, oSome_ap, iRg1_ap, iRg2_ap, iAnyF_ap, eLm1_ap, eChain_ap, eDnew_ap, pNil_ap, pCons_ap, eDisp_ap, eGd_ap, bx_int, bx_str, bx_bl, bx_non, bx_tup, bx_rol, bx_obj, bx_ref, bx_lst, tru_bl, Sm.sl_tup, get_lst, get_tup, len_tup, R.bind_ok, R.bind_exc, toS_ok, toS_exc, then_nx, then_rt, then_bk, then_ct, then_exc, add_ii, sub_ii, mul_r, mod_ii, fdiv_ii, pow_ii, lt_ii, le_ii, gt_ii, ge_ii, eq_ii, ne_ii, eq_ss, ne_ss, eq_tz, eq_lz, isi_non, isi_bl, isi_int, isi_str, isi_tup, subB, get_tup0, bx_no k1.1.2.2, row_eq k1, k2]⟩
    refine ⟨h1 ++ [.dct []], ?_⟩
    have m5 : mulA (.lst [.bl false]) (.int 5) (h1 ++ [.dct []]) = .ok (.lst [.bl false, .bl false, .bl false, .bl false, .bl false]) (h1 ++ [.dct []]) := by
      simp [mulA, mlist]
    have q5 : eqA (.lst [.bl false, .bl false, .bl false, .bl false, .bl false]) (.lst [.bl false, .bl false, .bl false, .bl false, .bl false]) (h1 ++ [.dct []]) = .ok (.bl true) (h1 ++ [.dct []]) := rfl
    rw [sRet_ap, eOp_ap, w]
    simp [sSeq_ap, sIf_ap, sSet_ap, sRet_ap, sExpr_ap, sNext_ap, sFor_ap, sSetIx_ap, eOp_ap, eUn_ap, eC_ap, eVar0, eVar_1, eVar_2, eVar_3, eVar_4, eVar_5, eVar_6, eVar_7, eVar_8, eVar_9, eCall_ap, aNil_ap, aCons_ap, eTup_ap, eLst_ap, cTest_ap, cTru_ap, cAnd_ap, cOr_ap, cNot_ap, cYes_ap, eIf_ap, eAnd_ap, eOr_ap, eNot_ap, eSl_ap, oNone_ap, oSome_ap, iRg1_ap, iRg2_ap, iAnyF_ap, eLm1_ap, eChain_ap, eDnew_ap, pNil_ap, pCons_ap, eDisp_ap, eGd_ap, bx_int, bx_str, bx_bl, bx_non, bx_tup, bx_rol, bx_obj, bx_ref, bx_lst, tru_bl, Sm.sl_tup, get_lst, get_tup, len_tup, R.bind_ok, R.bind_exc, toS_ok, toS_exc, then_nx, then_rt, then_bk, then_ct, then_exc, add_ii, sub_ii, mul_r, mod_ii, fdiv_ii, pow_ii, lt_ii, le_ii, gt_ii, ge_ii, eq_ii, ne_ii, eq_ss, ne_ss, eq_tz, eq_lz, isi_non, isi_bl, isi_int, isi_str, isi_tup, subB, get_tup0, m5, q5]
  obtain ⟨hf, fin⟩ := fin
  refine ⟨hf, mDef_rt ?_⟩
  show c_law [some (.rol (ns.map A.int)), none, none, none, none, none, none, none, none, none] [] = _
  have e1 : sSet 1 (eCall 1 (aCons (eVar 0) aNil) [] m__law_begin) [some (.rol (ns.map A.int)), none, none, none, none, none, none, none, none, none] [] = .nx [some (.rol (ns.map A.int)), some (.ref 1), none, none, none, none, none, none, none, none] (Pl.mk cs 0 0 f 0).hs := by
    simp [sSeq_ap, sIf_ap, sSet_ap, sRet_ap, sExpr_ap, sNext_ap, sFor_ap, sSetIx_ap, eOp_ap, eUn_ap, eC_ap, eVar0, eVar_1, eVar_2, eVar_3, eVar_4, eVar_5, eVar_6, eVar_7, eVar_8, eVar_9, eCall_ap, aNil_ap, aCons_ap, eTup_ap, eLst_ap, cTest_ap, cTru_ap, cAnd_ap, cOr_ap, cNot_ap, cYes_ap, eIf_ap, eAnd_ap, eOr_ap, eNot_ap, eSl_ap, oNone_ap, oSome_ap, iRg1_ap, iRg2_ap, iAnyF_ap, eLm1_ap, eChain_ap, eDnew_ap, pNil_ap, pCons_ap, eDisp_ap, eGd_ap, bx_int, bx_str, bx_bl, bx_non, bx_tup, bx_rol, bx_obj, bx_ref, bx_lst, tru_bl, Sm.sl_tup, get_lst, get_tup, len_tup, R.bind_ok, R.bind_exc, toS_ok, toS_exc, then_nx, then_rt, then_bk, then_ct, then_exc, add_ii, sub_ii, mul_r, mod_ii, fdiv_ii, pow_ii, lt_ii, le_ii, gt_ii, ge_ii, eq_ii, ne_ii, eq_ss, ne_ss, eq_tz, eq_lz, isi_non, isi_bl, isi_int, isi_str, isi_tup, subB, get_tup0, e0, Pl.hs]
  unfold c_law
  rw [seq_nx e1]
  refine (seq_nx (a1 := [some (.rol (ns.map A.int)), some (.ref 1), some (.ref 2), none, none, none, none, none, none, none]) (h1 := (Pl.mk cs 0 0 f 0).hs ++ [.lst wordsL]) (by simp [sSeq_ap, sIf_ap, sSet_ap, sRet_ap, sExpr_ap, sNext_ap, sFor_ap, sSetIx_ap, eOp_ap, eUn_ap, eC_ap, eVar0, eVar_1, eVar_2, eVar_3, eVar_4, eVar_5, eVar_6, eVar_7, eVar_8, eVar_9, eCall_ap, aNil_ap, aCons_ap, eTup_ap, eLst_ap, cTest_ap, cTru_ap, cAnd_ap, cOr_ap, cNot_ap, cYes_ap, eIf_ap, eAnd_ap, eOr_ap, eNot_ap, eSl_ap, oNone_ap, oSome_ap, iRg1_ap, iRg2_ap, iAnyF_ap, eLm1_ap, eChain_ap, eDnew_ap, pNil_ap, pCons_ap, eDisp_ap, eGd_ap, bx_int, bx_str, bx_bl, bx_non, bx_tup, bx_rol, bx_obj, bx_ref, bx_lst, tru_bl, Sm.sl_tup, get_lst, get_tup, len_tup, R.bind_ok, R.bind_exc, toS_ok, toS_exc, then_nx, then_rt, then_bk, then_ct, then_exc, add_ii, sub_ii, mul_r, mod_ii, fdiv_ii, pow_ii, lt_ii, le_ii, gt_ii, ge_ii, eq_ii, ne_ii, eq_ss, ne_ss, eq_tz, eq_lz, isi_non, isi_bl, isi_int, isi_str, isi_tup, subB, get_tup0, Pl.hs, wordsL])).trans ?_
  refine (seq_nx (a1 := [some (.rol (ns.map A.int)), some (.ref 1), some (.ref 2), none, none, none, none, none, none, none]) (h1 := (Pl.mk cs 0 0 f 0).hs ++ [.lst wordsL]) ?_).trans ?_
  · have t1 : tupA (.ref 2) ((Pl.mk cs 0 0 f 0).hs ++ [.lst wordsL]) = .ok (.tup wordsL) ((Pl.mk cs 0 0 f 0).hs ++ [.lst wordsL]) := tup_ref rfl
    have t2 : neA (.tup v_WORDS) (.tup wordsL) ((Pl.mk cs 0 0 f 0).hs ++ [.lst wordsL]) = .ok (.bl false) ((Pl.mk cs 0 0 f 0).hs ++ [.lst wordsL]) := by
      have q := eqB_tstrs ((Pl.mk cs 0 0 f 0).hs ++ [.lst wordsL]) ["open", "close", "renew", "use", "set", "drop", "lock", "unlock", "go", "rest"] (by decide +kernel) (by decide +kernel)
      unfold neA
      rw [show eqB (.tup v_WORDS) (.tup wordsL) ((Pl.mk cs 0 0 f 0).hs ++ [.lst wordsL]) = some true from q]
      rfl
    simp only [sSeq_ap, sIf_ap, sSet_ap, sRet_ap, sExpr_ap, sNext_ap, sFor_ap, sSetIx_ap, eOp_ap, eUn_ap, eC_ap, eVar0, eVar_1, eVar_2, eVar_3, eVar_4, eVar_5, eVar_6, eVar_7, eVar_8, eVar_9, eCall_ap, aNil_ap, aCons_ap, eTup_ap, eLst_ap, cTest_ap, cTru_ap, cAnd_ap, cOr_ap, cNot_ap, cYes_ap, eIf_ap, eAnd_ap, eOr_ap, eNot_ap, eSl_ap, oNone_ap, oSome_ap, iRg1_ap, iRg2_ap, iAnyF_ap, eLm1_ap, eChain_ap, eDnew_ap, pNil_ap, pCons_ap, eDisp_ap, eGd_ap, bx_int, bx_str, bx_bl, bx_non, bx_tup, bx_rol, bx_obj, bx_ref, bx_lst, tru_bl, Sm.sl_tup, get_lst, get_tup, len_tup, R.bind_ok, R.bind_exc, toS_ok, toS_exc, then_nx, then_rt, then_bk, then_ct, then_exc, add_ii, sub_ii, mul_r, mod_ii, fdiv_ii, pow_ii, lt_ii, le_ii, gt_ii, ge_ii, eq_ii, ne_ii, eq_ss, ne_ss, eq_tz, eq_lz, isi_non, isi_bl, isi_int, isi_str, isi_tup, subB, get_tup0, t1, t2]
    rfl
  refine (seq_nx (a1 := [some (.rol (ns.map A.int)), some (.ref 1), some (.ref 2), u3, u4, u5, u6, u7, u8, none]) (h1 := h1) ?_).trans fin
  have ei : iRg1 (aCons (eC (.int 20)) aNil) [some (.rol (ns.map A.int)), some (.ref 1), some (.ref 2), none, none, none, none, none, none, none] ((Pl.mk cs 0 0 f 0).hs ++ [.lst wordsL]) = .ok ⟨rgItems 0 20, none⟩ ((Pl.mk cs 0 0 f 0).hs ++ [.lst wordsL]) := by
    rw [iRg1_ap]
    have k20 := rg_nat (h := (Pl.mk cs 0 0 f 0).hs ++ [.lst wordsL]) (r := 20) (by omega)
    simp only [aCons_ap, R.bind_ok, eC_ap, bx_int, aNil_ap]
    exact k20
  rw [sFor_ap, ei, toS_ok]
  exact p1

def fa : List He.Fa := [.free "isinstance", .free "int", .free "bool", .free "str", .free "len", .free "all", .free "tuple", .free "abs", .free "range", .free "repr", .glo "is_integer", .glo "is_count", .glo "is_name", .glo "is_row", .glo "_law_begin", .glo "_law_mixed", .glo "_law_draw", .glo "_law_bad_number", .glo "_law_bad_name", .glo "_law_word_ok", .glo "_law_count_ok", .glo "_law_row_ok", .glo "law", .str "LETTERS" "abcdefghijklmnopqrstuvwxyz", .int "MOST_LETTERS" (8), .glo "WORDS", .glo "SIZES", .int "MOST_TARGETS" (4)]
def fn : List He.DefD := [⟨("is_integer", none), "is_integer", "is_integer", defArgs s_is_integer, defBody s_is_integer, defScope s_is_integer, [], []⟩, ⟨("is_count", none), "is_count", "is_count", defArgs s_is_count, defBody s_is_count, defScope s_is_count, [], []⟩, ⟨("is_name", none), "is_name", "is_name", defArgs s_is_name, defBody s_is_name, defScope s_is_name, [], []⟩, ⟨("is_row", none), "is_row", "is_row", defArgs s_is_row, defBody s_is_row, defScope s_is_row, [], []⟩, ⟨("_law_begin", none), "_law_begin", "_law_begin", defArgs s__law_begin, defBody s__law_begin, defScope s__law_begin, [], []⟩, ⟨("_law_mixed", none), "_law_mixed", "_law_mixed", defArgs s__law_mixed, defBody s__law_mixed, defScope s__law_mixed, [], []⟩, ⟨("_law_draw", none), "_law_draw", "_law_draw", defArgs s__law_draw, defBody s__law_draw, defScope s__law_draw, [], []⟩, ⟨("_law_bad_number", none), "_law_bad_number", "_law_bad_number", defArgs s__law_bad_number, defBody s__law_bad_number, defScope s__law_bad_number, [], []⟩, ⟨("_law_bad_name", none), "_law_bad_name", "_law_bad_name", defArgs s__law_bad_name, defBody s__law_bad_name, defScope s__law_bad_name, [], []⟩, ⟨("_law_word_ok", none), "_law_word_ok", "_law_word_ok", defArgs s__law_word_ok, defBody s__law_word_ok, defScope s__law_word_ok, [], []⟩, ⟨("_law_count_ok", none), "_law_count_ok", "_law_count_ok", defArgs s__law_count_ok, defBody s__law_count_ok, defScope s__law_count_ok, [], []⟩, ⟨("_law_row_ok", none), "_law_row_ok", "_law_row_ok", defArgs s__law_row_ok, defBody s__law_row_ok, defScope s__law_row_ok, [], []⟩, ⟨("law", none), "law", "law", defArgs s_law, defBody s_law, defScope s_law, [], []⟩]
def w_SIZES : List (Str × He.Dv) := [("open", .int (2)), ("close", .int (2)), ("renew", .int (2)), ("use", .int (2)), ("set", .int (3)), ("drop", .int (2)), ("lock", .int (2)), ("unlock", .int (2)), ("rest", .int (1))]
def w_WORDS : List He.Dv := [.str "open", .str "close", .str "renew", .str "use", .str "set", .str "drop", .str "lock", .str "unlock", .str "go", .str "rest"]
def ts : List He.Tab := [(fun K => He.ga K "SIZES", ["open", "close", "renew", "use", "set", "drop", "lock", "unlock", "rest"])]
def ex (K : PySem.W.Frag) : Bool := He.valsB K (He.ga K "SIZES") w_SIZES && He.tupB K "WORDS" w_WORDS
abbrev R0 : PySem.W.OpenRow := PySem.W.OpenLaw.row PySem.Challenge.rw_handlesagain_k01_rows
abbrev hk : PySem.W.Hook := He.hookX 5 fa fn ts [] ex
def ob (s : PySem.W.SharedT) : He.AlX := He.obsX 5 fa fn ts [] ex (HandSHeadRun.getT s)
theorem ob_eq (s : PySem.W.SharedT) : ob s = hk.obs s.abs := He.obsX_eq (HandSHeadRun.getT_eq s)
theorem run : ∀ w : World, HandSHeadRun.RunEq R0 (PySem.W.view R0.prog [20]) hk ob 2000 ["is_integer", "is_count", "is_name", "is_row", "_law_begin", "_law_mixed", "_law_draw", "_law_bad_number", "_law_bad_name", "_law_word_ok", "_law_count_ok", "_law_row_ok", "LETTERS", "MOST_LETTERS", "WORDS", "SIZES", "MOST_TARGETS"] w :=
  (fun w => PySem.W.byRow2 "special-get-raises" (fun w => by intro os; kernel_rfl) (fun w => by intro os; kernel_rfl) w)
theorem gd_SIZES {w : World} {h : Heap} {K : PySem.W.Frag} (c : He.SaysX fa fn ts [] ex w h K) : ∀ z y, v_SIZES.lookup z = some y → ∃ v, KDct K w (He.ga K "SIZES") z v ∧ ∀ r n H, VR ⟨K, (nm K).cls, (nm K).fn⟩ r n H y v := by
  obtain ⟨es, n, k1, k2, k3⟩ := c.t.tab 0 rfl
  refine gd_of (u := w_SIZES) (fun q hq => ?_) ?_
  · obtain ⟨u, h1, h2⟩ := He.valsB_ok (He.ba c.more).1 hq
    exact ⟨es, n, u, k1, k2, h1, h2⟩
  · exact .cons (fun _ _ _ => .int _) (.cons (fun _ _ _ => .int _) (.cons (fun _ _ _ => .int _) (.cons (fun _ _ _ => .int _) (.cons (fun _ _ _ => .int _) (.cons (fun _ _ _ => .int _) (.cons (fun _ _ _ => .int _) (.cons (fun _ _ _ => .int _) (.cons (fun _ _ _ => .int _) (.nil)))))))))
theorem txt_of {w : World} {h : Heap} {K : PySem.W.Frag} {mg : Str → Option Value} (KX : K.In h) (G : h.Ns mainGlobals mg) (c : He.SaysX fa fn ts [] ex w h K) : Txt w K mg :=
  ⟨He.free_ok KX G (c.t.d.fact 0 rfl),
   He.free_ok KX G (c.t.d.fact 1 rfl),
   He.free_ok KX G (c.t.d.fact 2 rfl),
   He.free_ok KX G (c.t.d.fact 3 rfl),
   He.free_ok KX G (c.t.d.fact 4 rfl),
   He.free_ok KX G (c.t.d.fact 5 rfl),
   He.free_ok KX G (c.t.d.fact 6 rfl),
   He.free_ok KX G (c.t.d.fact 7 rfl),
   He.free_ok KX G (c.t.d.fact 8 rfl),
   He.free_ok KX G (c.t.d.fact 9 rfl),
   He.glo_ok KX G (c.t.d.fact 10 rfl),
   c.t.d.def_ 0 rfl,
   He.glo_ok KX G (c.t.d.fact 11 rfl),
   c.t.d.def_ 1 rfl,
   He.glo_ok KX G (c.t.d.fact 12 rfl),
   c.t.d.def_ 2 rfl,
   He.glo_ok KX G (c.t.d.fact 13 rfl),
   c.t.d.def_ 3 rfl,
   He.glo_ok KX G (c.t.d.fact 14 rfl),
   c.t.d.def_ 4 rfl,
   He.glo_ok KX G (c.t.d.fact 15 rfl),
   c.t.d.def_ 5 rfl,
   He.glo_ok KX G (c.t.d.fact 16 rfl),
   c.t.d.def_ 6 rfl,
   He.glo_ok KX G (c.t.d.fact 17 rfl),
   c.t.d.def_ 7 rfl,
   He.glo_ok KX G (c.t.d.fact 18 rfl),
   c.t.d.def_ 8 rfl,
   He.glo_ok KX G (c.t.d.fact 19 rfl),
   c.t.d.def_ 9 rfl,
   He.glo_ok KX G (c.t.d.fact 20 rfl),
   c.t.d.def_ 10 rfl,
   He.glo_ok KX G (c.t.d.fact 21 rfl),
   c.t.d.def_ 11 rfl,
   He.glo_ok KX G (c.t.d.fact 22 rfl),
   c.t.d.def_ 12 rfl,
   He.str_ok KX G (c.t.d.fact 23 rfl),
   He.int_ok KX G (c.t.d.fact 24 rfl),
   ⟨_, _, He.glo_ok KX G (c.t.d.fact 25 rfl), fun H => He.tupB_ok (He.ba c.more).2 H, fun r n H => .cons (.str _) (.cons (.str _) (.cons (.str _) (.cons (.str _) (.cons (.str _) (.cons (.str _) (.cons (.str _) (.cons (.str _) (.cons (.str _) (.cons (.str _) (.nil))))))))))⟩,
   ⟨_, He.glo_ok KX G (c.t.d.fact 26 rfl), gd_SIZES c⟩,
   He.int_ok KX G (c.t.d.fact 27 rfl)⟩
theorem law_end {w : World} {h : Heap} {mg : Str → Option Value} {fa0 : Addr} {K : PySem.W.Frag} (KX : K.In h) (G : h.Ns mainGlobals mg) (hmg : mg ("law" : Str) = some (.ref fa0)) (c : He.SaysX fa fn ts [] ex w h K) :
    ∃ (K : PySem.W.Frag) (fd : FuncData) (sp : Sp), K.In h ∧ (∀ (s : Shared) (u : Value), BindsTo s fd ⟨[u], []⟩ [("script", u)]) ∧
      (∀ (H : Hp) (a : Addr) (ns : List Int), ns.length ≤ 63 → Only H → SqL K H a (ns.map V.int) → sp [.ref a] H (fun v _ => v = .bl true) fun _ _ _ => False) ∧
      ∀ base : Heap, K.In base → base.Ns mainGlobals mg → FnOk (PySem.Challenge.rw_handlesagain_k01_rows).prog w K mg base CX0 4 fa0 fd ["script"] sp := by
  have T := txt_of KX G c
  obtain ⟨fd, F⟩ := T.d_law
  have e := hmg.symm.trans T.g_law
  cases e
  have b := FunD.bindsA (ps := ["script"]) F fun _ _ _ _ _ _ us hl => match us, hl with | [_], _ => rfl
  exact ⟨K, fd, fun vs H Q _ => spOf ⟨K, (nm K).cls, (nm K).fn⟩ 1 m_law vs H Q fun _ _ _ => False, KX, fun s v => b s [v] rfl, fun H a ns hl hO hS => law_sp hO hS (law_ok ns hl), fun base _ _ => quiet (ok_law T F)⟩
end KW
open PySem PySem.W PySem.Calls PyProof.Rows
theorem PySem.Challenge.cw_handlesagain_k01_rows_holds : PySem.Challenge.rw_handlesagain_k01_rows.Holds := by
  w_on; o_law
  refine HandSHeadRun.head_any (r := OpenLaw.row PySem.Challenge.rw_handlesagain_k01_rows) (q := view (OpenLaw.row PySem.Challenge.rw_handlesagain_k01_rows).prog [20]) (H := KW.hk) (ob := KW.ob) (M := 2000) (loose := ["is_integer", "is_count", "is_name", "is_row", "_law_begin", "_law_mixed", "_law_draw", "_law_bad_number", "_law_bad_name", "_law_word_ok", "_law_count_ok", "_law_row_ok", "LETTERS", "MOST_LETTERS", "WORDS", "SIZES", "MOST_TARGETS"]) (d := HandSHeadRun.topDef (OpenLaw.row PySem.Challenge.rw_handlesagain_k01_rows).prog 20) (kwd := []) KW.ob_eq
    (by kernel_rfl) (fun s => by kernel_rfl) KW.run (by kernel_rfl) (by kernel_rfl) (by kernel_rfl) (by rfl) (by first | assumption | decide +kernel) (by decide +kernel) ⟨rfl, rfl, rfl, rfl, rfl, by decide +kernel⟩ ?hw ?hc
  case hw => w_witness2
  case hc =>
    refine L2.walk_ofE (l := PySem.Challenge.rw_handlesagain_k01_rows) (n := 63) (k := 4) (x := "script") (CX := L2.CX0) rfl (by decide) (by kernel_rfl) ⟨rfl, by decide, by decide⟩ ?F (fun _ _ _ _ z => z)
    case F =>
      intro w mg fa h Y G hmg0
      obtain ⟨K, KX, c⟩ := Y
      have hmg : mg ("law" : PySem.Str) = some (.ref fa) := by
        have e : (HandSHeadRun.topDef (OpenLaw.row PySem.Challenge.rw_handlesagain_k01_rows).prog 20).name = ("law" : PySem.Str) := by kernel_rfl
        rw [← e]
        exact hmg0
      exact KW.law_end KX G hmg c
