import PyProof.Rows.All
import Wide.All
import OpenK.AllK
import Wide.FinOn
import HandS.ForMost
import HandS.IsInst
import HandS.Exc
import HandS.ExcOwn
import HandS.StrMore
import HandS.TupAny
import HandS.TupMul
import HandS.Wide
import HandS.WideBits
import HandS.Style
import HandS.Flow
import HandS.RaiseMore
import HandS.More
import HandS.Conv
import HandS.TryOnly
import HandS.Small
import HandS.ExcInit
import HandS.TryMany
import HandS.ExcField
import KE.KExcInit
import KE.KExcIs
import KE.KIsAll
import KE.IntTextLaws
import KE.KIntText
import PySem.Challenge.RW_keptinorder_k10_frames_refused_and_judge
set_option Elab.async false
set_option linter.all false
set_option maxRecDepth 100000
set_option maxHeartbeats 4000000
/-! Ko, part A: abstract values by content, the abstract heap, worlds, and what ties them to HandS's heap. -/
namespace Ko
open PySem L2

/-- values: tuples, and lists and dicts that nobody changes, by their content; all else that changes by its place -/
inductive AV where
  | non | bl (b : Bool) | int (i : Int) | str (z : Str)
  | tup (xs : List AV) | lst (xs : List AV) | dct (kvs : List (Key × AV))
  | ref (n : Nat)

/-- an object that changes -/
inductive AO where
  | lst (xs : List AV)
  | dct (kvs : List (Key × AV))
  | ins (c : Str) (fs : List (Str × AV))

abbrev AH := List AO
abbrev Rho := List (Option AV)
/-- an exception: its class, its fields -/
structure EX where
  c : Str
  fs : List (Str × AV)

/-- how far an expression comes -/
inductive Ot (α : Type) where
  | ok (a : α) (ah : AH)
  | ex (x : EX) (ah : AH)
  | st
def Ot.bind {α β : Type} : Ot α → (α → AH → Ot β) → Ot β
  | .ok a ah, f => f a ah
  | .ex x ah, _ => .ex x ah
  | .st, _ => .st

mutual
inductive RV (K : PySem.W.Frag) (fz : Hp) (io : List Addr) : AV → V → Prop
  | non : RV K fz io .non .non
  | bl (b : Bool) : RV K fz io (.bl b) (.bl b)
  | int (i : Int) : RV K fz io (.int i) (.int i)
  | str (z : Str) : RV K fz io (.str z) (.str z)
  | tup {a : Addr} {xs : List AV} {vs : List V} : SqT K fz a vs → RVs K fz io xs vs → RV K fz io (.tup xs) (.ref a)
  | lst {a : Addr} {xs : List AV} {vs : List V} : Rd fz a (.lst vs) → RVs K fz io xs vs → RV K fz io (.lst xs) (.ref a)
  | dct {a : Addr} {kvs : List (Key × AV)} {ws : List (Key × V)} : fz a = some (.dK ws) → RKs K fz io kvs ws → RV K fz io (.dct kvs) (.ref a)
  | ref {n : Nat} {a : Addr} : io[n]? = some a → RV K fz io (.ref n) (.ref a)
inductive RVs (K : PySem.W.Frag) (fz : Hp) (io : List Addr) : List AV → List V → Prop
  | nil : RVs K fz io [] []
  | cons {x : AV} {v : V} {xs : List AV} {vs : List V} : RV K fz io x v → RVs K fz io xs vs → RVs K fz io (x :: xs) (v :: vs)
inductive RKs (K : PySem.W.Frag) (fz : Hp) (io : List Addr) : List (Key × AV) → List (Key × V) → Prop
  | nil : RKs K fz io [] []
  | cons {k : Key} {x : AV} {v : V} {xs : List (Key × AV)} {vs : List (Key × V)} : RV K fz io x v → RKs K fz io xs vs → RKs K fz io ((k, x) :: xs) ((k, v) :: vs)
end

section
variable {K : PySem.W.Frag} {fz fz' : Hp} {io io' : List Addr}
theorem same_tup {H H' : Hp} {a : Addr} {vs : List V} (e : Same H H') (h : SqT K H a vs) : SqT K H' a vs := by
  rcases h with (h | ⟨o, h⟩) | h
  · exact .inl (.inl (e _ _ h))
  · exact .inl (.inr ⟨o, e _ _ h⟩)
  · exact .inr h
theorem same_rd {H H' : Hp} {a : Addr} {o : HO} (e : Same H H') (h : Rd H a o) : Rd H' a o := by
  rcases h with h | ⟨u, h⟩
  · exact .inl (e _ _ h)
  · exact .inr ⟨u, e _ _ h⟩
mutual
theorem RV.mono (e : Same fz fz') (p : io <+: io') : ∀ {x : AV} {v : V}, RV K fz io x v → RV K fz' io' x v
  | _, _, .non => .non
  | _, _, .bl b => .bl b
  | _, _, .int i => .int i
  | _, _, .str z => .str z
  | _, _, .tup h r => .tup (same_tup e h) (RVs.mono e p r)
  | _, _, .lst h r => .lst (same_rd e h) (RVs.mono e p r)
  | _, _, .dct h r => .dct (e _ _ h) (RKs.mono e p r)
  | _, _, .ref h => .ref (by
      obtain ⟨t, rfl⟩ := p
      rw [List.getElem?_append_left (List.getElem?_eq_some_iff.mp h).1]
      exact h)
theorem RVs.mono (e : Same fz fz') (p : io <+: io') : ∀ {xs : List AV} {vs : List V}, RVs K fz io xs vs → RVs K fz' io' xs vs
  | _, _, .nil => .nil
  | _, _, .cons r t => .cons (RV.mono e p r) (RVs.mono e p t)
theorem RKs.mono (e : Same fz fz') (p : io <+: io') : ∀ {xs : List (Key × AV)} {vs : List (Key × V)}, RKs K fz io xs vs → RKs K fz' io' xs vs
  | _, _, .nil => .nil
  | _, _, .cons r t => .cons (RV.mono e p r) (RKs.mono e p t)
end
theorem RVs.length : ∀ {xs : List AV} {vs : List V}, RVs K fz io xs vs → vs.length = xs.length
  | _, _, .nil => rfl
  | _, _, .cons _ t => by simp [RVs.length t]
theorem RVs.get : ∀ {xs : List AV} {vs : List V} {i : Nat} {x : AV}, RVs K fz io xs vs → xs[i]? = some x → ∃ v, vs[i]? = some v ∧ RV K fz io x v
  | _, _, _, _, .nil, e => by simp at e
  | _, _, 0, _, .cons r _, e => by simp at e; subst e; exact ⟨_, rfl, r⟩
  | _, _, i + 1, x, .cons _ t, e => by
    obtain ⟨u, h1, h2⟩ := RVs.get (i := i) (x := x) t (by simpa using e)
    exact ⟨u, by simpa using h1, h2⟩
theorem RVs.back : ∀ {xs : List AV} {vs : List V} {i : Nat} {v : V}, RVs K fz io xs vs → vs[i]? = some v → ∃ x, xs[i]? = some x ∧ RV K fz io x v
  | _, _, _, _, .nil, e => by simp at e
  | _, _, 0, _, .cons r _, e => by simp at e; subst e; exact ⟨_, rfl, r⟩
  | _, _, i + 1, v, .cons _ t, e => by
    obtain ⟨u, h1, h2⟩ := RVs.back (i := i) (v := v) t (by simpa using e)
    exact ⟨u, by simpa using h1, h2⟩
theorem RVs.append : ∀ {xs ys : List AV} {us ws : List V}, RVs K fz io xs us → RVs K fz io ys ws → RVs K fz io (xs ++ ys) (us ++ ws)
  | _, _, _, _, .nil, s => s
  | _, _, _, _, .cons r t, s => .cons r (RVs.append t s)
theorem RVs.take : ∀ {xs : List AV} {us : List V} (n : Nat), RVs K fz io xs us → RVs K fz io (xs.take n) (us.take n)
  | _, _, 0, _ => .nil
  | _, _, _ + 1, .nil => .nil
  | _, _, n + 1, .cons r t => .cons r (RVs.take n t)
theorem RVs.drop : ∀ {xs : List AV} {us : List V} (n : Nat), RVs K fz io xs us → RVs K fz io (xs.drop n) (us.drop n)
  | _, _, 0, r => r
  | _, _, _ + 1, .nil => .nil
  | _, _, n + 1, .cons _ t => RVs.drop n t
theorem RVs.set {x : AV} {v : V} (r : RV K fz io x v) : ∀ {xs : List AV} {vs : List V} (i : Nat), RVs K fz io xs vs → RVs K fz io (xs.set i x) (vs.set i v)
  | _, _, _, .nil => .nil
  | _, _, 0, .cons _ t => .cons r t
  | _, _, i + 1, .cons q t => .cons q (RVs.set r i t)
end

/-- a world: what stands for ever, where the changing objects stand -/
structure Wd where
  fz : Hp
  io : List Addr
abbrev Wd.RV (W : Wd) (K : PySem.W.Frag) (x : AV) (v : V) : Prop := Ko.RV K W.fz W.io x v
abbrev Wd.RVs (W : Wd) (K : PySem.W.Frag) (xs : List AV) (vs : List V) : Prop := Ko.RVs K W.fz W.io xs vs

/-- class names and addresses -/
structure Nm where
  cls : Str → Option Addr

/-- fields of an object -/
abbrev RFs (K : PySem.W.Frag) (W : Wd) : List (Str × AV) → List (Str × V) → Prop := Paired fun p q => p.1 = q.1 ∧ W.RV K p.2 q.2

/-- what an abstract object is at its address -/
def RO (K : PySem.W.Frag) (nm : Nm) (W : Wd) (H : Hp) (a : Addr) : AO → Prop
  | .lst xs => ∃ vs, H a = some (.lst vs) ∧ W.RVs K xs vs
  | .dct kvs => ∃ ws, H a = some (.dK ws) ∧ RKs K W.fz W.io kvs ws
  | .ins c fs => ∃ C dx ws, nm.cls c = some C ∧ H a = some (.ins C dx ws) ∧ RFs K W fs ws

structure RelH (K : PySem.W.Frag) (nm : Nm) (W : Wd) (ah : AH) (H : Hp) : Prop where
  fz : Same W.fz H
  len : W.io.length = ah.length
  nd : W.io.Nodup
  sep : ∀ a ∈ W.io, W.fz a = none
  obj : ∀ (i : Nat) (a : Addr) (o : AO), W.io[i]? = some a → ah[i]? = some o → RO K nm W H a o

/-- from one moment to a later one -/
structure Step (W : Wd) (H : Hp) (W' : Wd) (H' : Hp) : Prop where
  io : W.io <+: W'.io
  fz : Same W.fz W'.fz
  fr : ∀ b o, H b = some o → b ∉ W.io → H' b = some o
  nio : ∀ a ∈ W'.io, a ∈ W.io ∨ H a = none
  nfz : ∀ b, W'.fz b ≠ none → W.fz b ≠ none ∨ H b = none
  dom : ∀ b, H' b = none → H b = none
theorem Step.refl (W : Wd) (H : Hp) : Step W H W H := ⟨List.prefix_refl _, Same.refl _, fun _ _ h _ => h, fun _ h => .inl h, fun _ h => .inl h, fun _ h => h⟩
theorem Step.trans {W W1 W2 : Wd} {H H1 H2 : Hp} (a : Step W H W1 H1) (b : Step W1 H1 W2 H2) : Step W H W2 H2 where
  io := a.io.trans b.io
  fz := a.fz.trans b.fz
  fr := fun c o h n => b.fr c o (a.fr c o h n) fun m => (a.nio c m).elim n fun z => by rw [z] at h; cases h
  nio := fun c m => (b.nio c m).elim (fun m1 => a.nio c m1) fun z => .inr (a.dom c z)
  nfz := fun c m => (b.nfz c m).elim (fun m1 => a.nfz c m1) fun z => .inr (a.dom c z)
  dom := fun c z => a.dom c (b.dom c z)
theorem RV.step {K : PySem.W.Frag} {W W' : Wd} {H H' : Hp} {x : AV} {v : V} (s : Step W H W' H') (r : W.RV K x v) : W'.RV K x v := r.mono s.fz s.io
theorem RVs.step {K : PySem.W.Frag} {W W' : Wd} {H H' : Hp} {x : List AV} {v : List V} (s : Step W H W' H') (r : W.RVs K x v) : W'.RVs K x v := r.mono s.fz s.io
theorem RFs.step {K : PySem.W.Frag} {W W' : Wd} {H H' : Hp} (s : Step W H W' H') : ∀ {x : List (Str × AV)} {v : List (Str × V)}, RFs K W x v → RFs K W' x v
  | _, _, .nil => .nil
  | _, _, .cons r t => .cons ⟨r.1, r.2.step s⟩ (RFs.step s t)

/-- a new thing that stands for ever -/
def Wd.keep (W : Wd) (p : Addr) (o : HO) : Wd := ⟨upd W.fz p o, W.io⟩
/-- a new object that changes -/
def Wd.more (W : Wd) (p : Addr) : Wd := ⟨W.fz, W.io ++ [p]⟩

section
variable {K : PySem.W.Frag} {nm : Nm} {W : Wd} {ah : AH} {H : Hp}
theorem RelH.nio (R : RelH K nm W ah H) {a : Addr} (h : a ∈ W.io) : ∃ o, H a = some o := by
  obtain ⟨i, hi⟩ := List.getElem?_of_mem h
  obtain ⟨o, ho⟩ : ∃ o, ah[i]? = some o := by
    have : i < ah.length := by rw [← R.len]; exact (List.getElem?_eq_some_iff.mp hi).1
    exact ⟨_, List.getElem?_eq_getElem this⟩
  have q := R.obj i a o hi ho
  cases o with
  | lst xs => obtain ⟨vs, e, _⟩ := q; exact ⟨_, e⟩
  | dct xs => obtain ⟨vs, e, _⟩ := q; exact ⟨_, e⟩
  | ins c fs => obtain ⟨C, dx, ws, _, e, _⟩ := q; exact ⟨_, e⟩
theorem RelH.fresh (R : RelH K nm W ah H) {p : Addr} (h : H p = none) : p ∉ W.io ∧ W.fz p = none := by
  refine ⟨fun m => ?_, ?_⟩
  · obtain ⟨o, e⟩ := R.nio m
    rw [h] at e; cases e
  · cases q : W.fz p with
    | none => rfl
    | some o => rw [R.fz p o q] at h; cases h
theorem RO.mono {W' : Wd} {H' : Hp} {a : Addr} {o : AO} (e : Same W.fz W'.fz) (p : W.io <+: W'.io) (h : H' a = H a) (r : RO K nm W H a o) : RO K nm W' H' a o := by
  cases o with
  | lst xs => obtain ⟨vs, q, r⟩ := r; exact ⟨vs, h.trans q, r.mono e p⟩
  | dct xs => obtain ⟨vs, q, r⟩ := r; exact ⟨vs, h.trans q, r.mono e p⟩
  | ins c fs =>
    obtain ⟨C, dx, ws, q0, q, r⟩ := r
    refine ⟨C, dx, ws, q0, h.trans q, ?_⟩
    exact Paired.mapP r fun _ _ z => ⟨z.1, z.2.mono e p⟩
theorem Step.keep (R : RelH K nm W ah H) {p : Addr} {o : HO} (h : H p = none) : Step W H (W.keep p o) (upd H p o) := by
  refine ⟨List.prefix_refl _, fun b u e => ?_, fun b u e n => ?_, fun b m => .inl m, fun b q => ?_, fun b q => ?_⟩
  · show upd W.fz p o b = some u
    rw [upd_ne (fun z => by rw [z, (R.fresh h).2] at e; cases e)]; exact e
  · rw [upd_ne (ne_of_none e h)]; exact e
  · by_cases hb : b = p
    · exact .inr (by rw [hb]; exact h)
    · refine .inl ?_
      have q' : upd W.fz p o b ≠ none := q
      rw [upd_ne hb] at q'; exact q'
  · by_cases hb : b = p
    · rw [hb]; exact h
    · rw [upd_ne hb] at q; exact q
theorem RelH.keep (R : RelH K nm W ah H) {p : Addr} {o : HO} (h : H p = none) : RelH K nm (W.keep p o) ah (upd H p o) := by
  have S := Step.keep (o := o) R h
  refine ⟨fun b u e => ?_, R.len, R.nd, fun a m => ?_, fun i a u e1 e2 => ?_⟩
  · have e' : upd W.fz p o b = some u := e
    by_cases hb : b = p
    · subst hb; rw [upd_same] at e' ⊢; exact e'
    · rw [upd_ne hb] at e' ⊢; exact R.fz b u e'
  · show upd W.fz p o a = none
    rw [upd_ne (fun z : a = p => (R.fresh h).1 (by rw [← z]; exact m))]
    exact R.sep a m
  · have m : a ∈ W.io := List.mem_of_getElem? e1
    exact (R.obj i a u e1 e2).mono S.fz S.io (upd_ne (fun z : a = p => (R.fresh h).1 (by rw [← z]; exact m)))
theorem Step.more (R : RelH K nm W ah H) {p : Addr} {o : HO} (h : H p = none) : Step W H (W.more p) (upd H p o) := by
  refine ⟨List.prefix_append _ _, Same.refl _, fun b u e n => ?_, fun b m => ?_, fun b q => .inl q, fun b q => ?_⟩
  · rw [upd_ne (ne_of_none e h)]; exact e
  · rcases List.mem_append.mp m with m | m
    · exact .inl m
    · exact .inr (by rw [List.mem_singleton.mp m]; exact h)
  · by_cases hb : b = p
    · rw [hb]; exact h
    · rw [upd_ne hb] at q; exact q
theorem RelH.more (R : RelH K nm W ah H) {p : Addr} {o : HO} {u : AO} (h : H p = none) (new : RO K nm (W.more p) (upd H p o) p u) : RelH K nm (W.more p) (ah ++ [u]) (upd H p o) := by
  have S := Step.more (o := o) R h
  refine ⟨fun b x e => ?_, ?_, ?_, fun a m => ?_, fun i a x e1 e2 => ?_⟩
  · have e' : W.fz b = some x := e
    rw [upd_ne (ne_of_none (R.fz b x e') h)]
    exact R.fz b x e'
  · show (W.io ++ [p]).length = _
    rw [List.length_append, List.length_append, R.len]; rfl
  · show (W.io ++ [p]).Nodup
    refine List.nodup_append.mpr ⟨R.nd, by simp, fun a ha b hb z => ?_⟩
    rw [List.mem_singleton.mp hb] at z
    exact (R.fresh h).1 (z ▸ ha)
  · have m' : a ∈ W.io ++ [p] := m
    rcases List.mem_append.mp m' with m' | m'
    · exact R.sep a m'
    · rw [List.mem_singleton.mp m']; exact (R.fresh h).2
  · have e1' : (W.io ++ [p])[i]? = some a := e1
    by_cases hi : i < ah.length
    · rw [List.getElem?_append_left (by rw [R.len]; exact hi)] at e1'
      rw [List.getElem?_append_left hi] at e2
      have m : a ∈ W.io := List.mem_of_getElem? e1'
      exact (R.obj i a x e1' e2).mono S.fz S.io (upd_ne (fun z : a = p => (R.fresh h).1 (by rw [← z]; exact m)))
    · have hl : i < ah.length + 1 := by
        have q := (List.getElem?_eq_some_iff.mp e2).1
        rw [List.length_append] at q
        exact q
      have hi' : i = ah.length := by omega
      subst hi'
      rw [List.getElem?_append_right (by rw [R.len]; exact Nat.le_refl _), R.len, Nat.sub_self] at e1'
      rw [List.getElem?_append_right (Nat.le_refl _), Nat.sub_self] at e2
      cases e1'
      cases e2
      exact new
theorem Step.write (R : RelH K nm W ah H) {n : Nat} {p : Addr} {o : HO} (e : W.io[n]? = some p) : Step W H W (upd H p o) := by
  have m : p ∈ W.io := List.mem_of_getElem? e
  refine ⟨List.prefix_refl _, Same.refl _, fun b u e n => ?_, fun b m => .inl m, fun b q => .inl q, fun b q => ?_⟩
  · rw [upd_ne (fun z : b = p => n (by rw [z]; exact m))]; exact e
  · by_cases hb : b = p
    · rw [hb, upd_same] at q; cases q
    · rw [upd_ne hb] at q; exact q
theorem RelH.write (R : RelH K nm W ah H) {n : Nat} {p : Addr} {o : HO} {u : AO} (e : W.io[n]? = some p) (new : RO K nm W (upd H p o) p u) : RelH K nm W (ah.set n u) (upd H p o) := by
  have m : p ∈ W.io := List.mem_of_getElem? e
  refine ⟨fun b x q => ?_, ?_, R.nd, R.sep, fun i a x e1 e2 => ?_⟩
  · rw [upd_ne (fun z => by rw [z, R.sep p m] at q; cases q)]
    exact R.fz b x q
  · rw [List.length_set]; exact R.len
  · by_cases hi : i = n
    · subst hi
      rw [e] at e1
      cases e1
      have hl : i < ah.length := by rw [← R.len]; exact (List.getElem?_eq_some_iff.mp e).1
      rw [List.getElem?_set_self hl] at e2
      cases e2
      exact new
    · rw [List.getElem?_set_ne (Ne.symm hi)] at e2
      refine (R.obj i a x e1 e2).mono (Same.refl _) (List.prefix_refl _) (upd_ne fun z => hi ?_)
      subst z
      have h1 := (List.getElem?_eq_some_iff.mp e1)
      have h2 := (List.getElem?_eq_some_iff.mp e)
      exact (List.getElem?_inj h1.1 R.nd).mp (e1.trans e.symm)
end
end Ko

/-! Ko, part B: readings of expressions by abstract functions. -/
namespace Ko
open PySem L2

section
variable {K : PySem.W.Frag} {nm : Nm} {W : Wd} {ah : AH} {H : Hp} {α β : Type}
/-- what must hold behind r: k of its value, e of its exception -/
def Post (K : PySem.W.Frag) (nm : Nm) (W : Wd) (H : Hp) (r : Ot α) (k : α → AH → Wd → Hp → Prop) (e : EX → AH → Wd → Hp → Prop) : Prop :=
  match r with
  | .ok a ah' => ∀ W' H', Step W H W' H' → RelH K nm W' ah' H' → k a ah' W' H'
  | .ex x ah' => ∀ W' H', Step W H W' H' → RelH K nm W' ah' H' → e x ah' W' H'
  | .st => False
theorem Post.imp {r : Ot α} {k k' : α → AH → Wd → Hp → Prop} {e e' : EX → AH → Wd → Hp → Prop} (p : Post K nm W H r k e)
    (h : ∀ a ah' W' H', Step W H W' H' → RelH K nm W' ah' H' → k a ah' W' H' → k' a ah' W' H') (he : ∀ x ah' W' H', Step W H W' H' → RelH K nm W' ah' H' → e x ah' W' H' → e' x ah' W' H') : Post K nm W H r k' e' := by
  cases r with
  | ok a ah' => exact fun W' H' s R => h a ah' W' H' s R (p W' H' s R)
  | ex x ah' => exact fun W' H' s R => he x ah' W' H' s R (p W' H' s R)
  | st => exact p
theorem Post.shift {r : Ot α} {W0 : Wd} {H0 : Hp} {k : α → AH → Wd → Hp → Prop} {e : EX → AH → Wd → Hp → Prop} (s : Step W0 H0 W H) (p : Post K nm W0 H0 r k e) : Post K nm W H r k e := by
  cases r with
  | ok a ah' => exact fun W' H' s' R => p W' H' (s.trans s') R
  | ex x ah' => exact fun W' H' s' R => p W' H' (s.trans s') R
  | st => exact p
theorem Post.bind {r : Ot α} {f : α → AH → Ot β} {k : β → AH → Wd → Hp → Prop} {e : EX → AH → Wd → Hp → Prop} (p : Post K nm W H (r.bind f) k e) :
    Post K nm W H r (fun a ah1 W1 H1 => Post K nm W1 H1 (f a ah1) k e) e := by
  cases r with
  | ok a ah' => exact fun W' H' s R => Post.shift s p
  | ex x ah' => exact p
  | st => exact p
end

/-- slots: what the abstract ones know -/
inductive RS (K : PySem.W.Frag) (W : Wd) : Rho → St → Prop
  | nil : RS K W [] []
  | un {o : Option V} {ρ : Rho} {σ : St} : RS K W ρ σ → RS K W (none :: ρ) (o :: σ)
  | kn {x : AV} {v : V} {ρ : Rho} {σ : St} : W.RV K x v → RS K W ρ σ → RS K W (some x :: ρ) (some v :: σ)
section
variable {K : PySem.W.Frag} {W W' : Wd} {H H' : Hp}
theorem RS.step (s : Step W H W' H') : ∀ {ρ : Rho} {σ : St}, RS K W ρ σ → RS K W' ρ σ
  | _, _, .nil => .nil
  | _, _, .un t => .un (RS.step s t)
  | _, _, .kn r t => .kn (r.step s) (RS.step s t)
theorem RS.get : ∀ {ρ : Rho} {σ : St} {i : Nat} {x : AV}, RS K W ρ σ → ρ[i]? = some (some x) → ∃ v, σ[i]? = some (some v) ∧ W.RV K x v
  | _, _, _, _, .nil, e => by simp at e
  | _, _, 0, _, .un _, e => by simp at e
  | _, _, 0, _, .kn r _, e => by simp at e; subst e; exact ⟨_, rfl, r⟩
  | _, _, i + 1, x, .un t, e => by
    obtain ⟨v, h1, h2⟩ := RS.get (i := i) (x := x) t (by simpa using e)
    exact ⟨v, by simpa using h1, h2⟩
  | _, _, i + 1, x, .kn _ t, e => by
    obtain ⟨v, h1, h2⟩ := RS.get (i := i) (x := x) t (by simpa using e)
    exact ⟨v, by simpa using h1, h2⟩
theorem RS.set {x : AV} {v : V} (r : W.RV K x v) : ∀ {ρ : Rho} {σ : St} (i : Nat), RS K W ρ σ → RS K W (ρ.set i (some x)) (σ.set i (some v))
  | _, _, _, .nil => .nil
  | _, _, 0, .un t => .kn r t
  | _, _, 0, .kn _ t => .kn r t
  | _, _, i + 1, .un t => .un (RS.set r i t)
  | _, _, i + 1, .kn q t => .kn q (RS.set r i t)
theorem RS.forget : ∀ {ρ : Rho} {σ : St} (i : Nat) (o : Option V), RS K W ρ σ → RS K W (ρ.set i none) (σ.set i o)
  | _, _, _, _, .nil => .nil
  | _, _, 0, _, .un t => .un t
  | _, _, 0, _, .kn _ t => .un t
  | _, _, i + 1, o, .un t => .un (RS.forget i o t)
  | _, _, i + 1, o, .kn q t => .kn q (RS.forget i o t)
theorem RS.length : ∀ {ρ : Rho} {σ : St}, RS K W ρ σ → σ.length = ρ.length
  | _, _, .nil => rfl
  | _, _, .un t => by simp [RS.length t]
  | _, _, .kn _ t => by simp [RS.length t]
end

/-- an exception's class and dict as x tells -/
def ExRep (K : PySem.W.Frag) (nm : Nm) (W : Wd) (x : EX) (cls : Value) (d : Option Addr) : Prop :=
  ∃ C, nm.cls x.c = some C ∧ cls = .ref C ∧ ((x.fs = [] ∧ d = none) ∨ ∃ dd ws, d = some dd ∧ W.fz dd = some (.xd ws) ∧ RFs K W x.fs ws)
/-- the wish about exceptions at slots σ -/
abbrev xw (K : PySem.W.Frag) (nm : Nm) (Wx : WX) (σ : St) : EX → AH → Wd → Hp → Prop := fun x _ W' H' => ∀ cls d, ExRep K nm W' x cls d → Wx cls d σ H'

section
variable (nm : Nm) (K : PySem.W.Frag) (Wx : WX)
def TrE (f : Rho → AH → Ot AV) : TE := fun σ H Q => ∃ W ρ ah, RelH K nm W ah H ∧ RS K W ρ σ ∧ Post K nm W H (f ρ ah) (fun v _ W' H' => ∀ w, W'.RV K v w → Q w H') (xw K nm Wx σ)
def TrA (f : Rho → AH → Ot (List AV)) : TA := fun σ H Q => ∃ W ρ ah, RelH K nm W ah H ∧ RS K W ρ σ ∧ Post K nm W H (f ρ ah) (fun v _ W' H' => ∀ w, W'.RVs K v w → Q w H') (xw K nm Wx σ)
def TrT (f : Rho → AH → Ot Bool) : TT := fun σ H Q => ∃ W ρ ah, RelH K nm W ah H ∧ RS K W ρ σ ∧ Post K nm W H (f ρ ah) (fun v _ W' H' => Q v H') (xw K nm Wx σ)
end

theorem PE.weak {X : Cx} {e : Expr} {t t' : TE} (h : PE X e t) (w : ∀ σ H Q, t' σ H Q → t σ H Q) : PE X e t' := ⟨fun pins s σ H Q I q => h.run pins s σ H Q I (w σ H Q q)⟩
theorem PT.weak {X : Cx} {e : Expr} {t t' : TT} (h : PT X e t) (w : ∀ σ H Q, t' σ H Q → t σ H Q) : PT X e t' := ⟨fun pins s σ H Q I q => h.run pins s σ H Q I (w σ H Q q)⟩
theorem PW.weak {X : Cx} {e : Expr} {t t' : TT} (h : PW X e t) (w : ∀ σ H Q, t' σ H Q → t σ H Q) : PW X e t' := ⟨fun wh pins s σ H Q I q => h.run wh pins s σ H Q I (w σ H Q q)⟩
theorem PA.weak {X : Cx} {e : List Expr} {t t' : TA} (h : PA X e t) (w : ∀ σ H Q, t' σ H Q → t σ H Q) : PA X e t' := ⟨fun p pins s σ H Q I q => h.run p pins s σ H Q I (w σ H Q q)⟩
theorem PS.weak {X : Cx} {e : Stmt} {t t' : TS} (h : PS X e t) (w : ∀ D σ H, t' D σ H → t D σ H) : PS X e t' := ⟨fun pins s σ H D I q => h.run pins s σ H D I (w D σ H q)⟩
theorem PSs.weak {X : Cx} {e : List Stmt} {t t' : TS} (h : PSs X e t) (w : ∀ D σ H, t' D σ H → t D σ H) : PSs X e t' := ⟨fun pins s σ H D I q => h.run pins s σ H D I (w D σ H q)⟩

section
variable (nm : Nm)
abbrev EV (X : Cx) (Wx : WX) (e : Expr) (f : Rho → AH → Ot AV) : Prop := PE X e (TrE nm X.K Wx f)
abbrev EA (X : Cx) (Wx : WX) (e : List Expr) (f : Rho → AH → Ot (List AV)) : Prop := PA X e (TrA nm X.K Wx f)
abbrev ET (X : Cx) (Wx : WX) (e : Expr) (f : Rho → AH → Ot Bool) : Prop := PT X e (TrT nm X.K Wx f)
abbrev EW (X : Cx) (Wx : WX) (e : Expr) (f : Rho → AH → Ot Bool) : Prop := PW X e (TrT nm X.K Wx f)
end

def Ot.of {α : Type} (o : Option α) (ah : AH) : Ot α := match o with | some a => .ok a ah | none => .st
/-- a value -/
def cF (v : AV) : Rho → AH → Ot AV := fun _ ah => .ok v ah
def vF (i : Nat) : Rho → AH → Ot AV := fun ρ ah => match ρ[i]? with | some (some v) => .ok v ah | _ => .st
def f2 (g : AH → AV → AV → Option AV) (a b : Rho → AH → Ot AV) : Rho → AH → Ot AV := fun ρ ah => (a ρ ah).bind fun x ah1 => (b ρ ah1).bind fun y ah2 => Ot.of (g ah2 x y) ah2
def f1 (g : AH → AV → Option AV) (a : Rho → AH → Ot AV) : Rho → AH → Ot AV := fun ρ ah => (a ρ ah).bind fun x ah1 => Ot.of (g ah1 x) ah1
def fA (g : AH → List AV → Option AV) (a : Rho → AH → Ot (List AV)) : Rho → AH → Ot AV := fun ρ ah => (a ρ ah).bind fun x ah1 => Ot.of (g ah1 x) ah1
def aNil : Rho → AH → Ot (List AV) := fun _ ah => .ok [] ah
def aCons (a : Rho → AH → Ot AV) (b : Rho → AH → Ot (List AV)) : Rho → AH → Ot (List AV) := fun ρ ah => (a ρ ah).bind fun x ah1 => (b ρ ah1).bind fun y ah2 => .ok (x :: y) ah2

/-- the reading of an operation on values, by an abstract function -/
def r2 (nm : Nm) (K : PySem.W.Frag) (g : AH → AV → AV → Option AV) : R2 := fun x y H Q => ∃ W ah a b c, RelH K nm W ah H ∧ W.RV K a x ∧ W.RV K b y ∧ g ah a b = some c ∧ ∀ W' H' w, Step W H W' H' → RelH K nm W' ah H' → W'.RV K c w → Q w H'
def r1 (nm : Nm) (K : PySem.W.Frag) (g : AH → AV → Option AV) : V → Hp → VK → Prop := fun x H Q => ∃ W ah a c, RelH K nm W ah H ∧ W.RV K a x ∧ g ah a = some c ∧ ∀ W' H' w, Step W H W' H' → RelH K nm W' ah H' → W'.RV K c w → Q w H'
def rA (nm : Nm) (K : PySem.W.Frag) (g : AH → List AV → Option AV) : List V → Hp → VK → Prop := fun x H Q => ∃ W ah a c, RelH K nm W ah H ∧ W.RVs K a x ∧ g ah a = some c ∧ ∀ W' H' w, Step W H W' H' → RelH K nm W' ah H' → W'.RV K c w → Q w H'

section
variable {nm : Nm} {X : Cx} {Wx : WX} {K : PySem.W.Frag}
/-- one after the other -/
theorem TrE.seq {f : Rho → AH → Ot AV} {g : AV → AH → Ot AV} {σ : St} {H : Hp} {Q : VK} {R : V → Hp → Prop} {W : Wd} {ρ : Rho} {ah : AH} (rh : RelH K nm W ah H) (rs : RS K W ρ σ)
    (p : Post K nm W H ((f ρ ah).bind g) (fun v _ W' H' => ∀ w, W'.RV K v w → Q w H') (xw K nm Wx σ))
    (h : ∀ a ah1 W1 H1 w, Step W H W1 H1 → RelH K nm W1 ah1 H1 → RS K W1 ρ σ → W1.RV K a w → Post K nm W1 H1 (g a ah1) (fun v _ W' H' => ∀ w, W'.RV K v w → Q w H') (xw K nm Wx σ) → R w H1) : TrE nm K Wx f σ H R :=
  ⟨W, ρ, ah, rh, rs, p.bind.imp (fun a ah1 W1 H1 s R1 q w r => h a ah1 W1 H1 w s R1 (rs.step s) r q) fun _ _ _ _ _ _ q => q⟩
theorem Post.of {o : Option AV} {ah : AH} {W : Wd} {H : Hp} {k : AV → AH → Wd → Hp → Prop} {e : EX → AH → Wd → Hp → Prop} (p : Post K nm W H (Ot.of o ah) k e) :
    ∃ c, o = some c ∧ ∀ W' H', Step W H W' H' → RelH K nm W' ah H' → k c ah W' H' := by
  cases o with
  | none => exact False.elim p
  | some c => exact ⟨c, rfl, p⟩

theorem ev_var {i : Nat} {x : Str} {pos : Pos} (hN : X.N[i]? = some x) (hv : Vis X.env.scope x) (hd : (x == ("__debug__" : Str)) = false) (hcd : (x == ("__classdict__" : Str)) = false) : EV nm X Wx (.Name x pos) (vF i) := by
  refine PE.weak (pe_var hN hv hd hcd) fun σ H Q ⟨W, ρ, ah, rh, rs, p⟩ => ?_
  unfold vF at p
  split at p
  · rename_i v e
    obtain ⟨u, h1, h2⟩ := rs.get e
    exact ⟨u, h1, p W H (Step.refl _ _) rh u h2⟩
  · exact False.elim p
theorem ev_of {e : Expr} {v : V} {a : AV} (h : PE X e (tC v)) (r : ∀ W : Wd, W.RV X.K a v) : EV nm X Wx e (cF a) :=
  PE.weak h fun σ H Q ⟨W, ρ, ah, rh, rs, p⟩ => p W H (Step.refl _ _) rh v (r W)
theorem ev_int {i j pos} : EV nm X Wx (.Constant (.int i) j pos) (cF (.int i)) := ev_of pe_int fun _ => .int i
theorem ev_bl {b j pos} : EV nm X Wx (.Constant (.bool b) j pos) (cF (.bl b)) := ev_of pe_bl fun _ => .bl b
theorem ev_non {j pos} : EV nm X Wx (.Constant .none j pos) (cF .non) := ev_of pe_non fun _ => .non
theorem ev_str {z j pos} : EV nm X Wx (.Constant (.str z) j pos) (cF (.str z)) := ev_of pe_str fun _ => .str z

theorem ev_bin {a b : Expr} {op : Operator} {g : AH → AV → AV → Option AV} {fa fb : Rho → AH → Ot AV} {pos : Pos} (ho : OpR X (binaryOp op) (r2 nm X.K g)) (ha : EV nm X Wx a fa) (hb : EV nm X Wx b fb) : EV nm X Wx (.BinOp a op b pos) (f2 g fa fb) := by
  refine PE.weak (pe_op ho ha hb) fun σ H Q ⟨W, ρ, ah, rh, rs, p⟩ => ?_
  refine TrE.seq rh rs p fun x ah1 W1 H1 w1 s1 R1 S1 v1 p1 => TrE.seq R1 S1 p1 fun y ah2 W2 H2 w2 s2 R2 S2 v2 p2 => ?_
  obtain ⟨c, e, k⟩ := p2.of
  exact ⟨W2, ah2, x, y, c, R2, v1.step s2, v2, e, fun W' H' w s R r => k W' H' s R w r⟩
theorem ev_un {a : Expr} {op : UnaryOp} {g : AH → AV → Option AV} {fa : Rho → AH → Ot AV} {pos : Pos} (ho : UnR X (unaryOp op) (r1 nm X.K g)) (ha : EV nm X Wx a fa) : EV nm X Wx (.UnaryOp op a pos) (f1 g fa) := by
  refine PE.weak (pe_un ho ha) fun σ H Q ⟨W, ρ, ah, rh, rs, p⟩ => ?_
  refine TrE.seq rh rs p fun x ah1 W1 H1 w1 s1 R1 S1 v1 p1 => ?_
  obtain ⟨c, e, k⟩ := p1.of
  exact ⟨W1, ah1, x, c, R1, v1, e, fun W' H' w s R r => k W' H' s R w r⟩
theorem ev_cmp {a b : Expr} {op : CmpOp} {g : AH → AV → AV → Option AV} {fa fb : Rho → AH → Ot AV} {pos : Pos} (ho : OpR X (compareOp op) (r2 nm X.K g)) (ha : EV nm X Wx a fa) (hb : EV nm X Wx b fb) (hm : behindInMarks op b = false) :
    EV nm X Wx (.Compare a [op] [b] pos) (f2 g fa fb) := by
  refine PE.weak (pe_cmpR ho ha hb hm) fun σ H Q ⟨W, ρ, ah, rh, rs, p⟩ => ?_
  refine TrE.seq rh rs p fun x ah1 W1 H1 w1 s1 R1 S1 v1 p1 => TrE.seq R1 S1 p1 fun y ah2 W2 H2 w2 s2 R2 S2 v2 p2 => ?_
  obtain ⟨c, e, k⟩ := p2.of
  exact ⟨W2, ah2, x, y, c, R2, v1.step s2, v2, e, fun W' H' w s R r => k W' H' s R w r⟩
/-- a comparison's answer -/
def asB : Option AV → Option Bool | some (.bl b) => some b | _ => none
def fChain (g g' : AH → AV → AV → Option AV) (a b c : Rho → AH → Ot AV) : Rho → AH → Ot AV := fun ρ ah => (a ρ ah).bind fun x ah1 => (b ρ ah1).bind fun y ah2 =>
  match asB (g ah2 x y) with
  | some true => (c ρ ah2).bind fun z ah3 => Ot.of (g' ah3 y z) ah3
  | some false => .ok (.bl false) ah2
  | none => .st
theorem asB_some {o : Option AV} {b : Bool} (h : asB o = some b) : o = some (.bl b) := by
  unfold asB at h
  split at h
  · cases h; rfl
  · cases h
theorem ev_chain {a b c : Expr} {op op' : CmpOp} {g g' : AH → AV → AV → Option AV} {fa fb fc : Rho → AH → Ot AV} {pos : Pos} (ho : OpR X (compareOp op) (r2 nm X.K g)) (ho' : OpR X (compareOp op') (r2 nm X.K g')) (ha : EV nm X Wx a fa) (hb : EV nm X Wx b fb) (hc : EV nm X Wx c fc)
    (hm : lastMarks [op, op'] [b, c] = false) : EV nm X Wx (.Compare a [op, op'] [b, c] pos) (fChain g g' fa fb fc) := by
  refine PE.weak (pe_chain ho ho' ha hb hc hm) fun σ H Q ⟨W, ρ, ah, rh, rs, p⟩ => ?_
  refine TrE.seq rh rs p fun x ah1 W1 H1 w1 s1 R1 S1 v1 p1 => TrE.seq R1 S1 p1 fun y ah2 W2 H2 w2 s2 R2 S2 v2 p2 => ?_
  split at p2
  · rename_i e
    refine ⟨W2, ah2, x, y, .bl true, R2, v1.step s2, v2, asB_some e, fun W3 H3 w s3 R3 r => ?_⟩
    cases r
    refine ⟨true, rfl, ?_⟩
    rw [if_pos rfl]
    refine TrE.seq R3 (S2.step s3) (Post.shift s3 p2) fun z ah4 W4 H4 w4 s4 R4 S4 v4 p4 => ?_
    obtain ⟨c, e, k⟩ := p4.of
    exact ⟨W4, ah4, y, z, c, R4, (v2.step s3).step s4, v4, e, fun W' H' w s R r => k W' H' s R w r⟩
  · rename_i e
    refine ⟨W2, ah2, x, y, .bl false, R2, v1.step s2, v2, asB_some e, fun W3 H3 w s3 R3 r => ?_⟩
    cases r
    refine ⟨false, rfl, ?_⟩
    rw [if_neg Bool.false_ne_true]
    exact p2 W3 H3 s3 R3 _ (.bl false)
  · exact False.elim p2

/-! tests -/
theorem TrT.seq {f : Rho → AH → Ot Bool} {β : Type} {g : Bool → AH → Ot β} {σ : St} {H : Hp} {R : Bool → Hp → Prop} {W : Wd} {ρ : Rho} {ah : AH} {k : β → AH → Wd → Hp → Prop} (rh : RelH K nm W ah H) (rs : RS K W ρ σ)
    (p : Post K nm W H ((f ρ ah).bind g) k (xw K nm Wx σ))
    (h : ∀ a ah1 W1 H1, Step W H W1 H1 → RelH K nm W1 ah1 H1 → RS K W1 ρ σ → Post K nm W1 H1 (g a ah1) k (xw K nm Wx σ) → R a H1) : TrT nm K Wx f σ H R :=
  ⟨W, ρ, ah, rh, rs, p.bind.imp (fun a ah1 W1 H1 s R1 q => h a ah1 W1 H1 s R1 (rs.step s) q) fun _ _ _ _ _ _ q => q⟩
def truF (ah : AH) : AV → Option Bool
  | .non => some false
  | .bl b => some b
  | .int i => some (i != 0)
  | .str z => if z.length ≤ sizeLine then some ((z.length : Int) != 0) else none
  | .tup xs => some !xs.isEmpty
  | .lst xs => some !xs.isEmpty
  | .dct kvs => some !kvs.isEmpty
  | .ref n => match ah[n]? with
    | some (.lst xs) => some !xs.isEmpty
    | some (.dct kvs) => some !kvs.isEmpty
    | _ => none
theorem isEmpty_rvs {W : Wd} {xs : List AV} {vs : List V} (r : W.RVs K xs vs) : xs.isEmpty = vs.isEmpty := by
  cases r <;> rfl
theorem isEmpty_rks {W : Wd} {xs : List (Key × AV)} {vs : List (Key × V)} (r : RKs K W.fz W.io xs vs) : xs.isEmpty = vs.isEmpty := by
  cases r <;> rfl
theorem RelH.at {W : Wd} {ah : AH} {H : Hp} (R : RelH K nm W ah H) {n : Nat} {a : Addr} {o : AO} (h : W.io[n]? = some a) (e : ah[n]? = some o) : RO K nm W H a o := R.obj n a o h e
theorem tru_of {W : Wd} {ah : AH} {H : Hp} {a : AV} {w : V} {b : Bool} (R : RelH K nm W ah H) (r : W.RV K a w) (e : truF ah a = some b) : TruV K w H b := by
  cases r with
  | non => cases e; rfl
  | bl c => cases e; rfl
  | int i => cases e; rfl
  | str z =>
    by_cases h : z.length ≤ sizeLine
    · have e' : (if z.length ≤ sizeLine then some ((z.length : Int) != 0) else none) = some b := e
      rw [if_pos h] at e'
      cases e'
      exact ⟨h, rfl⟩
    · have e' : (if z.length ≤ sizeLine then some ((z.length : Int) != 0) else none) = some b := e
      rw [if_neg h] at e'
      cases e'
  | tup h r => cases e; exact .inr (.inl ⟨_, same_tup R.fz h, by rw [isEmpty_rvs r]⟩)
  | lst h r => cases e; exact .inl ⟨_, .inl (same_rd R.fz h), by rw [isEmpty_rvs r]⟩
  | dct h r => cases e; exact .inr (.inr ⟨_, R.fz _ _ h, by rw [isEmpty_rks r]⟩)
  | ref h =>
    simp only [truF] at e
    split at e
    · rename_i q
      cases e
      obtain ⟨vs, h1, h2⟩ := R.at h q
      exact .inl ⟨vs, SqL.of h1, by rw [isEmpty_rvs h2]⟩
    · rename_i q
      cases e
      obtain ⟨vs, h1, h2⟩ := R.at h q
      exact .inr (.inr ⟨vs, h1, by rw [isEmpty_rks h2]⟩)
    · cases e
def tF (a : Rho → AH → Ot AV) : Rho → AH → Ot Bool := fun ρ ah => (a ρ ah).bind fun x ah1 => Ot.of (truF ah1 x) ah1
theorem Post.ofB {α : Type} {o : Option α} {ah : AH} {W : Wd} {H : Hp} {k : α → AH → Wd → Hp → Prop} {e : EX → AH → Wd → Hp → Prop} (p : Post K nm W H (Ot.of o ah) k e) :
    ∃ c, o = some c ∧ ∀ W' H', Step W H W' H' → RelH K nm W' ah H' → k c ah W' H' := by
  cases o with
  | none => exact False.elim p
  | some c => exact ⟨c, rfl, p⟩
theorem TrE.seqB {f : Rho → AH → Ot AV} {β : Type} {g : AV → AH → Ot β} {σ : St} {H : Hp} {R : V → Hp → Prop} {W : Wd} {ρ : Rho} {ah : AH} {k : β → AH → Wd → Hp → Prop} (rh : RelH K nm W ah H) (rs : RS K W ρ σ)
    (p : Post K nm W H ((f ρ ah).bind g) k (xw K nm Wx σ))
    (h : ∀ a ah1 W1 H1 w, Step W H W1 H1 → RelH K nm W1 ah1 H1 → RS K W1 ρ σ → W1.RV K a w → Post K nm W1 H1 (g a ah1) k (xw K nm Wx σ) → R w H1) : TrE nm K Wx f σ H R :=
  ⟨W, ρ, ah, rh, rs, p.bind.imp (fun a ah1 W1 H1 s R1 q w r => h a ah1 W1 H1 w s R1 (rs.step s) r q) fun _ _ _ _ _ _ q => q⟩
theorem et_truth {a : Expr} {fa : Rho → AH → Ot AV} (ha : EV nm X Wx a fa) (he : ∀ whole, isTrue a X.env whole = (do let v ← whole; standAt a.pos; holding [v] (truthy v))) : ET nm X Wx a (tF fa) := by
  refine PT.weak (pt_truth ha he) fun σ H Q ⟨W, ρ, ah, rh, rs, p⟩ => ?_
  refine TrE.seqB rh rs p fun x ah1 W1 H1 w1 s1 R1 S1 v1 p1 => ?_
  obtain ⟨c, e, k⟩ := p1.ofB
  exact ⟨c, tru_of R1 v1 e, k W1 H1 (Step.refl _ _) R1⟩
def bF (a : Rho → AH → Ot AV) : Rho → AH → Ot Bool := fun ρ ah => (a ρ ah).bind fun x ah1 => Ot.of (asB (some x)) ah1
theorem et_cmp {a b : Expr} {op : CmpOp} {g : AH → AV → AV → Option AV} {fa fb : Rho → AH → Ot AV} {pos : Pos} (ho : OpR X (compareOp op) (r2 nm X.K g)) (ha : EV nm X Wx a fa) (hb : EV nm X Wx b fb) (hm : behindInMarks op b = false) :
    ET nm X Wx (.Compare a [op] [b] pos) (bF (f2 g fa fb)) := by
  refine PT.weak (pt_cmpR ho ha hb hm) fun σ H Q ⟨W, ρ, ah, rh, rs, p⟩ => ?_
  have p := p.bind
  refine TrE.seqB rh rs p fun x ah1 W1 H1 w1 s1 R1 S1 v1 p1 => TrE.seqB R1 S1 p1 fun y ah2 W2 H2 w2 s2 R2 S2 v2 p2 => ?_
  obtain ⟨c, e, k⟩ := p2.of
  refine ⟨W2, ah2, x, y, c, R2, v1.step s2, v2, e, fun W' H' w s R r => ?_⟩
  obtain ⟨b, eb, kb⟩ := (k W' H' s R).ofB
  have := asB_some eb
  cases this
  cases r
  exact ⟨b, rfl, kb W' H' (Step.refl _ _) R⟩
theorem et_chain {a b c : Expr} {op op' : CmpOp} {g g' : AH → AV → AV → Option AV} {fa fb fc : Rho → AH → Ot AV} {pos : Pos} (ho : OpR X (compareOp op) (r2 nm X.K g)) (ho' : OpR X (compareOp op') (r2 nm X.K g')) (ha : EV nm X Wx a fa) (hb : EV nm X Wx b fb) (hc : EV nm X Wx c fc)
    (hm : lastMarks [op, op'] [b, c] = false) : ET nm X Wx (.Compare a [op, op'] [b, c] pos) (bF (fChain g g' fa fb fc)) := by
  refine PT.weak (pt_chain ho ho' ha hb hc hm) fun σ H Q ⟨W, ρ, ah, rh, rs, p⟩ => ?_
  have p := p.bind
  refine TrE.seqB rh rs p fun x ah1 W1 H1 w1 s1 R1 S1 v1 p1 => TrE.seqB R1 S1 p1 fun y ah2 W2 H2 w2 s2 R2 S2 v2 p2 => ?_
  split at p2
  · rename_i e
    refine ⟨W2, ah2, x, y, .bl true, R2, v1.step s2, v2, asB_some e, fun W3 H3 w s3 R3 r => ?_⟩
    cases r
    refine ⟨true, rfl, ?_⟩
    rw [if_pos rfl]
    refine TrE.seqB R3 (S2.step s3) (Post.shift s3 p2) fun z ah4 W4 H4 w4 s4 R4 S4 v4 p4 => ?_
    obtain ⟨c, e, k⟩ := p4.of
    refine ⟨W4, ah4, y, z, c, R4, (v2.step s3).step s4, v4, e, fun W' H' w s R r => ?_⟩
    obtain ⟨b, eb, kb⟩ := (k W' H' s R).ofB
    have := asB_some eb
    cases this
    cases r
    exact ⟨b, rfl, kb W' H' (Step.refl _ _) R⟩
  · rename_i e
    refine ⟨W2, ah2, x, y, .bl false, R2, v1.step s2, v2, asB_some e, fun W3 H3 w s3 R3 r => ?_⟩
    cases r
    refine ⟨false, rfl, ?_⟩
    rw [if_neg Bool.false_ne_true]
    obtain ⟨b, eb, kb⟩ := (p2 W3 H3 s3 R3).ofB
    have e2 : b = false := by cases eb; rfl
    subst e2
    exact ⟨false, rfl, kb W3 H3 (Step.refl _ _) R3⟩
  · exact False.elim p2
def tAndF (a b : Rho → AH → Ot Bool) : Rho → AH → Ot Bool := fun ρ ah => (a ρ ah).bind fun x ah1 => if x = true then b ρ ah1 else .ok false ah1
def tOrF (a b : Rho → AH → Ot Bool) : Rho → AH → Ot Bool := fun ρ ah => (a ρ ah).bind fun x ah1 => if x = true then .ok true ah1 else b ρ ah1
def tNotF (a : Rho → AH → Ot Bool) : Rho → AH → Ot Bool := fun ρ ah => (a ρ ah).bind fun x ah1 => .ok (!x) ah1
theorem ew_and {a b : Expr} {rest : List Expr} {fa fb : Rho → AH → Ot Bool} {pos : Pos} (ha : ET nm X Wx a fa) (hb : EW nm X Wx (.BoolOp .And (b :: rest) pos) fb) : EW nm X Wx (.BoolOp .And (a :: b :: rest) pos) (tAndF fa fb) := by
  refine PW.weak (pw_and ha hb) fun σ H Q ⟨W, ρ, ah, rh, rs, p⟩ => ?_
  refine TrT.seq rh rs p fun x ah1 W1 H1 s1 R1 S1 p1 => ?_
  cases x with
  | true => rw [if_pos rfl] at p1 ⊢; exact ⟨W1, ρ, ah1, R1, S1, p1⟩
  | false => rw [if_neg Bool.false_ne_true] at p1 ⊢; exact p1 W1 H1 (Step.refl _ _) R1
theorem ew_or {a b : Expr} {rest : List Expr} {fa fb : Rho → AH → Ot Bool} {pos : Pos} (ha : ET nm X Wx a fa) (hb : EW nm X Wx (.BoolOp .Or (b :: rest) pos) fb) : EW nm X Wx (.BoolOp .Or (a :: b :: rest) pos) (tOrF fa fb) := by
  refine PW.weak (pw_or ha hb) fun σ H Q ⟨W, ρ, ah, rh, rs, p⟩ => ?_
  refine TrT.seq rh rs p fun x ah1 W1 H1 s1 R1 S1 p1 => ?_
  cases x with
  | true => rw [if_pos rfl] at p1 ⊢; exact p1 W1 H1 (Step.refl _ _) R1
  | false => rw [if_neg Bool.false_ne_true] at p1 ⊢; exact ⟨W1, ρ, ah1, R1, S1, p1⟩
theorem et_not {a : Expr} {fa : Rho → AH → Ot Bool} {pos : Pos} (ha : ET nm X Wx a fa) : ET nm X Wx (.UnaryOp .Not a pos) (tNotF fa) := by
  refine PT.weak (pt_not ha) fun σ H Q ⟨W, ρ, ah, rh, rs, p⟩ => ?_
  exact TrT.seq rh rs p fun x ah1 W1 H1 s1 R1 S1 p1 => p1 W1 H1 (Step.refl _ _) R1
/-- a if t else b -/
def ifF (t : Rho → AH → Ot Bool) (a b : Rho → AH → Ot AV) : Rho → AH → Ot AV := fun ρ ah => (t ρ ah).bind fun x ah1 => if x = true then a ρ ah1 else b ρ ah1
theorem ev_if {c a b : Expr} {fc : Rho → AH → Ot Bool} {fa fb : Rho → AH → Ot AV} {pos : Pos} (hc : ET nm X Wx c fc) (ha : EV nm X Wx a fa) (hb : EV nm X Wx b fb) : EV nm X Wx (.IfExp c a b pos) (ifF fc fa fb) := by
  refine PE.weak (pe_ifExp hc ha hb) fun σ H Q ⟨W, ρ, ah, rh, rs, p⟩ => ?_
  refine TrT.seq rh rs p fun x ah1 W1 H1 s1 R1 S1 p1 => ?_
  cases x with
  | true => rw [if_pos rfl] at p1 ⊢; exact ⟨W1, ρ, ah1, R1, S1, p1⟩
  | false => rw [if_neg Bool.false_ne_true] at p1 ⊢; exact ⟨W1, ρ, ah1, R1, S1, p1⟩

/-! argument lists, displays -/
theorem TrA.seqB {f : Rho → AH → Ot (List AV)} {β : Type} {g : List AV → AH → Ot β} {σ : St} {H : Hp} {R : List V → Hp → Prop} {W : Wd} {ρ : Rho} {ah : AH} {k : β → AH → Wd → Hp → Prop} (rh : RelH K nm W ah H) (rs : RS K W ρ σ)
    (p : Post K nm W H ((f ρ ah).bind g) k (xw K nm Wx σ))
    (h : ∀ a ah1 W1 H1 w, Step W H W1 H1 → RelH K nm W1 ah1 H1 → RS K W1 ρ σ → W1.RVs K a w → Post K nm W1 H1 (g a ah1) k (xw K nm Wx σ) → R w H1) : TrA nm K Wx f σ H R :=
  ⟨W, ρ, ah, rh, rs, p.bind.imp (fun a ah1 W1 H1 s R1 q w r => h a ah1 W1 H1 w s R1 (rs.step s) r q) fun _ _ _ _ _ _ q => q⟩
theorem ea_nil : EA nm X Wx [] aNil := PA.weak pa_nil fun σ H Q ⟨W, ρ, ah, rh, rs, p⟩ => p W H (Step.refl _ _) rh [] .nil
theorem ea_cons {e : Expr} {es : List Expr} {fa : Rho → AH → Ot AV} {fb : Rho → AH → Ot (List AV)} (ha : EV nm X Wx e fa) (hb : EA nm X Wx es fb) (hs : starEach (e :: es) X.env = (false, eval e X.env) :: starEach es X.env) :
    EA nm X Wx (e :: es) (aCons fa fb) := by
  refine PA.weak (pa_cons ha hb hs) fun σ H Q ⟨W, ρ, ah, rh, rs, p⟩ => ?_
  refine TrE.seqB rh rs p fun x ah1 W1 H1 w1 s1 R1 S1 v1 p1 => TrA.seqB R1 S1 p1 fun y ah2 W2 H2 w2 s2 R2 S2 v2 p2 => ?_
  exact p2 W2 H2 (Step.refl _ _) R2 _ (.cons (v1.step s2) v2)
def tupF (a : Rho → AH → Ot (List AV)) : Rho → AH → Ot AV := fun ρ ah => (a ρ ah).bind fun xs ah1 => if xs.length ≤ sizeLine then .ok (.tup xs) ah1 else .st
def lstF (a : Rho → AH → Ot (List AV)) : Rho → AH → Ot AV := fun ρ ah => (a ρ ah).bind fun xs ah1 => if xs.length ≤ sizeLine then .ok (.lst xs) ah1 else .st
def lstM (a : Rho → AH → Ot (List AV)) : Rho → AH → Ot AV := fun ρ ah => (a ρ ah).bind fun xs ah1 => if xs.length ≤ sizeLine then .ok (.ref ah1.length) (ah1 ++ [.lst xs]) else .st
theorem ev_tup {es : List Expr} {x1 pos} {fa : Rho → AH → Ot (List AV)} (ha : EA nm X Wx es fa) : EV nm X Wx (.Tuple es x1 pos) (tupF fa) := by
  refine PE.weak (pe_tup ha) fun σ H Q ⟨W, ρ, ah, rh, rs, p⟩ => ?_
  refine TrA.seqB rh rs p fun xs ah1 W1 H1 vs s1 R1 S1 v1 p1 => ?_
  split at p1
  · rename_i h
    refine ⟨by rw [v1.length]; exact h, fun p hp => ?_⟩
    exact p1 (W1.keep p (.tup vs)) _ (Step.keep R1 hp) (R1.keep hp) _ (.tup (SqT.of upd_same) (v1.step (Step.keep (o := .tup vs) R1 hp)))
  · exact False.elim p1
theorem ev_lst {es : List Expr} {pos} {fa : Rho → AH → Ot (List AV)} (ha : EA nm X Wx es fa) : EV nm X Wx (.List es pos) (lstF fa) := by
  refine PE.weak (pe_lst ha) fun σ H Q ⟨W, ρ, ah, rh, rs, p⟩ => ?_
  refine TrA.seqB rh rs p fun xs ah1 W1 H1 vs s1 R1 S1 v1 p1 => ?_
  split at p1
  · rename_i h
    refine ⟨by rw [v1.length]; exact h, fun p hp => ?_⟩
    exact p1 (W1.keep p (.lst vs)) _ (Step.keep R1 hp) (R1.keep hp) _ (.lst (Rd.of upd_same) (v1.step (Step.keep (o := .lst vs) R1 hp)))
  · exact False.elim p1
theorem ev_lstM {es : List Expr} {pos} {fa : Rho → AH → Ot (List AV)} (ha : EA nm X Wx es fa) : EV nm X Wx (.List es pos) (lstM fa) := by
  refine PE.weak (pe_lst ha) fun σ H Q ⟨W, ρ, ah, rh, rs, p⟩ => ?_
  refine TrA.seqB rh rs p fun xs ah1 W1 H1 vs s1 R1 S1 v1 p1 => ?_
  split at p1
  · rename_i h
    refine ⟨by rw [v1.length]; exact h, fun p hp => ?_⟩
    have st := Step.more (o := .lst vs) R1 hp
    refine p1 (W1.more p) _ st (R1.more hp ⟨vs, upd_same, v1.step st⟩) _ (.ref ?_)
    show (W1.io ++ [p])[ah1.length]? = some p
    rw [← R1.len]; simp
  · exact False.elim p1
end
end Ko

/-! Ko, part C: the operations on abstract values. -/
namespace Ko
open PySem L2

/-! ### contents -/
def asL (ah : AH) : AV → Option (List AV)
  | .lst xs => some xs
  | .ref n => match ah[n]? with | some (.lst xs) => some xs | _ => none
  | _ => none
section
variable {K : PySem.W.Frag} {nm : Nm} {W : Wd} {ah : AH} {H : Hp}
theorem asL_of {a : AV} {w : V} {xs : List AV} (R : RelH K nm W ah H) (r : W.RV K a w) (e : asL ah a = some xs) : ∃ p vs, w = .ref p ∧ Rd H p (.lst vs) ∧ W.RVs K xs vs := by
  cases r with
  | lst h r => cases e; exact ⟨_, _, rfl, same_rd R.fz h, r⟩
  | ref h =>
    simp only [asL] at e
    split at e
    · rename_i q
      cases e
      obtain ⟨vs, h1, h2⟩ := R.at h q
      exact ⟨_, vs, rfl, Rd.of h1, h2⟩
    · cases e
  | _ => cases e
def asInts : List AV → Option (List Int)
  | [] => some []
  | .int i :: r => (asInts r).map (i :: ·)
  | _ :: _ => none
theorem asInts_of : ∀ {xs : List AV} {vs : List V} {ns : List Int}, W.RVs K xs vs → asInts xs = some ns → vs = ns.map V.int
  | [], _, ns, .nil, e => by cases e; rfl
  | .int i :: r, _, ns, .cons h t, e => by
    cases h
    simp only [asInts, Option.map_eq_some_iff] at e
    obtain ⟨ms, e1, rfl⟩ := e
    rw [asInts_of t e1]; rfl
def asStrs : List AV → Option (List Str)
  | [] => some []
  | .str z :: r => (asStrs r).map (z :: ·)
  | _ :: _ => none
theorem asStrs_of : ∀ {xs : List AV} {vs : List V} {ns : List Str}, W.RVs K xs vs → asStrs xs = some ns → vs = ns.map V.str
  | [], _, ns, .nil, e => by cases e; rfl
  | .str i :: r, _, ns, .cons h t, e => by
    cases h
    simp only [asStrs, Option.map_eq_some_iff] at e
    obtain ⟨ms, e1, rfl⟩ := e
    rw [asStrs_of t e1]; rfl
def asBls : List AV → Option (List Bool)
  | [] => some []
  | .bl z :: r => (asBls r).map (z :: ·)
  | _ :: _ => none
theorem asBls_of : ∀ {xs : List AV} {vs : List V} {ns : List Bool}, W.RVs K xs vs → asBls xs = some ns → vs = ns.map V.bl
  | [], _, ns, .nil, e => by cases e; rfl
  | .bl i :: r, _, ns, .cons h t, e => by
    cases h
    simp only [asBls, Option.map_eq_some_iff] at e
    obtain ⟨ms, e1, rfl⟩ := e
    rw [asBls_of t e1]; rfl
end

/-! ### arithmetic -/
def addF (ah : AH) : AV → AV → Option AV
  | .int i, .int j => some (.int (i + j))
  | .str x, .str y => if x.length + y.length ≤ sizeLine then some (.str (x ++ y)) else none
  | .tup xs, .tup ys => if xs.length + ys.length ≤ sizeLine then some (.tup (xs ++ ys)) else none
  | a, b => (asL ah a).bind fun xs => (asL ah b).bind fun ys => if xs.length + ys.length ≤ sizeLine then some (.lst (xs ++ ys)) else none
def subF (_ : AH) : AV → AV → Option AV
  | .int i, .int j => some (.int (i - j))
  | _, _ => none
def mulF (ah : AH) : AV → AV → Option AV
  | .int i, .int j => if i.natAbs.log2 + j.natAbs.log2 < 1000000 then some (.int (i * j)) else none
  | .str x, .int j => if 0 ≤ j ∧ x.length * j.toNat ≤ sizeLine ∧ j < 2 ^ 40 then some (.str (Txt.mul x j)) else none
  | a, .int j => (asL ah a).bind fun xs => if -(2 ^ 63) ≤ j ∧ j < 2 ^ 63 ∧ xs.length * j.toNat ≤ sizeLine then some (.lst (List.replicate j.toNat xs).flatten) else none
  | _, _ => none
def divF (_ : AH) : AV → AV → Option AV
  | .int i, .int j => if 0 < j ∧ j.natAbs.log2 < 9000 then some (.int (i / j)) else none
  | _, _ => none
def modF (_ : AH) : AV → AV → Option AV
  | .int i, .int j => if 0 < j then some (.int (i % j)) else none
  | _, _ => none
def powF (_ : AH) : AV → AV → Option AV
  | .int i, .int j => if 0 ≤ j ∧ j ≤ 1000000 ∧ i.natAbs < 2 ^ 64 then some (.int (i ^ j.toNat)) else none
  | _, _ => none
def binF : Operator → AH → AV → AV → Option AV
  | .Add => addF
  | .Sub => subF
  | .Mult => mulF
  | .FloorDiv => divF
  | .Mod => modF
  | .Pow => powF
  | _ => fun _ _ _ => none
def negF (_ : AH) : AV → Option AV
  | .int i => some (.int (-i))
  | _ => none

section
variable {nm : Nm} {X : Cx}
theorem rd_obj {pins : List (Addr × Obj)} {σ : St} {H : Hp} {s : Shared} {l : Addr} {xs : List V} (I : Inv X pins σ H s) (h : Rd H l (.lst xs)) :
    xs.length ≤ sizeLine ∧ ∃ (its : List Value) (n : Nat), Vals xs its ∧ xs.length = its.length ∧ s.heap.get? l = some { cls := .type "list", data := .seq its.toArray n } := by
  obtain ⟨z, its, n, r, e⟩ := h.ok I.hok
  exact ⟨z, its, n, r, r.length, e⟩
/-- list + list, also of a list that is locked -/
theorem op_catL : OpR X (binaryOp .Add) (fun x y H Q => ∃ l b xs zs, x = .ref l ∧ y = .ref b ∧ Rd H l (.lst xs) ∧ Rd H b (.lst zs) ∧ xs.length + zs.length ≤ sizeLine ∧ ∀ p, H p = none → Q (.ref p) (upd H p (.lst (xs ++ zs)))) := by
  rintro pins s σ H x y v u Q I rx ry ⟨l, b, xs, zs, rfl, rfl, h1, h2, hz, q⟩
  cases rx
  cases ry
  obtain ⟨_, i1, n1, r1, l1, e1⟩ := rd_obj I h1
  obtain ⟨_, i2, n2, r2, l2, e2⟩ := rd_obj I h2
  refine PySem.P.add_list e1 e2 ?_ (by simp only [List.size_toArray]; omega)
  have ea : i1.toArray ++ i2.toArray = (i1 ++ i2).toArray := by simp
  rw [ea]
  exact ⟨.ref _, _, I.lnew (t' := s.toks) (r1.append r2) (by rw [List.length_append]; omega), rfl, q _ I.fresh⟩
theorem mulOk_of {x : Str} {j : Int} (h0 : 0 ≤ j) (h1 : x.length * j.toNat ≤ sizeLine) (h2 : j < 2 ^ 40) : MulOk x j := by
  refine ⟨?_, fun hj _ => ?_, fun _ _ => ?_⟩
  · rw [decide_eq_false (by omega), decide_eq_false (by omega)]; rfl
  · have hj1 : 1 ≤ j := by omega
    intro hc
    have h3 : (x.length : Int) * j ≤ 16777216 := by
      have e : (j.toNat : Int) = j := Int.toNat_of_nonneg h0
      have h1' : ((x.length * j.toNat : Nat) : Int) ≤ ((16777216 : Nat) : Int) := by
        have q : sizeLine = 16777216 := sizeLine_eq
        rw [q] at h1
        exact Int.ofNat_le.mpr h1
      rw [Int.natCast_mul, e] at h1'
      exact h1'
    have h4 : ((2 ^ 63 - 1) / j + 1) * j ≤ (x.length : Int) * j := Int.mul_le_mul_of_nonneg_right (by omega) h0
    have h5 := Int.lt_ediv_add_one_mul_self (2 ^ 63 - 1) (show 0 < j by omega)
    omega
  · unfold Builtin.Str.tooLong
    rw [decide_eq_false]
    omega
theorem r2_go {g : AH → AV → AV → Option AV} {W : Wd} {ah : AH} {H : Hp} {c : AV} {w : V} {Q : VK} (R : RelH X.K nm W ah H) (k : ∀ W' H' w, Step W H W' H' → RelH X.K nm W' ah H' → W'.RV X.K c w → Q w H') (r : W.RV X.K c w) : Q w H :=
  k W H w (Step.refl _ _) R r
theorem op_addF : OpR X (binaryOp .Add) (r2 nm X.K addF) := by
  rintro pins s σ H x y v u Q I rx ry ⟨W, ah, a, b, c, R, ra, rb, e, k⟩
  unfold addF at e
  split at e
  · cases ra; cases rb; cases e
    exact op_add pins s σ H _ _ v u Q I rx ry ⟨_, _, rfl, rfl, k W H _ (Step.refl _ _) R (.int _)⟩
  · cases ra; cases rb
    split at e
    · rename_i h
      cases e
      exact op_add_str pins s σ H _ _ v u Q I rx ry ⟨_, _, rfl, rfl, h, k W H _ (Step.refl _ _) R (.str _)⟩
    · cases e
  · split at e
    · rename_i h
      cases e
      cases ra with
      | tup h1 r1 =>
        cases rb with
        | tup h2 r2 =>
          rename_i p1 v1 p2 v2
          refine op_catA pins s σ H _ _ v u Q I rx ry ⟨p1, p2, v1, v2, rfl, rfl, same_tup R.fz h1, same_tup R.fz h2, by rw [r1.length, r2.length]; exact h, fun e => ?_, fun _ e => ?_, fun _ _ p hp => ?_⟩
          · subst e
            cases r1
            exact k W H _ (Step.refl _ _) R (.tup h2 r2)
          · subst e
            cases r2
            exact k W H _ (Step.refl _ _) R (by rw [List.append_nil]; exact .tup h1 r1)
          · have st := Step.keep (o := .tup (v1 ++ v2)) R hp
            exact k _ _ _ st (R.keep hp) (.tup (SqT.of upd_same) ((r1.append r2).step st))
    · cases e
  · simp only [Option.bind_eq_some_iff] at e
    obtain ⟨xs, e1, ys, e2, e⟩ := e
    split at e
    · rename_i h
      cases e
      obtain ⟨p1, v1, rfl, h1, r1⟩ := asL_of R ra e1
      obtain ⟨p2, v2, rfl, h2, r2⟩ := asL_of R rb e2
      refine op_catL pins s σ H _ _ v u Q I rx ry ⟨p1, p2, v1, v2, rfl, rfl, h1, h2, by rw [r1.length, r2.length]; exact h, fun p hp => ?_⟩
      have st := Step.keep (o := .lst (v1 ++ v2)) R hp
      exact k _ _ _ st (R.keep hp) (.lst (Rd.of upd_same) ((r1.append r2).step st))
    · cases e
theorem op_subF : OpR X (binaryOp .Sub) (r2 nm X.K subF) := by
  rintro pins s σ H x y v u Q I rx ry ⟨W, ah, a, b, c, R, ra, rb, e, k⟩
  unfold subF at e
  split at e
  · cases ra; cases rb; cases e
    exact op_sub pins s σ H _ _ v u Q I rx ry ⟨_, _, rfl, rfl, k W H _ (Step.refl _ _) R (.int _)⟩
  · cases e
theorem rvs_rep {W : Wd} {xs : List AV} {vs : List V} (r : W.RVs X.K xs vs) : ∀ n : Nat, W.RVs X.K (List.replicate n xs).flatten (List.replicate n vs).flatten
  | 0 => .nil
  | n + 1 => by
    rw [List.replicate_succ, List.replicate_succ, List.flatten_cons, List.flatten_cons]
    exact r.append (rvs_rep r n)
/-- a list that may be locked, times an int -/
theorem op_repR : OpR X (binaryOp .Mult) (fun x y H Q => ∃ l m zs, x = .ref l ∧ y = .int m ∧ Rd H l (.lst zs) ∧ (-(2 ^ 63) ≤ m ∧ m < 2 ^ 63 ∧ zs.length * m.toNat ≤ sizeLine) ∧ ∀ p, H p = none → Q (.ref p) (upd H p (.lst (List.replicate m.toNat zs).flatten))) := by
  rintro pins s σ H x y v u Q I rx ry ⟨l, m, zs, rfl, rfl, h1, ⟨b1, b2, b3⟩, q⟩
  cases rx
  obtain ⟨tk, rfl⟩ := ry
  obtain ⟨_, ws, c, rv, hl, eo⟩ := rd_obj I h1
  have g1 : ws.toArray.size * m.toNat ≤ sizeLine := by simpa only [List.size_toArray, ← hl] using b3
  have g2 : ¬ ws.toArray.size * m.toNat > (2 ^ 63 - 1) / 8 := fun z => absurd (Nat.lt_of_lt_of_le z g1) (by decide)
  have g3 : ¬ (!Builtin.List.listFitsIndex m) = true := by simp [fitsIndex_both b1 b2]
  have g4 : ¬ Builtin.List.listTooLong (ws.toArray.size * m.toNat) = true := fun z => by
    rw [notLongL g1] at z
    cases z
  have fl : ∀ i : Nat, List.foldl (· ++ ·) #[] (List.replicate i ws.toArray) = (List.replicate i ws).flatten.toArray := fun i => by simpa using foldl_rep ws i []
  have g5 : List.foldl (· ++ ·) #[] (List.replicate (if ws.toArray.isEmpty = true then 0 else m.toNat) ws.toArray) = (List.replicate m.toNat ws).flatten.toArray := by
    rw [fl]
    cases ws <;> simp
  have md := AutoListH.list___mul___list_int_3 l ws.toArray c m tk g3 g2 g4
  have t1 := typeIs_int s m tk
  refine wpAny_binaryOp_repeat_ref (T := "list") (U := "int") (by decide) ⟨_, eo, rfl⟩ (typeIs_int · m tk) noFill_list_mul F.fills_int_mul F.slot_int_rmul repeat_list F.slot_int_index.lookup ?_
  refine call_meets F.slot_int_rmul t1 F.entry_int_rmul (F.args_int_rmul_2 _ _) (int___rmul___int_list m tk l ws.toArray c) ⟨eo, rfl, ⟨_, eo, rfl⟩, ?_⟩
  refine call_meets F.slot_list_mul ⟨_, eo, rfl⟩ F.entry_list_mul (F.args_list_mul_2 _ _) md ⟨eo, ?_⟩
  rw [g5]
  have hsz : ((List.replicate m.toNat zs).flatten).length ≤ sizeLine := by
    rw [List.length_flatten, List.map_replicate, List.sum_replicate_nat, Nat.mul_comm]
    exact b3
  exact ⟨.ref _, _, I.lnew (t' := s.toks) (rv.rep m.toNat) hsz, rfl, q _ I.fresh⟩
theorem op_mulF : OpR X (binaryOp .Mult) (r2 nm X.K mulF) := by
  rintro pins s σ H x y v u Q I rx ry ⟨W, ah, a, b, c, R, ra, rb, e, k⟩
  unfold mulF at e
  split at e
  · cases ra; cases rb
    split at e
    · rename_i h
      cases e
      exact op_mulW pins s σ H _ _ v u Q I rx ry ⟨_, _, rfl, rfl, h, k W H _ (Step.refl _ _) R (.int _)⟩
    · cases e
  · cases ra; cases rb
    split at e
    · rename_i h
      cases e
      obtain ⟨t, rfl⟩ := rx
      obtain ⟨t', rfl⟩ := ry
      exact PySem.SB.mul (mulOk_of h.1 h.2.1 h.2.2) fun t2 k2 => ⟨.str _, H, I.tok _, ⟨_, rfl⟩, k W H _ (Step.refl _ _) R (.str _)⟩
    · cases e
  · rename_i j _ _
    cases rb
    simp only [Option.bind_eq_some_iff] at e
    obtain ⟨xs, e1, e⟩ := e
    split at e
    · rename_i h
      cases e
      obtain ⟨p1, v1, rfl, h1, r1⟩ := asL_of R ra e1
      refine op_repR pins s σ H _ _ v u Q I rx ry ⟨p1, _, v1, rfl, rfl, h1, by rw [r1.length]; exact h, fun p hp => ?_⟩
      have st := Step.keep (o := .lst (List.replicate j.toNat v1).flatten) R hp
      exact k _ _ _ st (R.keep hp) (.lst (Rd.of upd_same) ((rvs_rep r1 _).step st))
    · cases e
  · cases e
theorem op_divF : OpR X (binaryOp .FloorDiv) (r2 nm X.K divF) := by
  rintro pins s σ H x y v u Q I rx ry ⟨W, ah, a, b, c, R, ra, rb, e, k⟩
  unfold divF at e
  split at e
  · cases ra; cases rb
    split at e
    · rename_i h
      cases e
      exact op_fdivW pins s σ H _ _ v u Q I rx ry ⟨_, _, rfl, rfl, h, k W H _ (Step.refl _ _) R (.int _)⟩
    · cases e
  · cases e
theorem op_modF : OpR X (binaryOp .Mod) (r2 nm X.K modF) := by
  rintro pins s σ H x y v u Q I rx ry ⟨W, ah, a, b, c, R, ra, rb, e, k⟩
  unfold modF at e
  split at e
  · cases ra; cases rb
    split at e
    · rename_i h
      cases e
      exact op_mod pins s σ H _ _ v u Q I rx ry ⟨_, _, rfl, rfl, h, k W H _ (Step.refl _ _) R (.int _)⟩
    · cases e
  · cases e
theorem op_powF : OpR X (binaryOp .Pow) (r2 nm X.K powF) := by
  rintro pins s σ H x y v u Q I rx ry ⟨W, ah, a, b, c, R, ra, rb, e, k⟩
  unfold powF at e
  split at e
  · cases ra; cases rb
    split at e
    · rename_i h
      cases e
      exact op_pow pins s σ H _ _ v u Q I rx ry ⟨_, _, rfl, rfl, h, k W H _ (Step.refl _ _) R (.int _)⟩
    · cases e
  · cases e
theorem op_none {op : Operator} : OpR X (binaryOp op) (r2 nm X.K fun _ _ _ => none) := by
  rintro pins s σ H x y v u Q I rx ry ⟨W, ah, a, b, c, R, ra, rb, e, k⟩
  cases e
theorem op_binF (op : Operator) : OpR X (binaryOp op) (r2 nm X.K (binF op)) := by
  cases op with
  | Add => exact op_addF
  | Sub => exact op_subF
  | Mult => exact op_mulF
  | FloorDiv => exact op_divF
  | Mod => exact op_modF
  | Pow => exact op_powF
  | _ => exact op_none
theorem un_negF : UnR X (unaryOp .USub) (r1 nm X.K negF) := by
  rintro pins s σ H x v Q I rx ⟨W, ah, a, c, R, ra, e, k⟩
  unfold negF at e
  split at e
  · cases ra; cases e
    exact un_neg pins s σ H _ v Q I rx ⟨_, rfl, k W H _ (Step.refl _ _) R (.int _)⟩
  · cases e
end
end Ko

/-! Ko, part D: comparisons, isinstance, repr, len and the other built-in functions. -/
namespace Ko
open PySem L2

/-! ### data -/
def kdat : Key → PyData
  | .inl i => .int i
  | .inr z => .str z
mutual
def dat : AV → Option PyData
  | .non => some .none
  | .bl b => some (.bool b)
  | .int i => some (.int i)
  | .str z => some (.str z)
  | .tup xs => (datL xs).map .tuple
  | .lst xs => (datL xs).map .list
  | .dct kvs => (datK kvs).map .dict
  | .ref _ => none
def datL : List AV → Option (List PyData)
  | [] => some []
  | x :: xs => (dat x).bind fun d => (datL xs).map (d :: ·)
def datK : List (Key × AV) → Option (List (PyData × PyData))
  | [] => some []
  | (k, x) :: xs => (dat x).bind fun d => (datK xs).map ((kdat k, d) :: ·)
end
/-- .. of the objects within too -/
def datR (ah : AH) (n : Nat) : Option PyData := match ah[n]? with
    | some (.lst xs) => (datL xs).map .list
    | some (.dct kvs) => (datK kvs).map .dict
    | _ => none
mutual
def datH (ah : AH) : AV → Option PyData
  | .non => some .none
  | .bl b => some (.bool b)
  | .int i => some (.int i)
  | .str z => some (.str z)
  | .tup xs => (datHL ah xs).map .tuple
  | .lst xs => (datHL ah xs).map .list
  | .dct kvs => (datHK ah kvs).map .dict
  | .ref n => datR ah n
def datHL (ah : AH) : List AV → Option (List PyData)
  | [] => some []
  | x :: xs => (datH ah x).bind fun d => (datHL ah xs).map (d :: ·)
def datHK (ah : AH) : List (Key × AV) → Option (List (PyData × PyData))
  | [] => some []
  | (k, x) :: xs => (datH ah x).bind fun d => (datHK ah xs).map ((kdat k, d) :: ·)
end
mutual
theorem dat_H {ah : AH} : ∀ {a : AV} {d : PyData}, dat a = some d → datH ah a = some d
  | .non, _, e => e
  | .bl _, _, e => e
  | .int _, _, e => e
  | .str _, _, e => e
  | .tup xs, d, e => by
    simp only [dat, Option.map_eq_some_iff] at e
    obtain ⟨ds, e1, rfl⟩ := e
    simp only [datH, datL_H e1, Option.map_some]
  | .lst xs, d, e => by
    simp only [dat, Option.map_eq_some_iff] at e
    obtain ⟨ds, e1, rfl⟩ := e
    simp only [datH, datL_H e1, Option.map_some]
  | .dct xs, d, e => by
    simp only [dat, Option.map_eq_some_iff] at e
    obtain ⟨ds, e1, rfl⟩ := e
    simp only [datH, datK_H e1, Option.map_some]
  | .ref _, _, e => by cases e
theorem datL_H {ah : AH} : ∀ {a : List AV} {d : List PyData}, datL a = some d → datHL ah a = some d
  | [], _, e => e
  | x :: xs, d, e => by
    simp only [datL, Option.bind_eq_some_iff, Option.map_eq_some_iff] at e
    obtain ⟨d1, e1, ds, e2, rfl⟩ := e
    simp only [datHL, dat_H e1, datL_H e2, Option.bind_some, Option.map_some]
theorem datK_H {ah : AH} : ∀ {a : List (Key × AV)} {d : List (PyData × PyData)}, datK a = some d → datHK ah a = some d
  | [], _, e => e
  | (k, x) :: xs, d, e => by
    simp only [datK, Option.bind_eq_some_iff, Option.map_eq_some_iff] at e
    obtain ⟨d1, e1, ds, e2, rfl⟩ := e
    simp only [datHK, dat_H e1, datK_H e2, Option.bind_some, Option.map_some]
end

section
variable {X : Cx} {pins : List (Addr × Obj)} {σ : St} {H : Hp} {s : Shared} {nm : Nm} {W : Wd} {ah : AH}
/-- the table of modules stands where it stands -/
def SM (X : Cx) : Prop := ∃ o es ep, X.base.get? sysModules = some o ∧ o.data = .dict es ep
theorem ne_sm (sm : SM X) (I : Inv X pins σ H s) {a : Addr} {o : Obj} {its : Array Value} {n : Nat} (h : s.heap.get? a = some o) (hc : o.data = .seq its n) : a ≠ sysModules := by
  rintro rfl
  obtain ⟨u, es, ep, h1, h2⟩ := sm
  have := I.bk _ _ h1
  rw [h] at this
  cases this
  rw [hc] at h2
  cases h2
theorem kv_data {P : Program} {w : World} {k : Key} {u : Value} (h : (mixKind P w).is k u = true) : ∀ hp : Heap, Reads hp u (kdat k) [] := by
  rcases keyIs_shape h with ⟨i, t, rfl, rfl⟩ | ⟨z, t, rfl, rfl⟩
  · exact fun hp => Reads.int i t
  · exact fun hp => Reads.str z t
mutual
theorem reads_of (sm : SM X) (I : Inv X pins σ H s) (R : RelH X.K nm W ah H) : ∀ {a : AV} {w : V} {u : Value} {d : PyData}, W.RV X.K a w → RelV w u → dat a = some d → ∃ as, Reads s.heap u d as ∧ sysModules ∉ as
  | _, _, _, _, .non, rv, e => by cases rv; cases e; exact ⟨_, Reads.none, by simp⟩
  | _, _, _, _, .bl b, rv, e => by cases rv; cases e; exact ⟨_, Reads.bool b, by simp⟩
  | _, _, _, _, .int i, rv, e => by obtain ⟨t, rfl⟩ := rv; cases e; exact ⟨_, Reads.int i t, by simp⟩
  | _, _, _, _, .str z, rv, e => by obtain ⟨t, rfl⟩ := rv; cases e; exact ⟨_, Reads.str z t, by simp⟩
  | _, _, _, _, .tup (xs := xs) h r, rv, e => by
    cases rv
    simp only [dat, Option.map_eq_some_iff] at e
    obtain ⟨ds, e1, rfl⟩ := e
    obtain ⟨its, r2, ⟨o, ho, hc, n, hd⟩, _⟩ := I.tuple (same_tup R.fz h)
    obtain ⟨as, q, m⟩ := readsL_of sm I R r r2 e1
    exact ⟨_, Reads.tuple ho hc hd q, m⟩
  | _, _, _, _, .lst (xs := xs) h r, rv, e => by
    cases rv
    simp only [dat, Option.map_eq_some_iff] at e
    obtain ⟨ds, e1, rfl⟩ := e
    obtain ⟨_, its, n, r2, _, ho⟩ := rd_obj I (same_rd R.fz h)
    obtain ⟨as, q, m⟩ := readsL_of sm I R r r2 e1
    refine ⟨_, Reads.list ho rfl rfl q, ?_⟩
    simp only [List.mem_cons, not_or]
    exact ⟨(ne_sm sm I ho rfl).symm, m⟩
  | _, _, _, _, .dct (kvs := kvs) h r, rv, e => by
    cases rv
    simp only [dat, Option.map_eq_some_iff] at e
    obtain ⟨ds, e1, rfl⟩ := e
    obtain ⟨_, hsy, vs, kv, o, es, ep, ho, hx, hd, _, hp, _⟩ := I.hok _ _ (R.fz _ _ h)
    obtain ⟨as, bs, q1, q2, m1, m2⟩ := readsK_of sm I R r kv hp e1
    refine ⟨_, Reads.dict ho hx.1 hd q1 q2, ?_⟩
    simp only [List.cons_append, List.mem_cons, List.mem_append, not_or]
    exact ⟨fun z => by rw [← z] at hsy; exact absurd hsy (by decide), m1, m2⟩
  | _, _, _, _, .ref _, _, e => by cases e
theorem readsL_of (sm : SM X) (I : Inv X pins σ H s) (R : RelH X.K nm W ah H) : ∀ {xs : List AV} {ws : List V} {us : List Value} {ds : List PyData}, W.RVs X.K xs ws → Vals ws us → datL xs = some ds → ∃ as, ReadsAll s.heap us ds as ∧ sysModules ∉ as
  | _, _, _, _, .nil, .nil, e => by cases e; exact ⟨_, ReadsAll.nil, by simp⟩
  | _, _, _, _, .cons r t, .cons rv tv, e => by
    simp only [datL, Option.bind_eq_some_iff, Option.map_eq_some_iff] at e
    obtain ⟨d, e1, ds, e2, rfl⟩ := e
    obtain ⟨as, q1, m1⟩ := reads_of sm I R r rv e1
    obtain ⟨bs, q2, m2⟩ := readsL_of sm I R t tv e2
    exact ⟨_, ReadsAll.cons q1 q2, by simp only [List.mem_append, not_or]; exact ⟨m1, m2⟩⟩
theorem readsK_of (sm : SM X) (I : Inv X pins σ H s) (R : RelH X.K nm W ah H) : ∀ {xs : List (Key × AV)} {ws : List (Key × V)} {us : List (Key × Value)} {es : List DictEntry} {ds : List (PyData × PyData)}, RKs X.K W.fz W.io xs ws → KV ws us → Pairs (mixKind X.prog X.w) es us → datK xs = some ds →
    ∃ as bs, ReadsAll s.heap (es.map (·.key)) (ds.map (·.1)) as ∧ ReadsAll s.heap (es.map (·.val)) (ds.map (·.2)) bs ∧ sysModules ∉ as ∧ sysModules ∉ bs
  | _, _, _, _, _, .nil, .nil, .nil, e => by cases e; exact ⟨_, _, ReadsAll.nil, ReadsAll.nil, by simp, by simp⟩
  | _, _, _, _, _, .cons r t, .cons rv tv, .cons p1 p2 tp, e => by
    simp only [datK, Option.bind_eq_some_iff, Option.map_eq_some_iff] at e
    obtain ⟨d, e1, ds, e2, rfl⟩ := e
    obtain ⟨as, q1, m1⟩ := reads_of sm I R r rv.2 e1
    obtain ⟨bs, cs, q2, q3, m2, m3⟩ := readsK_of sm I R t tv tp e2
    have hk := kv_data p1 s.heap
    have ek : _ = _ := rv.1
    rw [← ek] at hk
    rw [← p2] at q1
    exact ⟨_, _, ReadsAll.cons hk q2, ReadsAll.cons q1 q3, by simpa using m2, by simp only [List.mem_append, not_or]; exact ⟨m1, m3⟩⟩
end
mutual
theorem readsH_of (sm : SM X) (I : Inv X pins σ H s) (R : RelH X.K nm W ah H) : ∀ {a : AV} {w : V} {u : Value} {d : PyData}, W.RV X.K a w → RelV w u → datH ah a = some d → ∃ as, Reads s.heap u d as ∧ sysModules ∉ as
  | _, _, _, _, .non, rv, e => by cases rv; cases e; exact ⟨_, Reads.none, by simp⟩
  | _, _, _, _, .bl b, rv, e => by cases rv; cases e; exact ⟨_, Reads.bool b, by simp⟩
  | _, _, _, _, .int i, rv, e => by obtain ⟨t, rfl⟩ := rv; cases e; exact ⟨_, Reads.int i t, by simp⟩
  | _, _, _, _, .str z, rv, e => by obtain ⟨t, rfl⟩ := rv; cases e; exact ⟨_, Reads.str z t, by simp⟩
  | _, _, _, _, .tup (xs := xs) h r, rv, e => by
    cases rv
    simp only [datH, Option.map_eq_some_iff] at e
    obtain ⟨ds, e1, rfl⟩ := e
    obtain ⟨its, r2, ⟨o, ho, hc, n, hd⟩, _⟩ := I.tuple (same_tup R.fz h)
    obtain ⟨as, q, m⟩ := readsHL_of sm I R r r2 e1
    exact ⟨_, Reads.tuple ho hc hd q, m⟩
  | _, _, _, _, .lst (xs := xs) h r, rv, e => by
    cases rv
    simp only [datH, Option.map_eq_some_iff] at e
    obtain ⟨ds, e1, rfl⟩ := e
    obtain ⟨_, its, n, r2, _, ho⟩ := rd_obj I (same_rd R.fz h)
    obtain ⟨as, q, m⟩ := readsHL_of sm I R r r2 e1
    refine ⟨_, Reads.list ho rfl rfl q, ?_⟩
    simp only [List.mem_cons, not_or]
    exact ⟨(ne_sm sm I ho rfl).symm, m⟩
  | _, _, _, _, .dct (kvs := kvs) h r, rv, e => by
    cases rv
    simp only [datH, Option.map_eq_some_iff] at e
    obtain ⟨ds, e1, rfl⟩ := e
    obtain ⟨_, hsy, vs, kv, o, es, ep, ho, hx, hd, _, hp, _⟩ := I.hok _ _ (R.fz _ _ h)
    obtain ⟨as, bs, q1, q2, m1, m2⟩ := readsHK_of sm I R r kv hp e1
    refine ⟨_, Reads.dict ho hx.1 hd q1 q2, ?_⟩
    simp only [List.cons_append, List.mem_cons, List.mem_append, not_or]
    exact ⟨fun z => by rw [← z] at hsy; exact absurd hsy (by decide), m1, m2⟩
  | _, _, _, _, .ref h, rv, e => by
    simp only [datH, datR] at e
    cases rv
    split at e
    · rename_i q
      simp only [Option.map_eq_some_iff] at e
      obtain ⟨ds, e1, rfl⟩ := e
      obtain ⟨vs, h1, h2⟩ := R.at h q
      obtain ⟨_, its, n, r2, _, ho⟩ := rd_obj I (Rd.of h1)
      obtain ⟨as, q, m⟩ := readsL_of sm I R h2 r2 e1
      refine ⟨_, Reads.list ho rfl rfl q, ?_⟩
      simp only [List.mem_cons, not_or]
      exact ⟨(ne_sm sm I ho rfl).symm, m⟩
    · rename_i q
      simp only [Option.map_eq_some_iff] at e
      obtain ⟨ds, e1, rfl⟩ := e
      obtain ⟨vs, h1, h2⟩ := R.at h q
      obtain ⟨_, hsy, vs, kv, o, es, ep, ho, hx, hd, _, hp, _⟩ := I.hok _ _ h1
      obtain ⟨as, bs, q1, q2, m1, m2⟩ := readsK_of sm I R h2 kv hp e1
      refine ⟨_, Reads.dict ho hx.1 hd q1 q2, ?_⟩
      simp only [List.cons_append, List.mem_cons, List.mem_append, not_or]
      exact ⟨fun z => by rw [← z] at hsy; exact absurd hsy (by decide), m1, m2⟩
    · cases e
theorem readsHL_of (sm : SM X) (I : Inv X pins σ H s) (R : RelH X.K nm W ah H) : ∀ {xs : List AV} {ws : List V} {us : List Value} {ds : List PyData}, W.RVs X.K xs ws → Vals ws us → datHL ah xs = some ds → ∃ as, ReadsAll s.heap us ds as ∧ sysModules ∉ as
  | _, _, _, _, .nil, .nil, e => by cases e; exact ⟨_, ReadsAll.nil, by simp⟩
  | _, _, _, _, .cons r t, .cons rv tv, e => by
    simp only [datHL, Option.bind_eq_some_iff, Option.map_eq_some_iff] at e
    obtain ⟨d, e1, ds, e2, rfl⟩ := e
    obtain ⟨as, q1, m1⟩ := readsH_of sm I R r rv e1
    obtain ⟨bs, q2, m2⟩ := readsHL_of sm I R t tv e2
    exact ⟨_, ReadsAll.cons q1 q2, by simp only [List.mem_append, not_or]; exact ⟨m1, m2⟩⟩
theorem readsHK_of (sm : SM X) (I : Inv X pins σ H s) (R : RelH X.K nm W ah H) : ∀ {xs : List (Key × AV)} {ws : List (Key × V)} {us : List (Key × Value)} {es : List DictEntry} {ds : List (PyData × PyData)}, RKs X.K W.fz W.io xs ws → KV ws us → Pairs (mixKind X.prog X.w) es us → datHK ah xs = some ds →
    ∃ as bs, ReadsAll s.heap (es.map (·.key)) (ds.map (·.1)) as ∧ ReadsAll s.heap (es.map (·.val)) (ds.map (·.2)) bs ∧ sysModules ∉ as ∧ sysModules ∉ bs
  | _, _, _, _, _, .nil, .nil, .nil, e => by cases e; exact ⟨_, _, ReadsAll.nil, ReadsAll.nil, by simp, by simp⟩
  | _, _, _, _, _, .cons r t, .cons rv tv, .cons p1 p2 tp, e => by
    simp only [datHK, Option.bind_eq_some_iff, Option.map_eq_some_iff] at e
    obtain ⟨d, e1, ds, e2, rfl⟩ := e
    obtain ⟨as, q1, m1⟩ := readsH_of sm I R r rv.2 e1
    obtain ⟨bs, cs, q2, q3, m2, m3⟩ := readsHK_of sm I R t tv tp e2
    have hk := kv_data p1 s.heap
    have ek : _ = _ := rv.1
    rw [← ek] at hk
    rw [← p2] at q1
    exact ⟨_, _, ReadsAll.cons hk q2, ReadsAll.cons q1 q3, by simpa using m2, by simp only [List.mem_append, not_or]; exact ⟨m1, m3⟩⟩
end
end

/-! ### comparisons -/
def eqD (ah : AH) (a b : AV) : Option Bool := (datH ah a).bind fun d => (datH ah b).bind fun e => if SeqAt.shaped d = true ∧ SeqAt.shaped e = true then some (PyData.eqv d e) else none
def eqF (ah : AH) (a b : AV) : Option AV := match a, b with
  | .str x, .str y => some (.bl (decide (x = y)))
  | a, b => (eqD ah a b).map .bl
def neF (ah : AH) (a b : AV) : Option AV := match a, b with
  | .str x, .str y => some (.bl (!decide (x = y)))
  | a, b => (eqD ah a b).map fun c => .bl (!c)
def ltF (_ : AH) : AV → AV → Option AV
  | .int i, .int j => some (.bl (decide (i < j)))
  | .str x, .str y => some (.bl (decide (x.cps.toList < y.cps.toList)))
  | _, _ => none
def leF (_ : AH) : AV → AV → Option AV
  | .int i, .int j => some (.bl (decide (i ≤ j)))
  | .str x, .str y => some (.bl (!decide (y.cps.toList < x.cps.toList)))
  | _, _ => none
def gtF (_ : AH) : AV → AV → Option AV
  | .int i, .int j => some (.bl (decide (j < i)))
  | .str x, .str y => some (.bl (decide (y.cps.toList < x.cps.toList)))
  | _, _ => none
def geF (_ : AH) : AV → AV → Option AV
  | .int i, .int j => some (.bl (decide (j ≤ i)))
  | .str x, .str y => some (.bl (!decide (x.cps.toList < y.cps.toList)))
  | _, _ => none
def isNon : AV → Bool | .non => true | _ => false
def isF (_ : AH) : AV → AV → Option AV
  | .bl a, .bl b => some (.bl (decide (a = b)))
  | a, .non => some (.bl (isNon a))
  | _, _ => none
def isNotF (_ : AH) : AV → AV → Option AV
  | .bl a, .bl b => some (.bl (!decide (a = b)))
  | a, .non => some (.bl (!isNon a))
  | _, _ => none
/-- None, a bool, an int, a text -/
def flatA : AV → Option V
  | .non => some .non
  | .bl b => some (.bl b)
  | .int i => some (.int i)
  | .str z => some (.str z)
  | _ => none
def flatL : List AV → Option (List V)
  | [] => some []
  | x :: xs => (flatA x).bind fun v => (flatL xs).map (v :: ·)
def inB (ah : AH) : AV → AV → Option Bool
  | .str x, .str z => if x.cps.size = 1 then some (decide (x.cps.toList.headD 0 ∈ z.cps.toList)) else none
  | a, .tup ys => (flatA a).bind fun x => (flatL ys).map fun vs => inV x vs
  | a, b => (flatA a).bind fun x => (asL ah b).bind fun ys => (flatL ys).map fun vs => inV x vs
def inF (ah : AH) (a b : AV) : Option AV := (inB ah a b).map .bl
def notInF (ah : AH) (a b : AV) : Option AV := (inB ah a b).map fun c => .bl (!c)
def cmpF : CmpOp → AH → AV → AV → Option AV
  | .Eq => eqF
  | .NotEq => neF
  | .Lt => ltF
  | .LtE => leF
  | .Gt => gtF
  | .GtE => geF
  | .Is => isF
  | .IsNot => isNotF
  | .In => inF
  | .NotIn => notInF

section
variable {X : Cx} {nm : Nm}
theorem flatA_of {K : PySem.W.Frag} {W : Wd} {a : AV} {w v : V} (r : W.RV K a w) (e : flatA a = some v) : w = v ∧ flatV v = true := by
  cases r <;> first | (cases e; exact ⟨rfl, rfl⟩) | (cases e)
theorem flatL_of {K : PySem.W.Frag} {W : Wd} : ∀ {xs : List AV} {ws vs : List V}, W.RVs K xs ws → flatL xs = some vs → ws = vs ∧ vs.all flatV = true
  | _, _, _, .nil, e => by cases e; exact ⟨rfl, rfl⟩
  | _, _, _, .cons r t, e => by
    simp only [flatL, Option.bind_eq_some_iff, Option.map_eq_some_iff] at e
    obtain ⟨v, e1, vs, e2, rfl⟩ := e
    obtain ⟨rfl, h1⟩ := flatA_of r e1
    obtain ⟨rfl, h2⟩ := flatL_of t e2
    exact ⟨rfl, by rw [List.all_cons, h1, h2]; rfl⟩
theorem eqD_of {a b : AV} {ah : AH} {c : Bool} (e : eqD ah a b = some c) : ∃ d f, datH ah a = some d ∧ datH ah b = some f ∧ SeqAt.shaped d = true ∧ SeqAt.shaped f = true ∧ c = PyData.eqv d f := by
  unfold eqD at e
  simp only [Option.bind_eq_some_iff] at e
  obtain ⟨d, e1, f, e2, e3⟩ := e
  split at e3
  · rename_i h; cases e3; exact ⟨d, f, e1, e2, h.1, h.2, rfl⟩
  · cases e3
theorem op_eqF (sm : SM X) (hu : X.A.units + 64 < cLine) : OpR X (compareOp .Eq) (r2 nm X.K eqF) := by
  rintro pins s σ H x y v u Q I rx ry ⟨W, ah, a, b, c, R, ra, rb, e, k⟩
  unfold eqF at e
  split at e
  · cases ra; cases rb; cases e
    refine op_eq pins s σ H _ _ v u Q I rx ry ⟨rfl, k W H _ (Step.refl _ _) R ?_⟩
    rename_i x y
    have : decide (V.str x = V.str y) = decide (x = y) := decide_eq_decide.mpr (by simp)
    rw [this]
    exact .bl _
  simp only [Option.map_eq_some_iff] at e
  obtain ⟨q, e1, rfl⟩ := e
  obtain ⟨d, f, h1, h2, h3, h4, rfl⟩ := eqD_of e1
  obtain ⟨as, q1, _⟩ := readsH_of sm I R ra rx h1
  obtain ⟨bs, q2, _⟩ := readsH_of sm I R rb ry h2
  exact SeqAt.compareEq_shaped q1 q2 h3 h4 hu ⟨.bl _, H, I, rfl, k W H _ (Step.refl _ _) R (.bl _)⟩
theorem op_neF (sm : SM X) (hu : X.A.units + 64 < cLine) : OpR X (compareOp .NotEq) (r2 nm X.K neF) := by
  rintro pins s σ H x y v u Q I rx ry ⟨W, ah, a, b, c, R, ra, rb, e, k⟩
  unfold neF at e
  split at e
  · cases ra; cases rb; cases e
    refine op_ne pins s σ H _ _ v u Q I rx ry ⟨rfl, k W H _ (Step.refl _ _) R ?_⟩
    rename_i x y
    have : decide (V.str x = V.str y) = decide (x = y) := decide_eq_decide.mpr (by simp)
    rw [this]
    exact .bl _
  simp only [Option.map_eq_some_iff] at e
  obtain ⟨q, e1, rfl⟩ := e
  obtain ⟨d, f, h1, h2, h3, h4, rfl⟩ := eqD_of e1
  obtain ⟨as, q1, _⟩ := readsH_of sm I R ra rx h1
  obtain ⟨bs, q2, _⟩ := readsH_of sm I R rb ry h2
  exact SeqAt.compareNe_shaped q1 q2 h3 h4 hu ⟨.bl _, H, I, rfl, k W H _ (Step.refl _ _) R (.bl _)⟩
theorem cmp_two {op : CmpOp} {g : AH → AV → AV → Option AV} {fi : Int → Int → Bool} {fs : Str → Str → Bool}
    (hi : OpR X (compareOp op) (rI0 fun i j => .bl (fi i j))) (hs : OpR X (compareOp op) (fun x y H Q => ∃ i j, x = .str i ∧ y = .str j ∧ Q (.bl (fs i j)) H))
    (hg : ∀ ah a b c, g ah a b = some c → (∃ i j, a = .int i ∧ b = .int j ∧ c = .bl (fi i j)) ∨ ∃ i j, a = .str i ∧ b = .str j ∧ c = .bl (fs i j)) : OpR X (compareOp op) (r2 nm X.K g) := by
  rintro pins s σ H x y v u Q I rx ry ⟨W, ah, a, b, c, R, ra, rb, e, k⟩
  rcases hg ah a b c e with ⟨i, j, rfl, rfl, rfl⟩ | ⟨i, j, rfl, rfl, rfl⟩
  · cases ra; cases rb
    exact hi pins s σ H _ _ v u Q I rx ry ⟨_, _, rfl, rfl, k W H _ (Step.refl _ _) R (.bl _)⟩
  · cases ra; cases rb
    exact hs pins s σ H _ _ v u Q I rx ry ⟨_, _, rfl, rfl, k W H _ (Step.refl _ _) R (.bl _)⟩
theorem op_ltF : OpR X (compareOp .Lt) (r2 nm X.K ltF) := cmp_two (fi := fun i j => decide (i < j)) (fs := fun i j => decide (i.cps.toList < j.cps.toList)) op_lt op_lt_str fun ah a b c e => by
  unfold ltF at e
  split at e <;> cases e
  · exact .inl ⟨_, _, rfl, rfl, rfl⟩
  · exact .inr ⟨_, _, rfl, rfl, rfl⟩
theorem op_leF : OpR X (compareOp .LtE) (r2 nm X.K leF) := cmp_two (fi := fun i j => decide (i ≤ j)) (fs := fun i j => !decide (j.cps.toList < i.cps.toList)) op_le op_le_str fun ah a b c e => by
  unfold leF at e
  split at e <;> cases e
  · exact .inl ⟨_, _, rfl, rfl, rfl⟩
  · exact .inr ⟨_, _, rfl, rfl, rfl⟩
theorem op_gtF : OpR X (compareOp .Gt) (r2 nm X.K gtF) := cmp_two (fi := fun i j => decide (j < i)) (fs := fun i j => decide (j.cps.toList < i.cps.toList)) op_gt op_gt_str fun ah a b c e => by
  unfold gtF at e
  split at e <;> cases e
  · exact .inl ⟨_, _, rfl, rfl, rfl⟩
  · exact .inr ⟨_, _, rfl, rfl, rfl⟩
theorem op_geF : OpR X (compareOp .GtE) (r2 nm X.K geF) := cmp_two (fi := fun i j => decide (j ≤ i)) (fs := fun i j => !decide (i.cps.toList < j.cps.toList)) op_ge op_ge_str fun ah a b c e => by
  unfold geF at e
  split at e <;> cases e
  · exact .inl ⟨_, _, rfl, rfl, rfl⟩
  · exact .inr ⟨_, _, rfl, rfl, rfl⟩
theorem isNon_of {K : PySem.W.Frag} {W : Wd} {a : AV} {w : V} (r : W.RV K a w) : decide (w = .non) = isNon a := by
  cases r <;> simp [isNon]
theorem op_isF : OpR X (compareOp .Is) (r2 nm X.K isF) := by
  rintro pins s σ H x y v u Q I rx ry ⟨W, ah, a, b, c, R, ra, rb, e, k⟩
  unfold isF at e
  split at e
  · cases ra; cases rb; cases e
    exact op_isBl pins s σ H _ _ v u Q I rx ry ⟨_, _, rfl, rfl, k W H _ (Step.refl _ _) R (.bl _)⟩
  · cases rb; cases e
    exact op_isN pins s σ H _ _ v u Q I rx ry ⟨rfl, by rw [isNon_of ra]; exact k W H _ (Step.refl _ _) R (.bl _)⟩
  · cases e
theorem op_isNotF : OpR X (compareOp .IsNot) (r2 nm X.K isNotF) := by
  rintro pins s σ H x y v u Q I rx ry ⟨W, ah, a, b, c, R, ra, rb, e, k⟩
  unfold isNotF at e
  split at e
  · cases ra; cases rb; cases e
    exact op_notBl pins s σ H _ _ v u Q I rx ry ⟨_, _, rfl, rfl, k W H _ (Step.refl _ _) R (.bl _)⟩
  · cases rb; cases e
    exact op_notN pins s σ H _ _ v u Q I rx ry ⟨rfl, by rw [isNon_of ra]; exact k W H _ (Step.refl _ _) R (.bl _)⟩
  · cases e
theorem inB_of {W : Wd} {ah : AH} {H : Hp} {a b : AV} {w1 w2 : V} {c : Bool} (R : RelH X.K nm W ah H) (ra : W.RV X.K a w1) (rb : W.RV X.K b w2) (e : inB ah a b = some c) :
    (∃ (c0 : Nat) (z : Str), w1 = .str ⟨#[c0]⟩ ∧ w2 = .str z ∧ c = decide (c0 ∈ z.cps.toList)) ∨ ∃ p vs, w2 = .ref p ∧ (SqL X.K H p vs ∨ SqT X.K H p vs) ∧ flatV w1 = true ∧ vs.all flatV = true ∧ c = inV w1 vs := by
  unfold inB at e
  split at e
  · cases ra; cases rb
    split at e
    · rename_i x z h
      cases e
      obtain ⟨⟨l⟩⟩ := x
      match l, h with
      | [c0], _ => exact .inl ⟨c0, z, rfl, rfl, rfl⟩
    · cases e
  · simp only [Option.bind_eq_some_iff, Option.map_eq_some_iff] at e
    obtain ⟨x, e1, vs, e2, rfl⟩ := e
    obtain ⟨rfl, h1⟩ := flatA_of ra e1
    cases rb with
    | tup h r =>
      obtain ⟨rfl, h2⟩ := flatL_of r e2
      exact .inr ⟨_, _, rfl, .inr (same_tup R.fz h), h1, h2, rfl⟩
  · simp only [Option.bind_eq_some_iff, Option.map_eq_some_iff] at e
    obtain ⟨x, e1, ys, e3, vs, e2, rfl⟩ := e
    obtain ⟨rfl, h1⟩ := flatA_of ra e1
    obtain ⟨p, ws, rfl, q1, q2⟩ := asL_of R rb e3
    obtain ⟨rfl, h2⟩ := flatL_of q2 e2
    exact .inr ⟨_, _, rfl, .inl (.inl q1), h1, h2, rfl⟩
theorem op_inF : OpR X (compareOp .In) (r2 nm X.K inF) := by
  rintro pins s σ H x y v u Q I rx ry ⟨W, ah, a, b, c, R, ra, rb, e, k⟩
  unfold inF at e
  simp only [Option.map_eq_some_iff] at e
  obtain ⟨q, e1, rfl⟩ := e
  rcases inB_of R ra rb e1 with ⟨c0, z, rfl, rfl, rfl⟩ | ⟨p, vs, rfl, h1, h2, h3, rfl⟩
  · exact op_in_sign pins s σ H _ _ v u Q I rx ry ⟨c0, z, rfl, rfl, k W H _ (Step.refl _ _) R (.bl _)⟩
  · exact op_in_seq pins s σ H _ _ v u Q I rx ry ⟨p, vs, rfl, h1, h2, h3, k W H _ (Step.refl _ _) R (.bl _)⟩
theorem op_notInF : OpR X (compareOp .NotIn) (r2 nm X.K notInF) := by
  rintro pins s σ H x y v u Q I rx ry ⟨W, ah, a, b, c, R, ra, rb, e, k⟩
  unfold notInF at e
  simp only [Option.map_eq_some_iff] at e
  obtain ⟨q, e1, rfl⟩ := e
  rcases inB_of R ra rb e1 with ⟨c0, z, rfl, rfl, rfl⟩ | ⟨p, vs, rfl, h1, h2, h3, rfl⟩
  · exact op_notIn_sign pins s σ H _ _ v u Q I rx ry ⟨c0, z, rfl, rfl, k W H _ (Step.refl _ _) R (.bl _)⟩
  · exact op_notIn_seq pins s σ H _ _ v u Q I rx ry ⟨p, vs, rfl, h1, h2, h3, k W H _ (Step.refl _ _) R (.bl _)⟩
theorem op_cmpF (sm : SM X) (hu : X.A.units + 64 < cLine) (op : CmpOp) : OpR X (compareOp op) (r2 nm X.K (cmpF op)) := by
  cases op with
  | Eq => exact op_eqF sm hu
  | NotEq => exact op_neF sm hu
  | Lt => exact op_ltF
  | LtE => exact op_leF
  | Gt => exact op_gtF
  | GtE => exact op_geF
  | Is => exact op_isF
  | IsNot => exact op_isNotF
  | In => exact op_inF
  | NotIn => exact op_notInF
end
end Ko

/-! Ko, part E: built-in functions, methods of texts, subscripts, slices. -/
namespace Ko
open PySem L2

/-! ### len, int, abs .. -/
def lenF (ah : AH) : AV → Option AV
  | .str z => if z.length ≤ sizeLine then some (.int z.length) else none
  | .tup xs => some (.int xs.length)
  | .dct kvs => some (.int kvs.length)
  | .ref n => match ah[n]? with
    | some (.lst xs) => some (.int xs.length)
    | some (.dct kvs) => some (.int kvs.length)
    | _ => none
  | .lst xs => some (.int xs.length)
  | _ => none
def reprF (ah : AH) (a : AV) : Option AV := (datH ah a).bind fun d => if d.showable = true ∧ d.shown.length ≤ sizeLine ∧ d.depth ≤ 60 then some (.str d.shown) else none
def intF : AV → Option AV
  | .int i => some (.int i)
  | .bl b => some (.int (if b then 1 else 0))
  | .str z => (PySem.intText? z).bind fun n => if z.length ≤ 640 then some (.int n) else none
  | _ => none
def strF : AV → Option AV
  | .int i => if i.natAbs.log2 < 1920 then some (.str (toString i)) else none
  | .str z => some (.str z)
  | _ => none
def kA : Key → AV
  | .inl i => .int i
  | .inr z => .str z
def asKs (ah : AH) : AV → Option (List (Key × AV))
  | .dct kvs => some kvs
  | .ref n => match ah[n]? with | some (.dct kvs) => some kvs | _ => none
  | _ => none
def listF (ah : AH) (a : AV) : Option AV := match a with
  | .tup xs => some (.lst xs)
  | a => match asKs ah a with
    | some kvs => some (.lst (kvs.map fun kv => kA kv.1))
    | none => (asL ah a).map .lst
def tupleF (ah : AH) : AV → Option AV
  | .tup xs => some (.tup xs)
  | a => (asL ah a).map .tup
def sumF (ah : AH) (a : AV) : Option AV := (asL ah a).bind fun xs => (asInts xs).map fun ns => .int ns.sum
def allF (ah : AH) (a : AV) : Option AV := (asL ah a).bind fun xs => (asBls xs).map fun ns => .bl (ns.all id)
def anyF (ah : AH) (a : AV) : Option AV := (asL ah a).bind fun xs => (asBls xs).map fun ns => .bl (ns.any id)
def absF : AV → Option AV
  | .int i => some (.int (if i < 0 then -i else i))
  | _ => none
def keyA : AV → Option Key
  | .int i => some (.inl i)
  | .str z => some (.inr z)
  | _ => none
def dictF (ah : AH) (a : AV) : Option AV := match asL ah a with
  | some [.tup [k, v]] => (keyA k).map fun q => .dct [(q, v)]
  | _ => none
inductive BI where
  | dict | len | repr | int | str | list | tuple | sum | all | any | abs | max | min
def BI.name : BI → Str
  | .dict => "dict"
  | .len => "len" | .repr => "repr" | .int => "int" | .str => "str" | .list => "list" | .tuple => "tuple"
  | .sum => "sum" | .all => "all" | .any => "any" | .abs => "abs" | .max => "max" | .min => "min"
def biF : BI → AH → List AV → Option AV
  | .dict, ah, [a] => dictF ah a
  | .len, ah, [a] => lenF ah a
  | .repr, ah, [a] => reprF ah a
  | .int, _, [a] => intF a
  | .str, _, [a] => strF a
  | .list, ah, [a] => listF ah a
  | .tuple, ah, [a] => tupleF ah a
  | .sum, ah, [a] => sumF ah a
  | .all, ah, [a] => allF ah a
  | .any, ah, [a] => anyF ah a
  | .abs, _, [a] => absF a
  | .max, _, [.int i, .int j] => some (.int (if j > i then j else i))
  | .min, _, [.int i, .int j] => some (.int (if j < i then j else i))
  | _, _, _ => none

/-- what the built-in functions ask of where they are called -/
structure Cal (X : Cx) : Prop where
  sm : SM X
  gd : X.A.guards = some []
  hu : X.A.units + 64 < cLine
  calm : X.calm = true

section
variable {X : Cx} {nm : Nm}
theorem rvs1 {K : PySem.W.Frag} {W : Wd} {a : AV} {ws : List V} (r : W.RVs K [a] ws) : ∃ w, ws = [w] ∧ W.RV K a w := by
  cases r with
  | cons h t => cases t; exact ⟨_, rfl, h⟩
theorem rvs2 {K : PySem.W.Frag} {W : Wd} {a b : AV} {ws : List V} (r : W.RVs K [a, b] ws) : ∃ w v, ws = [w, v] ∧ W.RV K a w ∧ W.RV K b v := by
  cases r with
  | cons h t =>
    obtain ⟨v, rfl, h2⟩ := rvs1 t
    exact ⟨_, v, rfl, h, h2⟩
/-- a one-place built-in -/
theorem bi1 {f : Value} {g : AH → AV → Option AV} {bi : AH → List AV → Option AV} (hb : ∀ ah xs c, bi ah xs = some c → ∃ a, xs = [a] ∧ g ah a = some c)
    (h : ∀ (pins : List (Addr × Obj)) (s : Shared) (σ : St) (H : Hp) (x : V) (u : Value) (Q : VK) (W : Wd) (ah : AH) (a c : AV), Inv X pins σ H s → RelV x u → RelH X.K nm W ah H → W.RV X.K a x → g ah a = some c →
      (∀ W' H' w, Step W H W' H' → RelH X.K nm W' ah H' → W'.RV X.K c w → Q w H') → wpAny (model X.prog X.w) X.A (call f [u]) (EP X pins σ Q) X.xe s) : CallR X f (rA nm X.K bi) := by
  rintro pins s σ H xs us Q I rx ⟨W, ah, as, c, R, ra, e, k⟩
  obtain ⟨a, rfl, e'⟩ := hb _ _ _ e
  obtain ⟨w, rfl, r1⟩ := rvs1 ra
  cases rx with
  | cons q t => cases t; exact h pins s σ H w _ Q W ah a c I q R r1 e' k
theorem rks_length {K : PySem.W.Frag} {fz : Hp} {io : List Addr} : ∀ {xs : List (Key × AV)} {vs : List (Key × V)}, RKs K fz io xs vs → vs.length = xs.length
  | _, _, .nil => rfl
  | _, _, .cons _ t => by simp [rks_length t]
theorem c_len : CallR X (.builtin "len") (rA nm X.K (biF .len)) := bi1 (g := lenF) (fun ah xs c e => by
    match xs, e with
    | [a], e => exact ⟨a, rfl, e⟩) fun pins s σ H x u Q W ah a c I rx R ra e k => by
  have fin := fun (n : Nat) (q : c = .int n) => k W H (.int n) (Step.refl _ _) R (by rw [q]; exact .int _)
  cases ra with
  | str z =>
    simp only [lenF] at e
    split at e
    · rename_i h
      cases e
      exact call_len pins s σ H [_] [u] Q I (.cons rx .nil) ⟨_, _, rfl, ⟨h, rfl⟩, fin _ rfl⟩
    · cases e
  | tup h r => cases e; exact call_len pins s σ H [_] [u] Q I (.cons rx .nil) ⟨_, _, rfl, .inr ⟨_, same_tup R.fz h, rfl⟩, fin _ (by rw [r.length])⟩
  | lst h r => cases e; exact call_len pins s σ H [_] [u] Q I (.cons rx .nil) ⟨_, _, rfl, .inl ⟨_, .inl (same_rd R.fz h), rfl⟩, fin _ (by rw [r.length])⟩
  | dct h r =>
    cases e
    exact call_lenD pins s σ H [_] [u] Q I (.cons rx .nil) ⟨_, _, rfl, R.fz _ _ h, fin _ (by rw [rks_length r])⟩
  | ref h =>
    simp only [lenF] at e
    split at e
    · rename_i q
      cases e
      obtain ⟨vs, h1, h2⟩ := R.at h q
      exact call_len pins s σ H [_] [u] Q I (.cons rx .nil) ⟨_, _, rfl, .inl ⟨_, SqL.of h1, rfl⟩, fin _ (by rw [h2.length])⟩
    · rename_i q
      cases e
      obtain ⟨vs, h1, h2⟩ := R.at h q
      exact call_lenD pins s σ H [_] [u] Q I (.cons rx .nil) ⟨_, _, rfl, h1, fin _ (by rw [rks_length h2])⟩
    · cases e
  | _ => cases e
theorem c_repr (C : Cal X) : CallR X (.builtin "repr") (rA nm X.K (biF .repr)) := bi1 (g := reprF) (fun ah xs c e => by
    match xs, e with
    | [a], e => exact ⟨a, rfl, e⟩) fun pins s σ H x u Q W ah a c I rx R ra e k => by
  unfold reprF at e
  simp only [Option.bind_eq_some_iff] at e
  obtain ⟨d, e1, e2⟩ := e
  split at e2
  · rename_i h
    cases e2
    obtain ⟨as, rd, nm'⟩ := readsH_of C.sm I R ra rx e1
    have fin : ∀ h' tk t, (∀ b o, s.heap.get? b = some o → h'.get? b = some o) → EP X pins σ Q (.str d.shown t) { s with heap := h', toks := tk } := fun h' tk t hk =>
      ⟨.str d.shown, H, I.kept hk, ⟨t, rfl⟩, k W H _ (Step.refl _ _) R (.str _)⟩
    have fin0 : ∀ t, EP X pins σ Q (.str d.shown t) { s with toks := s.toks + 1 } := fun t => fin s.heap _ t fun _ _ q => q
    cases rd with
    | none => exact PySem.P.repr_of_none (fin0 _)
    | bool b => exact PySem.P.repr_of_bool (fin0 _)
    | int i t => exact PySem.P.repr_of_int (of_decide_eq_true h.1) (fin0 _)
    | str z t => exact PySem.P.repr_of_str (fin0 _) h.2.1
    | list h1 h2 h3 h4 => exact repr_of_reads' (.list h1 h2 h3 h4) h.1 (fun _ => nm') C.gd (by have := C.hu; omega) (fun _ _ q => q) (fun h' t tk hk => fin h' tk t hk) h.2.1
    | tuple h1 h2 h3 h4 => exact repr_of_reads' (.tuple h1 h2 h3 h4) h.1 (fun _ => nm') C.gd (by have := C.hu; omega) (fun _ _ q => q) (fun h' t tk hk => fin h' tk t hk) h.2.1
    | dict h1 h2 h3 h4 h5 => exact repr_of_reads' (.dict h1 h2 h3 h4 h5) h.1 (fun _ => nm') C.gd (by have := C.hu; omega) (fun _ _ q => q) (fun h' t tk hk => fin h' tk t hk) h.2.1
  · cases e2
theorem c_int : CallR X (.type "int") (rA nm X.K (biF .int)) := bi1 (g := fun _ a => intF a) (fun ah xs c e => by
    match xs, e with
    | [a], e => exact ⟨a, rfl, e⟩) fun pins s σ H x u Q W ah a c I rx R ra e k => by
  cases ra with
  | int i => cases e; exact call_int1 pins s σ H [_] [u] Q I (.cons rx .nil) (.inl ⟨_, rfl, k W H _ (Step.refl _ _) R (.int _)⟩)
  | bl b => cases e; exact call_int1 pins s σ H [_] [u] Q I (.cons rx .nil) (.inr ⟨_, rfl, k W H _ (Step.refl _ _) R (.int _)⟩)
  | str z =>
    simp only [intF, Option.bind_eq_some_iff] at e
    obtain ⟨n, e1, e2⟩ := e
    split at e2
    · rename_i h
      cases e2
      exact call_int_str pins s σ H [_] [u] Q I (.cons rx .nil) ⟨_, _, rfl, e1, h, k W H _ (Step.refl _ _) R (.int _)⟩
    · cases e2
  | _ => cases e
theorem c_str : CallR X (.type "str") (rA nm X.K (biF .str)) := bi1 (g := fun _ a => strF a) (fun ah xs c e => by
    match xs, e with
    | [a], e => exact ⟨a, rfl, e⟩) fun pins s σ H x u Q W ah a c I rx R ra e k => by
  cases ra with
  | int i =>
    simp only [strF] at e
    split at e
    · rename_i h
      cases e
      exact call_str_int pins s σ H [_] [u] Q I (.cons rx .nil) ⟨_, rfl, h, k W H _ (Step.refl _ _) R (.str _)⟩
    · cases e
  | str z => cases e; exact SkE.call_str_str pins s σ H [_] [u] Q I (.cons rx .nil) ⟨_, rfl, k W H _ (Step.refl _ _) R (.str _)⟩
  | _ => cases e
theorem asKs_of {W : Wd} {ah : AH} {H : Hp} {a : AV} {w : V} {kvs : List (Key × AV)} (R : RelH X.K nm W ah H) (r : W.RV X.K a w) (e : asKs ah a = some kvs) : ∃ p ws, w = .ref p ∧ H p = some (.dK ws) ∧ RKs X.K W.fz W.io kvs ws := by
  cases r with
  | dct h r => cases e; exact ⟨_, _, rfl, R.fz _ _ h, r⟩
  | ref h =>
    simp only [asKs] at e
    split at e
    · rename_i q
      cases e
      obtain ⟨vs, h1, h2⟩ := R.at h q
      exact ⟨_, vs, rfl, h1, h2⟩
    · cases e
  | _ => cases e
theorem keys_of {K : PySem.W.Frag} {W : Wd} : ∀ {kvs : List (Key × AV)} {ws : List (Key × V)}, RKs K W.fz W.io kvs ws → W.RVs K (kvs.map fun kv => kA kv.1) (ws.map fun kv => kV kv.1)
  | _, _, .nil => .nil
  | _, _, .cons (k := k) r t => by
    refine .cons ?_ (keys_of t)
    cases k with
    | inl i => exact .int i
    | inr z => exact .str z
theorem c_list (C : Cal X) : CallR X (.type "list") (rA nm X.K (biF .list)) := bi1 (g := listF) (fun ah xs c e => by
    match xs, e with
    | [a], e => exact ⟨a, rfl, e⟩) fun pins s σ H x u Q W ah a c I rx R ra e k => by
  have new : ∀ (xs : List AV) (vs : List V), W.RVs X.K xs vs → c = .lst xs → ∀ l, H l = none → Q (.ref l) (upd H l (.lst vs)) := fun xs vs r ec l hl => by
    have st := Step.keep (o := .lst vs) R hl
    exact k _ _ _ st (R.keep hl) (by rw [ec]; exact .lst (Rd.of upd_same) (r.step st))
  unfold listF at e
  split at e
  · cases e
    cases ra with
    | tup h r => exact call_list_of pins s σ H [_] [u] Q I (.cons rx .nil) ⟨_, _, rfl, .inr (same_tup R.fz h), new _ _ r rfl⟩
  · split at e
    · rename_i q
      cases e
      obtain ⟨p, ws, rfl, h1, h2⟩ := asKs_of R ra q
      exact call_list_dK C.calm pins s σ H [_] [u] Q I (.cons rx .nil) ⟨_, _, rfl, h1, new _ _ (keys_of h2) rfl⟩
    · simp only [Option.map_eq_some_iff] at e
      obtain ⟨xs, e1, rfl⟩ := e
      obtain ⟨p, vs, rfl, h1, h2⟩ := asL_of R ra e1
      exact call_list_of pins s σ H [_] [u] Q I (.cons rx .nil) ⟨_, _, rfl, .inl (.inl h1), new _ _ h2 rfl⟩
theorem c_tuple : CallR X (.type "tuple") (rA nm X.K (biF .tuple)) := bi1 (g := tupleF) (fun ah xs c e => by
    match xs, e with
    | [a], e => exact ⟨a, rfl, e⟩) fun pins s σ H x u Q W ah a c I rx R ra e k => by
  unfold tupleF at e
  split at e
  · cases e
    cases ra with
    | tup h r => exact call_tuple_of pins s σ H [_] [u] Q I (.cons rx .nil) ⟨_, _, rfl, .inr ⟨same_tup R.fz h, k W H _ (Step.refl _ _) R (.tup h r)⟩⟩
  · simp only [Option.map_eq_some_iff] at e
    obtain ⟨xs, e1, rfl⟩ := e
    obtain ⟨p, vs, rfl, h1, h2⟩ := asL_of R ra e1
    refine call_tuple_of pins s σ H [_] [u] Q I (.cons rx .nil) ⟨_, _, rfl, .inl ⟨.inl h1, fun l hl => ?_⟩⟩
    have st := Step.keep (o := .tup vs) R hl
    exact k _ _ _ st (R.keep hl) (.tup (SqT.of upd_same) (h2.step st))
theorem c_dict (C : Cal X) : CallR X (.type "dict") (rA nm X.K (biF .dict)) := bi1 (g := dictF) (fun ah xs c e => by
    match xs, e with
    | [a], e => exact ⟨a, rfl, e⟩) fun pins s σ H x u Q W ah a c I rx R ra e k => by
  unfold dictF at e
  split at e
  · rename_i q v e1
    simp only [Option.map_eq_some_iff] at e
    obtain ⟨ky, e2, rfl⟩ := e
    obtain ⟨p, vs, rfl, h1, h2⟩ := asL_of R ra e1
    obtain ⟨v0, rfl, r0⟩ := rvs1 h2
    cases r0 with
    | tup h r =>
      obtain ⟨w1, w2, rfl, r1, r2⟩ := rvs2 r
      have ew : w1 = kV ky := by
        unfold keyA at e2
        split at e2
        · cases e2; cases r1; rfl
        · cases e2; cases r1; rfl
        · cases e2
      subst ew
      refine call_dictP C.calm pins s σ H [_] [u] Q I (.cons rx .nil) ⟨_, [_], [(ky, w2)], rfl, .inl h1, .cons (same_tup R.fz h) .nil, fun l hl => ?_⟩
      have st := Step.keep (o := .dK [(ky, w2)]) R hl
      exact k _ _ _ st (R.keep hl) (.dct upd_same (.cons (r2.step st) .nil))
  · cases e
theorem c_sum (C : Cal X) : CallR X (.builtin "sum") (rA nm X.K (biF .sum)) := bi1 (g := sumF) (fun ah xs c e => by
    match xs, e with
    | [a], e => exact ⟨a, rfl, e⟩) fun pins s σ H x u Q W ah a c I rx R ra e k => by
  simp only [sumF, Option.bind_eq_some_iff, Option.map_eq_some_iff] at e
  obtain ⟨xs, e1, ns, e2, rfl⟩ := e
  obtain ⟨p, vs, rfl, h1, h2⟩ := asL_of R ra e1
  obtain rfl := asInts_of h2 e2
  exact cr_sum C.calm pins s σ H [_] [u] Q I (.cons rx .nil) ⟨_, _, rfl, .inl h1, k W H _ (Step.refl _ _) R (.int _)⟩
theorem c_all (C : Cal X) : CallR X (.builtin "all") (rA nm X.K (biF .all)) := bi1 (g := allF) (fun ah xs c e => by
    match xs, e with
    | [a], e => exact ⟨a, rfl, e⟩) fun pins s σ H x u Q W ah a c I rx R ra e k => by
  simp only [allF, Option.bind_eq_some_iff, Option.map_eq_some_iff] at e
  obtain ⟨xs, e1, ns, e2, rfl⟩ := e
  obtain ⟨p, vs, rfl, h1, h2⟩ := asL_of R ra e1
  obtain rfl := asBls_of h2 e2
  exact cr_all C.calm pins s σ H [_] [u] Q I (.cons rx .nil) ⟨_, _, rfl, .inl h1, k W H _ (Step.refl _ _) R (.bl _)⟩
theorem c_any (C : Cal X) : CallR X (.builtin "any") (rA nm X.K (biF .any)) := bi1 (g := anyF) (fun ah xs c e => by
    match xs, e with
    | [a], e => exact ⟨a, rfl, e⟩) fun pins s σ H x u Q W ah a c I rx R ra e k => by
  simp only [anyF, Option.bind_eq_some_iff, Option.map_eq_some_iff] at e
  obtain ⟨xs, e1, ns, e2, rfl⟩ := e
  obtain ⟨p, vs, rfl, h1, h2⟩ := asL_of R ra e1
  obtain rfl := asBls_of h2 e2
  exact cr_any C.calm pins s σ H [_] [u] Q I (.cons rx .nil) ⟨_, _, rfl, .inl h1, k W H _ (Step.refl _ _) R (.bl _)⟩
theorem c_abs : CallR X (.builtin "abs") (rA nm X.K (biF .abs)) := bi1 (g := fun _ a => absF a) (fun ah xs c e => by
    match xs, e with
    | [a], e => exact ⟨a, rfl, e⟩) fun pins s σ H x u Q W ah a c I rx R ra e k => by
  cases ra with
  | int i => cases e; exact call_abs pins s σ H [_] [u] Q I (.cons rx .nil) ⟨_, rfl, k W H _ (Step.refl _ _) R (.int _)⟩
  | _ => cases e
theorem c_max (C : Cal X) : CallR X (.builtin "max") (rA nm X.K (biF .max)) := by
  rintro pins s σ H xs us Q I rx ⟨W, ah, as, c, R, ra, e, k⟩
  match as, e with
  | [.int i, .int j], e =>
    cases e
    obtain ⟨_, _, rfl, r1, r2⟩ := rvs2 ra
    cases r1; cases r2
    exact call_max2 C.calm pins s σ H _ us Q I rx ⟨_, _, rfl, k W H _ (Step.refl _ _) R (.int _)⟩
theorem c_min (C : Cal X) : CallR X (.builtin "min") (rA nm X.K (biF .min)) := by
  rintro pins s σ H xs us Q I rx ⟨W, ah, as, c, R, ra, e, k⟩
  match as, e with
  | [.int i, .int j], e =>
    cases e
    obtain ⟨_, _, rfl, r1, r2⟩ := rvs2 ra
    cases r1; cases r2
    exact call_min2 C.calm pins s σ H _ us Q I rx ⟨_, _, rfl, k W H _ (Step.refl _ _) R (.int _)⟩
/-- a call of a built-in by its name -/
theorem ev_bi (C : Cal X) {Wx : WX} (b : BI) {e : Expr} {es : List Expr} {fa : Rho → AH → Ot (List AV)} {p pos : Pos} (hg : Gl X b.name) (hm : X.mg b.name = none) (ha : EA nm X Wx (e :: es) fa)
    (he : starEach (e :: es) X.env = (false, eval e X.env) :: starEach es X.env) (hpl : (backTo pos (starEach es X.env)).any (·.1) = false) : EV nm X Wx (.Call (.Name b.name p) (e :: es) [] pos) (fA (biF b) fa) := by
  have go : ∀ {t : TE}, PE X (.Call (.Name b.name p) (e :: es) [] pos) (tCB (rA nm X.K (biF b)) (TrA nm X.K Wx fa)) → EV nm X Wx (.Call (.Name b.name p) (e :: es) [] pos) (fA (biF b) fa) := fun {t} h =>
    PE.weak h fun σ H Q ⟨W, ρ, ah, rh, rs, p⟩ => TrA.seqB rh rs p fun xs ah1 W1 H1 vs s1 R1 S1 v1 p1 => by
      obtain ⟨c, e, k⟩ := p1.of
      exact ⟨W1, ah1, xs, c, R1, v1, e, fun W' H' w s R r => k W' H' s R w r⟩
  cases b with
  | dict => exact go (t := tVar 0) (pe_callTy (c_dict C) hg hm (by decide +kernel) ha (by decide) (by decide) he hpl)
  | len => exact go (t := tVar 0) (pe_callB c_len hg hm (by decide +kernel) ha (by decide) (by decide) he hpl)
  | repr => exact go (t := tVar 0) (pe_callB (c_repr C) hg hm (by decide +kernel) ha (by decide) (by decide) he hpl)
  | int => exact go (t := tVar 0) (pe_callTy c_int hg hm (by decide +kernel) ha (by decide) (by decide) he hpl)
  | str => exact go (t := tVar 0) (pe_callTy c_str hg hm (by decide +kernel) ha (by decide) (by decide) he hpl)
  | list => exact go (t := tVar 0) (pe_callTy (c_list C) hg hm (by decide +kernel) ha (by decide) (by decide) he hpl)
  | tuple => exact go (t := tVar 0) (pe_callTy c_tuple hg hm (by decide +kernel) ha (by decide) (by decide) he hpl)
  | sum => exact go (t := tVar 0) (pe_callB (c_sum C) hg hm (by decide +kernel) ha (by decide) (by decide) he hpl)
  | all => exact go (t := tVar 0) (pe_callB (c_all C) hg hm (by decide +kernel) ha (by decide) (by decide) he hpl)
  | any => exact go (t := tVar 0) (pe_callB (c_any C) hg hm (by decide +kernel) ha (by decide) (by decide) he hpl)
  | abs => exact go (t := tVar 0) (pe_callB c_abs hg hm (by decide +kernel) ha (by decide) (by decide) he hpl)
  | max => exact go (t := tVar 0) (pe_callB (c_max C) hg hm (by decide +kernel) ha (by decide) (by decide) he hpl)
  | min => exact go (t := tVar 0) (pe_callB (c_min C) hg hm (by decide +kernel) ha (by decide) (by decide) he hpl)
end
end Ko

/-! Ko, part F: subscripts, slices, isinstance, methods of texts. -/
namespace Ko
open PySem L2

/-! ### the text around -/
def notSt : Expr → Bool | .Starred .. => false | _ => true
theorem star_cons {e : Expr} {es : List Expr} {env : Env} (h : notSt e = true) : starEach (e :: es) env = (false, eval e env) :: starEach es env := by
  cases e <;> first | rfl | exact absurd h Bool.false_ne_true
theorem star_plain (pos : Pos) (env : Env) : ∀ {es : List Expr}, es.all notSt = true → (backTo pos (starEach es env)).any (·.1) = false
  | [], _ => rfl
  | e :: es, h => by
    rw [List.all_cons, Bool.and_eq_true] at h
    rw [star_cons h.1]
    show (false || (backTo pos (starEach es env)).any (·.1)) = false
    rw [star_plain pos env h.2]; rfl
def plainBase : Expr → Bool | .Call _ [] [] _ => false | _ => true
theorem base_of {o : Expr} {attr : Str} {env : Env} {w : Sem Value} (h : plainBase o = true) : attributeBase o attr env w = w := by
  unfold attributeBase
  split
  · exact absurd h Bool.false_ne_true
  · rfl
def noSlice : Expr → Bool | .Slice .. => false | _ => true
theorem plainIx_of {b : Expr} (h : noSlice b = true) : PlainIx b := fun o i => by
  cases b <;> first | rfl | exact absurd h Bool.false_ne_true

/-! ### a[i] -/
def ixF (ah : AH) (a i : AV) : Option AV := match i with
  | .int k => match a with
    | .tup xs => atI xs k
    | .str z => if z.length ≤ sizeLine then (atI z.cps.toList k).map fun c => .str ⟨#[c]⟩ else none
    | a => (asL ah a).bind fun xs => atI xs k
  | _ => none
section
variable {X : Cx} {nm : Nm} {Wx : WX}
theorem atI_rvs {K : PySem.W.Frag} {W : Wd} {xs : List AV} {vs : List V} {k : Int} {c : AV} (r : W.RVs K xs vs) (e : atI xs k = some c) : ∃ v, atI vs k = some v ∧ W.RV K c v := by
  unfold atI at e ⊢
  rw [r.length]
  cases q : ixN xs.length k with
  | none => rw [q] at e; cases e
  | some j =>
    rw [q] at e
    exact r.get e
theorem ix_F : IxR X (r2 nm X.K ixF) := by
  rintro value slice pins s σ H x y v u Q I rx ry ⟨W, ah, a, i, c, R, ra, ri, e, k⟩ hs
  unfold ixF at e
  split at e
  · cases ri
    split at e
    · cases ra with
      | tup h r =>
        obtain ⟨w, h1, h2⟩ := atI_rvs r e
        exact ix_tup value slice pins s σ H _ _ v u Q I rx ry ⟨_, _, _, w, rfl, rfl, same_tup R.fz h, h1, k W H _ (Step.refl _ _) R h2⟩ hs
    · cases ra
      split at e
      · rename_i h
        simp only [Option.map_eq_some_iff] at e
        obtain ⟨c0, e1, rfl⟩ := e
        exact ix_str value slice pins s σ H _ _ v u Q I rx ry ⟨_, _, c0, rfl, rfl, h, e1, k W H _ (Step.refl _ _) R (.str _)⟩ hs
      · cases e
    · simp only [Option.bind_eq_some_iff] at e
      obtain ⟨xs, e1, e2⟩ := e
      obtain ⟨p, vs, rfl, h1, h2⟩ := asL_of R ra e1
      obtain ⟨w, h3, h4⟩ := atI_rvs h2 e2
      exact ix_list value slice pins s σ H _ _ v u Q I rx ry ⟨_, _, _, w, rfl, rfl, .inl h1, h3, k W H _ (Step.refl _ _) R h4⟩ hs
  · cases e
theorem ev_sub {a b : Expr} {fa fb : Rho → AH → Ot AV} {pos : Pos} (ha : EV nm X Wx a fa) (hb : EV nm X Wx b fb) (hs : noSlice b = true) : EV nm X Wx (.Subscript a b pos) (f2 ixF fa fb) := by
  refine PE.weak (pe_ix (ix_F (nm := nm)) ha hb (plainIx_of hs)) fun σ H Q ⟨W, ρ, ah, rh, rs, p⟩ => ?_
  refine TrE.seq rh rs p fun x ah1 W1 H1 w1 s1 R1 S1 v1 p1 => TrE.seq R1 S1 p1 fun y ah2 W2 H2 w2 s2 R2 S2 v2 p2 => ?_
  obtain ⟨c, e, k⟩ := p2.of
  exact ⟨W2, ah2, x, y, c, R2, v1.step s2, v2, e, fun W' H' w s R r => k W' H' s R w r⟩

/-! ### a[lo:hi] -/
def cutA (xs : List AV) (lo hi : Option Int) : List AV := (xs.drop (HT.sIx xs.length 0 lo)).take (HT.sIx xs.length xs.length hi - HT.sIx xs.length 0 lo)
def slF (ah : AH) (a : AV) (lo hi : Option Int) : Option AV := match a with
  | .tup xs => some (.tup (cutA xs lo hi))
  | .str z => if z.length ≤ sizeLine then some (.str (cutS z lo hi)) else none
  | a => (asL ah a).map fun xs => .lst (cutA xs lo hi)
theorem cut_rvs {K : PySem.W.Frag} {W : Wd} {xs : List AV} {vs : List V} (r : W.RVs K xs vs) (lo hi : Option Int) : W.RVs K (cutA xs lo hi) (cutV vs lo hi) := by
  unfold cutA cutV
  rw [r.length]
  exact (r.drop _).take _
def rSl (nm : Nm) (K : PySem.W.Frag) : V → Option Int → Option Int → Hp → VK → Prop := fun x lo hi H Q => ∃ W ah a c, RelH K nm W ah H ∧ W.RV K a x ∧ slF ah a lo hi = some c ∧ ∀ W' H' w, Step W H W' H' → RelH K nm W' ah H' → W'.RV K c w → Q w H'
theorem whole_cut {xs : List AV} {lo hi : Option Int} (h : HT.sIx xs.length 0 lo = 0 ∧ HT.sIx xs.length xs.length hi = xs.length) : cutA xs lo hi = xs := by
  unfold cutA
  rw [h.1, h.2]; simp
theorem sl_F : SlR X (rSl nm X.K) := by
  rintro pins s σ H x v vl vu lo hi sl Q I rx hs pl pu ⟨W, ah, a, c, R, ra, e, k⟩
  unfold slF at e
  split at e
  · cases e
    cases ra with
    | tup h r =>
      rename_i p vs
      refine sl_tupA pins s σ H _ v vl vu lo hi sl Q I rx hs pl pu ⟨p, vs, rfl, same_tup R.fz h, fun hw => ?_, fun _ q hq => ?_⟩
      · rw [r.length] at hw
        exact k W H _ (Step.refl _ _) R (by rw [whole_cut hw]; exact .tup h r)
      · have st := Step.keep (o := .tup (cutV vs lo hi)) R hq
        exact k _ _ _ st (R.keep hq) (.tup (SqT.of upd_same) ((cut_rvs r lo hi).step st))
  · cases ra
    split at e
    · rename_i h
      cases e
      exact sl_str pins s σ H _ v vl vu lo hi sl Q I rx hs pl pu ⟨_, rfl, h, k W H _ (Step.refl _ _) R (.str _)⟩
    · cases e
  · simp only [Option.map_eq_some_iff] at e
    obtain ⟨xs, e1, rfl⟩ := e
    obtain ⟨p, vs, rfl, h1, h2⟩ := asL_of R ra e1
    refine sl_list pins s σ H _ v vl vu lo hi sl Q I rx hs pl pu ⟨p, vs, rfl, .inl h1, fun q hq => ?_⟩
    have st := Step.keep (o := .lst (cutV vs lo hi)) R hq
    exact k _ _ _ st (R.keep hq) (.lst (Rd.of upd_same) ((cut_rvs h2 lo hi).step st))
/-- a part of a slice -/
def pNone : Rho → AH → Ot (Option Int) := fun _ ah => .ok none ah
def asI : AV → Option Int | .int i => some i | _ => none
def pSome (a : Rho → AH → Ot AV) : Rho → AH → Ot (Option Int) := fun ρ ah => (a ρ ah).bind fun x ah1 => match asI x with | some i => .ok (some i) ah1 | none => .st
def TrO (nm : Nm) (K : PySem.W.Frag) (Wx : WX) (f : Rho → AH → Ot (Option Int)) : TO := fun σ H Q => ∃ W ρ ah, RelH K nm W ah H ∧ RS K W ρ σ ∧ Post K nm W H (f ρ ah) (fun v _ W' H' => Q v H') (xw K nm Wx σ)
abbrev EO (nm : Nm) (X : Cx) (Wx : WX) (e : Option Expr) (f : Rho → AH → Ot (Option Int)) : Prop := PO X e (TrO nm X.K Wx f)
theorem PO.weak {X : Cx} {e : Option Expr} {t t' : TO} (h : PO X e t) (w : ∀ σ H Q, t' σ H Q → t σ H Q) : PO X e t' := ⟨fun pins s σ H Q I q => h.run pins s σ H Q I (w σ H Q q)⟩
theorem eo_none : EO nm X Wx none pNone := PO.weak po_none fun σ H Q ⟨W, ρ, ah, rh, rs, p⟩ => p W H (Step.refl _ _) rh
theorem eo_some {e : Expr} {fa : Rho → AH → Ot AV} (ha : EV nm X Wx e fa) : EO nm X Wx (some e) (pSome fa) := by
  refine PO.weak (po_some ha) fun σ H Q ⟨W, ρ, ah, rh, rs, p⟩ => ?_
  refine TrE.seqB rh rs p fun x ah1 W1 H1 w1 s1 R1 S1 v1 p1 => ?_
  cases v1 <;> first | exact ⟨_, rfl, p1 W1 H1 (Step.refl _ _) R1⟩ | exact False.elim p1
def slcF (a : Rho → AH → Ot AV) (lo hi : Rho → AH → Ot (Option Int)) : Rho → AH → Ot AV := fun ρ ah => (a ρ ah).bind fun x ah1 => (lo ρ ah1).bind fun l ah2 => (hi ρ ah2).bind fun h ah3 => Ot.of (slF ah3 x l h) ah3
theorem TrO.seqB {K : PySem.W.Frag} {f : Rho → AH → Ot (Option Int)} {β : Type} {g : Option Int → AH → Ot β} {σ : St} {H : Hp} {R : Option Int → Hp → Prop} {W : Wd} {ρ : Rho} {ah : AH} {k : β → AH → Wd → Hp → Prop} (rh : RelH K nm W ah H) (rs : RS K W ρ σ)
    (p : Post K nm W H ((f ρ ah).bind g) k (xw K nm Wx σ))
    (h : ∀ a ah1 W1 H1, Step W H W1 H1 → RelH K nm W1 ah1 H1 → RS K W1 ρ σ → Post K nm W1 H1 (g a ah1) k (xw K nm Wx σ) → R a H1) : TrO nm K Wx f σ H R :=
  ⟨W, ρ, ah, rh, rs, p.bind.imp (fun a ah1 W1 H1 s R1 q => h a ah1 W1 H1 s R1 (rs.step s) q) fun _ _ _ _ _ _ q => q⟩
theorem ev_slc {a : Expr} {lo hi : Option Expr} {p2 pos : Pos} {fa : Rho → AH → Ot AV} {fl fh : Rho → AH → Ot (Option Int)} (ha : EV nm X Wx a fa) (hl : EO nm X Wx lo fl) (hh : EO nm X Wx hi fh) : EV nm X Wx (.Subscript a (.Slice lo hi none p2) pos) (slcF fa fl fh) := by
  refine PE.weak (pe_slice (sl_F (nm := nm)) ha hl hh) fun σ H Q ⟨W, ρ, ah, rh, rs, p⟩ => ?_
  refine TrE.seqB rh rs p fun x ah1 W1 H1 w1 s1 R1 S1 v1 p1 => TrO.seqB R1 S1 p1 fun l ah2 W2 H2 s2 R2 S2 p2 => TrO.seqB R2 S2 p2 fun h ah3 W3 H3 s3 R3 S3 p3 => ?_
  obtain ⟨c, e, k⟩ := p3.of
  exact ⟨W3, ah3, x, c, R3, (v1.step s2).step s3, e, fun W' H' w s R r => k W' H' s R w r⟩

/-! ### isinstance -/
inductive Ty where
  | bool | int | str | tuple | list | dict
  deriving DecidableEq
def Ty.name : Ty → Str
  | .bool => "bool" | .int => "int" | .str => "str" | .tuple => "tuple" | .list => "list" | .dict => "dict"
def Ty.tn : Ty → String
  | .bool => "bool" | .int => "int" | .str => "str" | .tuple => "tuple" | .list => "list" | .dict => "dict"
def tyA (ah : AH) : AV → Option String
  | .non => some "NoneType"
  | .bl _ => some "bool"
  | .int _ => some "int"
  | .str _ => some "str"
  | .tup _ => some "tuple"
  | .lst _ => some "list"
  | .dct _ => some "dict"
  | .ref n => match ah[n]? with
    | some (.lst _) => some "list"
    | some (.dct _) => some "dict"
    | _ => none
def isTy (t : String) (u : Ty) : Bool := match t, u with
  | "bool", .bool => true
  | "bool", .int => true
  | "int", .int => true
  | "str", .str => true
  | "tuple", .tuple => true
  | "list", .list => true
  | "dict", .dict => true
  | _, _ => false
theorem isTy_kit (K : PySem.W.Frag) {ah : AH} {a : AV} {t : String} (h : tyA ah a = some t) (u : Ty) : PySem.W.kitOne K (.type t) (.type u.tn) = some (isTy t u) := by
  have key : t = "NoneType" ∨ t = "bool" ∨ t = "int" ∨ t = "str" ∨ t = "tuple" ∨ t = "list" ∨ t = "dict" := by
    unfold tyA at h
    split at h <;> first | (cases h; simp; done) | skip
    split at h <;> first | (cases h; simp; done) | cases h
  rcases key with rfl | rfl | rfl | rfl | rfl | rfl | rfl <;> cases u <;> exact kit_ty (by decide +kernel)
theorem tyX_of {W : Wd} {ah : AH} {H : Hp} {a : AV} {w : V} {t : String} (R : RelH X.K nm W ah H) (r : W.RV X.K a w) (e : tyA ah a = some t) : TyX X.K H w (.type t) := by
  cases r with
  | non => cases e; exact .base .non
  | bl b => cases e; exact .base (.bl b)
  | int b => cases e; exact .base (.int b)
  | str b => cases e; exact .base (.str b)
  | tup h r =>
    cases e
    rcases same_tup R.fz h with (h | ⟨o, h⟩) | ⟨o, its, n, h, hc, _⟩
    · exact .base (.tup h)
    · exact .fTuple h
    · exact .kTuple h hc
  | lst h r =>
    cases e
    rcases same_rd R.fz h with h | ⟨o, h⟩
    · exact .base (.lst h)
    · exact .base (.frz h)
  | dct h r => cases e; exact .base (.dK (R.fz _ _ h))
  | ref h =>
    simp only [tyA] at e
    split at e
    · rename_i q
      cases e
      obtain ⟨vs, h1, h2⟩ := R.at h q
      exact .base (.lst h1)
    · rename_i q
      cases e
      obtain ⟨vs, h1, h2⟩ := R.at h q
      exact .base (.dK h1)
    · cases e
def isiF (ts : List Ty) (a : Rho → AH → Ot AV) : Rho → AH → Ot AV := f1 (fun ah x => (tyA ah x).map fun t => .bl (ts.any (isTy t))) a
theorem boot_ty (u : Ty) : bootBuiltins u.name = some (.type u.tn) := by cases u <;> decide +kernel
theorem pe_ty (u : Ty) {pos : Pos} (hg : Gl X u.name) (hm : X.mg u.name = none) : PE X (.Name u.name pos) (tC (.ty u.tn)) :=
  pe_bltn hg hm (boot_ty u) rfl (by cases u <;> decide) (by cases u <;> decide)
theorem ev_isi1 {a : Expr} {fa : Rho → AH → Ot AV} {u : Ty} {p p1 pos : Pos} (hg : Gl X "isinstance") (hm : X.mg "isinstance" = none) (hgu : Gl X u.name) (hmu : X.mg u.name = none) (ha : EV nm X Wx a fa) (hst : notSt a = true) :
    EV nm X Wx (.Call (.Name "isinstance" p) [a, .Name u.name p1] [] pos) (isiF [u] fa) := by
  refine PE.weak (pe_callB call_isi hg hm (by decide +kernel) (pa_cons ha (pa_cons (pe_ty u hgu hmu) pa_nil) (star_cons hst)) (by decide) (by decide) (star_cons hst) rfl) fun σ H Q ⟨W, ρ, ah, rh, rs, p⟩ => ?_
  refine TrE.seqB rh rs p fun x ah1 W1 H1 w1 s1 R1 S1 v1 p1 => ?_
  obtain ⟨c, e, k⟩ := p1.of
  simp only [Option.map_eq_some_iff] at e
  obtain ⟨t, e1, rfl⟩ := e
  refine ⟨w1, .ty u.tn, .type t, .type u.tn, _, rfl, .ty _, tyX_of R1 v1 e1, isTy_kit X.K e1 u, ?_⟩
  have q := k W1 H1 (Step.refl _ _) R1 _ (.bl _)
  simpa using q
theorem ev_isi2 {a : Expr} {fa : Rho → AH → Ot AV} {u u' : Ty} {k0 : Nat} {p p1 p2 p3 pos : Pos} (hg : Gl X "isinstance") (hm : X.mg "isinstance" = none) (hgu : Gl X u.name) (hmu : X.mg u.name = none) (hgv : Gl X u'.name) (hmv : X.mg u'.name = none) (ha : EV nm X Wx a fa) (hst : notSt a = true) :
    EV nm X Wx (.Call (.Name "isinstance" p) [a, .Tuple [.Name u.name p1, .Name u'.name p2] k0 p3] [] pos) (isiF [u, u'] fa) := by
  refine PE.weak (pe_callB call_isiT hg hm (by decide +kernel) (pa_cons ha (pa_cons (pe_tup (pa_cons (pe_ty u hgu hmu) (pa_cons (pe_ty u' hgv hmv) pa_nil))) pa_nil) (star_cons hst)) (by decide) (by decide) (star_cons hst) rfl) fun σ H Q ⟨W, ρ, ah, rh, rs, p⟩ => ?_
  refine TrE.seqB rh rs p fun x ah1 W1 H1 w1 s1 R1 S1 v1 p1 => ?_
  obtain ⟨c, e, k⟩ := p1.of
  simp only [Option.map_eq_some_iff] at e
  obtain ⟨t, e1, rfl⟩ := e
  refine ⟨(by show 2 ≤ sizeLine; decide), fun l hl => ?_⟩
  have st := Step.keep (o := .tup [.ty u.tn, .ty u'.tn]) R1 hl
  have R2 := R1.keep (o := .tup [.ty u.tn, .ty u'.tn]) hl
  refine ⟨w1, l, [.ty u.tn, .ty u'.tn], .type t, [.type u.tn, .type u'.tn], (isTy t u || isTy t u'), rfl, upd_same, .cons (.ty _) (.cons (.ty _) .nil), tyX_of R2 (v1.step st) e1, ?_, ?_⟩
  · refine kitAny_cons (isTy_kit X.K e1 u) (fun h => kitAny_cons (isTy_kit X.K e1 u') (fun h2 => ?_) fun h2 => ?_) fun h => ?_
    · rw [h, h2]; exact kitAny_nil
    · rw [h2]; simp
    · rw [h]; rfl
  · have q := k _ _ st R2 _ (.bl _)
    simpa using q

/-! ### methods of texts -/
inductive MI where
  | isascii | isprintable | isalpha | islower | isdigit | join | count | startswith | endswith | zfill | stripC
def MI.name : MI → Str
  | .isascii => "isascii" | .isprintable => "isprintable" | .isalpha => "isalpha" | .islower => "islower" | .isdigit => "isdigit" | .join => "join" | .count => "count"
  | .startswith => "startswith" | .endswith => "endswith" | .zfill => "zfill" | .stripC => "strip"
def miF (m : MI) (ah : AH) : AV → List AV → Option AV
  | .str z, [] => match m with
    | .isascii => some (.bl (Txt.isascii z))
    | .isprintable => some (.bl (Txt.isprintable z))
    | .isalpha => some (.bl (Txt.isalpha z))
    | .islower => some (.bl (Txt.islower z))
    | .isdigit => some (.bl (Txt.isdigit z))
    | _ => none
  | .str z, [a] => match m, a with
    | .join, a => (asL ah a).bind fun xs => (asStrs xs).bind fun ys => if (ys.map (·.length)).sum + ys.length * z.length ≤ 16777216 then some (.str (Txt.join z ys)) else none
    | .count, .str y => some (.int (Txt.count z y))
    | .startswith, .str y => some (.bl (Txt.startswith z y))
    | .endswith, .str y => some (.bl (Txt.endswith z y))
    | .zfill, .int i => if PadOk i = true then some (.str (Txt.zfill z i)) else none
    | .stripC, .str y => if z.length ≤ sizeLine then some (.str (Txt.stripChars z y)) else none
    | _, _ => none
  | _, _ => none
def rM (nm : Nm) (K : PySem.W.Frag) (g : AH → AV → List AV → Option AV) : V → List V → Hp → VK → Prop := fun x xs H Q => ∃ W ah a as c, RelH K nm W ah H ∧ W.RV K a x ∧ W.RVs K as xs ∧ g ah a as = some c ∧ ∀ W' H' w, Step W H W' H' → RelH K nm W' ah H' → W'.RV K c w → Q w H'
def meF (g : AH → AV → List AV → Option AV) (o : Rho → AH → Ot AV) (a : Rho → AH → Ot (List AV)) : Rho → AH → Ot AV := fun ρ ah => (o ρ ah).bind fun x ah1 => (a ρ ah1).bind fun xs ah2 => Ot.of (g ah2 x xs) ah2
theorem mi_str {m : MI} {ah : AH} {a c : AV} {as : List AV} (e : miF m ah a as = some c) : ∃ z, a = .str z := by
  unfold miF at e
  split at e
  · exact ⟨_, rfl⟩
  · exact ⟨_, rfl⟩
  · cases e
theorem mi0 {m : MI} {id : String} {g : Str → V} {C : Str → Prop} (h : MtR X id (fun x xs H Q => ∃ a, x = .str a ∧ xs = [] ∧ C a ∧ Q (g a) H)) (hg : ∀ ah z as c, miF m ah (.str z) as = some c → as = [] ∧ C z ∧ ∀ W : Wd, W.RV X.K c (g z)) : MtR X id (rM nm X.K (miF m)) := by
  rintro pins s σ H x xs v us Q I rx rs ⟨W, ah, a, as, c, R, ra, rs', e, k⟩
  obtain ⟨z, rfl⟩ := mi_str e
  cases ra
  obtain ⟨rfl, h1, h2⟩ := hg _ _ _ _ e
  cases rs'
  exact h pins s σ H _ _ v us Q I rx rs ⟨z, rfl, rfl, h1, k W H _ (Step.refl _ _) R (h2 W)⟩
theorem mi1 {m : MI} {id : String} {g : Str → Str → V} {C : Str → Str → Prop} (h : MtR X id (fun x xs H Q => ∃ a b, x = .str a ∧ xs = [.str b] ∧ C a b ∧ Q (g a b) H)) (hg : ∀ ah z as c, miF m ah (.str z) as = some c → ∃ y, as = [.str y] ∧ C z y ∧ ∀ W : Wd, W.RV X.K c (g z y)) : MtR X id (rM nm X.K (miF m)) := by
  rintro pins s σ H x xs v us Q I rx rs ⟨W, ah, a, as, c, R, ra, rs', e, k⟩
  obtain ⟨z, rfl⟩ := mi_str e
  cases ra
  obtain ⟨y, rfl, h1, h2⟩ := hg _ _ _ _ e
  obtain ⟨w, rfl, r1⟩ := rvs1 rs'
  cases r1
  exact h pins s σ H _ _ v us Q I rx rs ⟨z, y, rfl, rfl, h1, k W H _ (Step.refl _ _) R (h2 W)⟩
theorem no_args0 {m : MI} {ah : AH} {z : Str} {as : List AV} {c : AV} (e : miF m ah (.str z) as = some c) (h : m = .isascii ∨ m = .isprintable ∨ m = .isalpha ∨ m = .islower ∨ m = .isdigit) : as = [] := by
  match as, e with
  | [], _ => rfl
  | [a], e => rcases h with rfl | rfl | rfl | rfl | rfl <;> cases e
  | _ :: _ :: _, e => cases e
end
end Ko

/-! Ko, part G: methods of texts, called. -/
namespace Ko
open PySem L2
section
variable {X : Cx} {nm : Nm} {Wx : WX}
theorem m_ascii : MtR X "str.isascii" (rM nm X.K (miF .isascii)) := mi0 (C := fun _ => True) mt_isascii fun ah z as c e => by
  obtain rfl := no_args0 e (by simp); cases e; exact ⟨rfl, trivial, fun _ => .bl _⟩
theorem m_print : MtR X "str.isprintable" (rM nm X.K (miF .isprintable)) := mi0 (C := fun _ => True) mt_isprintable fun ah z as c e => by
  obtain rfl := no_args0 e (by simp); cases e; exact ⟨rfl, trivial, fun _ => .bl _⟩
theorem m_alpha : MtR X "str.isalpha" (rM nm X.K (miF .isalpha)) := mi0 (C := fun _ => True) mt_isalpha fun ah z as c e => by
  obtain rfl := no_args0 e (by simp); cases e; exact ⟨rfl, trivial, fun _ => .bl _⟩
theorem m_lower : MtR X "str.islower" (rM nm X.K (miF .islower)) := mi0 (C := fun _ => True) mt_islower fun ah z as c e => by
  obtain rfl := no_args0 e (by simp); cases e; exact ⟨rfl, trivial, fun _ => .bl _⟩
theorem m_digit : MtR X "str.isdigit" (rM nm X.K (miF .isdigit)) := mi0 (C := fun _ => True) mt_isdigit fun ah z as c e => by
  obtain rfl := no_args0 e (by simp); cases e; exact ⟨rfl, trivial, fun _ => .bl _⟩
theorem one_arg {m : MI} {ah : AH} {z : Str} {as : List AV} {c : AV} (e : miF m ah (.str z) as = some c) (h : m = .join ∨ m = .count ∨ m = .startswith ∨ m = .endswith ∨ m = .zfill ∨ m = .stripC) : ∃ a, as = [a] := by
  match as, e with
  | [], e => rcases h with rfl | rfl | rfl | rfl | rfl | rfl <;> cases e
  | [a], e => exact ⟨a, rfl⟩
  | _ :: _ :: _, e => cases e
theorem m_count : MtR X "str.count" (rM nm X.K (miF .count)) := mi1 (g := fun a b => .int (Txt.count a b)) (C := fun _ _ => True) (fun pins s σ H x xs v us Q I rx rs ⟨a, b, h1, h2, _, q⟩ => mt_count pins s σ H x xs v us Q I rx rs ⟨a, b, h1, h2, q⟩) fun ah z as c e => by
  obtain ⟨a, rfl⟩ := one_arg e (by simp)
  cases a <;> first | (cases e; exact ⟨_, rfl, trivial, fun _ => .int _⟩) | cases e
theorem m_starts : MtR X "str.startswith" (rM nm X.K (miF .startswith)) := mi1 (g := fun a b => .bl (Txt.startswith a b)) (C := fun _ _ => True) (fun pins s σ H x xs v us Q I rx rs ⟨a, b, h1, h2, _, q⟩ => mt_startswith pins s σ H x xs v us Q I rx rs ⟨a, b, h1, h2, q⟩) fun ah z as c e => by
  obtain ⟨a, rfl⟩ := one_arg e (by simp)
  cases a <;> first | (cases e; exact ⟨_, rfl, trivial, fun _ => .bl _⟩) | cases e
theorem m_ends : MtR X "str.endswith" (rM nm X.K (miF .endswith)) := mi1 (g := fun a b => .bl (Txt.endswith a b)) (C := fun _ _ => True) (fun pins s σ H x xs v us Q I rx rs ⟨a, b, h1, h2, _, q⟩ => mt_endswith pins s σ H x xs v us Q I rx rs ⟨a, b, h1, h2, q⟩) fun ah z as c e => by
  obtain ⟨a, rfl⟩ := one_arg e (by simp)
  cases a <;> first | (cases e; exact ⟨_, rfl, trivial, fun _ => .bl _⟩) | cases e
theorem m_strip : MtR X "str.strip" (rM nm X.K (miF .stripC)) := mi1 (g := fun a b => .str (Txt.stripChars a b)) (C := fun a _ => a.length ≤ sizeLine) mt_stripChars fun ah z as c e => by
  obtain ⟨a, rfl⟩ := one_arg e (by simp)
  cases a with
  | str y =>
    have e' : (if z.length ≤ sizeLine then some (AV.str (Txt.stripChars z y)) else none) = some c := e
    split at e'
    · rename_i h; cases e'; exact ⟨y, rfl, h, fun _ => .str _⟩
    · cases e'
  | _ => cases e
theorem m_zfill : MtR X "str.zfill" (rM nm X.K (miF .zfill)) := by
  rintro pins s σ H x xs v us Q I rx rs ⟨W, ah, a, as, c, R, ra, rs', e, k⟩
  obtain ⟨z, rfl⟩ := mi_str e
  cases ra
  obtain ⟨a, rfl⟩ := one_arg e (by simp)
  obtain ⟨w, rfl, r1⟩ := rvs1 rs'
  cases a with
  | int i =>
    cases r1
    have e' : (if PadOk i = true then some (AV.str (Txt.zfill z i)) else none) = some c := e
    split at e'
    · rename_i h
      cases e'
      exact mt_zfill pins s σ H _ _ v us Q I rx rs ⟨z, i, rfl, rfl, h, k W H _ (Step.refl _ _) R (.str _)⟩
    · cases e'
  | _ => cases e
theorem m_join : MtR X "str.join" (rM nm X.K (miF .join)) := by
  rintro pins s σ H x xs v us Q I rx rs ⟨W, ah, a, as, c, R, ra, rs', e, k⟩
  obtain ⟨z, rfl⟩ := mi_str e
  cases ra
  obtain ⟨a, rfl⟩ := one_arg e (by simp)
  obtain ⟨w, rfl, r1⟩ := rvs1 rs'
  have e' : ((asL ah a).bind fun xs => (asStrs xs).bind fun ys => if (ys.map (·.length)).sum + ys.length * z.length ≤ 16777216 then some (AV.str (Txt.join z ys)) else none) = some c := by
    cases a <;> exact e
  simp only [Option.bind_eq_some_iff] at e'
  obtain ⟨xs, e1, ys, e2, e3⟩ := e'
  split at e3
  · rename_i h
    cases e3
    obtain ⟨p, vs, rfl, h1, h2⟩ := asL_of R r1 e1
    obtain rfl := asStrs_of h2 e2
    exact mt_join pins s σ H _ _ v us Q I rx rs ⟨z, p, ys, rfl, rfl, .inl (.inl h1), h, k W H _ (Step.refl _ _) R (.str _)⟩
  · cases e3
def isStr : AV → Bool | .str _ => true | _ => false
def msF (m : MI) (o : Rho → AH → Ot AV) (a : Rho → AH → Ot (List AV)) : Rho → AH → Ot AV := fun ρ ah => (o ρ ah).bind fun x ah1 => if isStr x = true then (a ρ ah1).bind fun xs ah2 => Ot.of (miF m ah2 x xs) ah2 else .st
theorem bm0_of {id : String} {name : Str} {m : MI} {o : Expr} {fo : Rho → AH → Ot AV} {apos cpos : Pos} (slot : Slot "str" name id) (hty : typeOf (.builtin id) = pure (.type "method_descriptor")) (hm : MtR X id (rM nm X.K (miF m))) (ho : EV nm X Wx o fo)
    (hb : plainBase o = true) (hl : (apos.endLine == cpos.line) = true) : EV nm X Wx (.Call (.Attribute o name apos) [] [] cpos) (msF m fo aNil) := by
  refine PE.weak (pe_bm0 PySem.F.plainAttrs_str slot hty hm ho (base_of hb) hl) fun σ H Q ⟨W, ρ, ah, rh, rs, p⟩ => ?_
  refine TrE.seqB rh rs p fun x ah1 W1 H1 w1 s1 R1 S1 v1 p1 => ?_
  split at p1
  · obtain ⟨c, e, k⟩ := Post.of (o := miF m ah1 x []) p1
    obtain ⟨z, rfl⟩ := mi_str e
    cases v1
    exact ⟨rfl, W1, ah1, .str z, [], c, R1, .str z, .nil, e, fun W' H' w s R r => k W' H' s R w r⟩
  · exact False.elim p1
theorem bm_of {id : String} {name : Str} {m : MI} {o e : Expr} {es : List Expr} {fo : Rho → AH → Ot AV} {fa : Rho → AH → Ot (List AV)} {apos cpos : Pos} (slot : Slot "str" name id) (hty : typeOf (.builtin id) = pure (.type "method_descriptor")) (hm : MtR X id (rM nm X.K (miF m))) (ho : EV nm X Wx o fo)
    (ha : EA nm X Wx (e :: es) fa) (hb : plainBase o = true) (hl : (apos.endLine == cpos.line) = true) (hs : (e :: es).all notSt = true) (hlen : (e :: es).length < 30) : EV nm X Wx (.Call (.Attribute o name apos) (e :: es) [] cpos) (msF m fo fa) := by
  have hs' := hs
  rw [List.all_cons, Bool.and_eq_true] at hs'
  refine PE.weak (pe_bm PySem.F.plainAttrs_str slot hty hm ho ha (base_of hb) ?_ hl (star_cons hs'.1) (star_plain _ _ hs'.2)) fun σ H Q ⟨W, ρ, ah, rh, rs, p⟩ => ?_
  · have h1 := star_plain cpos X.env hs
    have h2 : (backTo cpos (starEach (e :: es) X.env)).all (fun x => !x.1) = true := by
      rw [List.all_eq_true]
      intro y hy
      have := List.any_eq_false.mp h1 y hy
      simpa using this
    rw [h2]
    simp only [keywordEach, backToKw, List.map_nil, List.all_nil, Bool.and_self, Bool.true_and, List.length_nil, List.isEmpty_nil, if_true, Nat.add_zero]
    exact decide_eq_true hlen
  · refine TrE.seqB rh rs p fun x ah1 W1 H1 w1 s1 R1 S1 v1 p1 => ?_
    split at p1
    · rename_i h
      cases v1 <;> try exact absurd h Bool.false_ne_true
      refine ⟨rfl, ?_⟩
      refine TrA.seqB R1 S1 p1 fun xs ah2 W2 H2 vs s2 R2 S2 v2 p2 => ?_
      obtain ⟨c, e, k⟩ := Post.of (o := miF m ah2 _ xs) p2
      exact ⟨W2, ah2, .str _, xs, c, R2, .str _, v2, e, fun W' H' w s R r => k W' H' s R w r⟩
    · exact False.elim p1
def MI.nullary : MI → Bool | .isascii | .isprintable | .isalpha | .islower | .isdigit => true | _ => false
theorem ev_mi0 (m : MI) {o : Expr} {fo : Rho → AH → Ot AV} {apos cpos : Pos} (ho : EV nm X Wx o fo) (hn : m.nullary = true) (hb : plainBase o = true) (hl : (apos.endLine == cpos.line) = true) : EV nm X Wx (.Call (.Attribute o m.name apos) [] [] cpos) (msF m fo aNil) := by
  cases m with
  | isascii => exact bm0_of PySem.F.slot_str_isascii PySem.F.type_str_isascii m_ascii ho hb hl
  | isprintable => exact bm0_of PySem.F.slot_str_isprintable PySem.F.type_str_isprintable m_print ho hb hl
  | isalpha => exact bm0_of PySem.F.slot_str_isalpha PySem.F.type_str_isalpha m_alpha ho hb hl
  | islower => exact bm0_of PySem.F.slot_str_islower PySem.F.type_str_islower m_lower ho hb hl
  | isdigit => exact bm0_of PySem.F.slot_str_isdigit PySem.F.type_str_isdigit m_digit ho hb hl
  | _ => exact absurd hn Bool.false_ne_true
theorem ev_mi1 (m : MI) {o e : Expr} {es : List Expr} {fo : Rho → AH → Ot AV} {fa : Rho → AH → Ot (List AV)} {apos cpos : Pos} (ho : EV nm X Wx o fo) (ha : EA nm X Wx (e :: es) fa) (hn : m.nullary = false) (hb : plainBase o = true) (hl : (apos.endLine == cpos.line) = true)
    (hs : (e :: es).all notSt = true) (hlen : (e :: es).length < 30) : EV nm X Wx (.Call (.Attribute o m.name apos) (e :: es) [] cpos) (msF m fo fa) := by
  cases m with
  | join => exact bm_of PySem.F.slot_str_join PySem.F.type_str_join m_join ho ha hb hl hs hlen
  | count => exact bm_of PySem.F.slot_str_count PySem.F.type_str_count m_count ho ha hb hl hs hlen
  | startswith => exact bm_of PySem.F.slot_str_startswith PySem.F.type_str_startswith m_starts ho ha hb hl hs hlen
  | endswith => exact bm_of PySem.F.slot_str_endswith PySem.F.type_str_endswith m_ends ho ha hb hl hs hlen
  | zfill => exact bm_of PySem.F.slot_str_zfill PySem.F.type_str_zfill m_zfill ho ha hb hl hs hlen
  | stripC => exact bm_of PySem.F.slot_str_strip PySem.F.type_str_strip m_strip ho ha hb hl hs hlen
  | _ => exact absurd hn.symm Bool.false_ne_true
end
end Ko

/-! Ko, part H: statements, targets, loops. -/
namespace Ko
open PySem L2

/-- how far a statement comes -/
inductive SR where
  | nx (ρ : Rho) (ah : AH)
  | rt (v : AV) (ah : AH)
  | bk (ρ : Rho) (ah : AH)
  | ct (ρ : Rho) (ah : AH)
  | ex (x : EX) (ρ : Rho) (ah : AH)
  | st

section
variable {K : PySem.W.Frag} {nm : Nm} {Wx : WX} {W : Wd} {H : Hp}
def PoS (K : PySem.W.Frag) (nm : Nm) (Wx : WX) (W : Wd) (H : Hp) (D : Ends) : SR → Prop
  | .nx ρ ah => ∀ W' H' σ', Step W H W' H' → RelH K nm W' ah H' → RS K W' ρ σ' → D.nx σ' H'
  | .rt v ah => ∀ W' H' w, Step W H W' H' → RelH K nm W' ah H' → W'.RV K v w → D.rt w H'
  | .bk ρ ah => ∀ W' H' σ', Step W H W' H' → RelH K nm W' ah H' → RS K W' ρ σ' → D.bk σ' H'
  | .ct ρ ah => ∀ W' H' σ', Step W H W' H' → RelH K nm W' ah H' → RS K W' ρ σ' → D.ct σ' H'
  | .ex x ρ ah => ∀ W' H' σ' cls d, Step W H W' H' → RelH K nm W' ah H' → RS K W' ρ σ' → ExRep K nm W' x cls d → Wx cls d σ' H'
  | .st => False
theorem PoS.shift {r : SR} {D : Ends} {W' : Wd} {H' : Hp} (s : Step W H W' H') (p : PoS K nm Wx W H D r) : PoS K nm Wx W' H' D r := by
  cases r with
  | nx ρ ah => exact fun W2 H2 σ' s2 => p W2 H2 σ' (s.trans s2)
  | rt v ah => exact fun W2 H2 σ' s2 => p W2 H2 σ' (s.trans s2)
  | bk ρ ah => exact fun W2 H2 σ' s2 => p W2 H2 σ' (s.trans s2)
  | ct ρ ah => exact fun W2 H2 σ' s2 => p W2 H2 σ' (s.trans s2)
  | ex x ρ ah => exact fun W2 H2 σ' cls d s2 => p W2 H2 σ' cls d (s.trans s2)
  | st => exact p
def TrS (nm : Nm) (K : PySem.W.Frag) (Wx : WX) (f : Rho → AH → SR) : TS := fun D σ H => ∃ W ρ ah, RelH K nm W ah H ∧ RS K W ρ σ ∧ PoS K nm Wx W H D (f ρ ah)
/-- an expression, then k -/
def Ot.to {α : Type} (r : Ot α) (ρ : Rho) (k : α → AH → SR) : SR := match r with | .ok a ah => k a ah | .ex x ah => .ex x ρ ah | .st => .st
theorem PoS.to {α : Type} {r : Ot α} {ρ : Rho} {k : α → AH → SR} {D : Ends} {σ : St} (rs : RS K W ρ σ) (p : PoS K nm Wx W H D (r.to ρ k)) : Post K nm W H r (fun a ah1 W1 H1 => PoS K nm Wx W1 H1 D (k a ah1)) (xw K nm Wx σ) := by
  cases r with
  | ok a ah' => exact fun W' H' s R => PoS.shift s p
  | ex x ah' => exact fun W' H' s R cls d h => p W' H' σ cls d s R (rs.step s) h
  | st => exact p
def seqF (f g : Rho → AH → SR) : Rho → AH → SR := fun ρ ah => match f ρ ah with | .nx ρ1 ah1 => g ρ1 ah1 | r => r
end
section
variable (nm : Nm)
abbrev ES (X : Cx) (Wx : WX) (e : Stmt) (f : Rho → AH → SR) : Prop := PS X e (TrS nm X.K Wx f)
abbrev ESs (X : Cx) (Wx : WX) (e : List Stmt) (f : Rho → AH → SR) : Prop := PSs X e (TrS nm X.K Wx f)
end

section
variable {nm : Nm} {X : Cx} {Wx : WX} {K : PySem.W.Frag}
def nilF : Rho → AH → SR := fun ρ ah => .nx ρ ah
theorem es_nil : ESs nm X Wx [] nilF := PSs.weak pss_nil fun D σ H ⟨W, ρ, ah, rh, rs, p⟩ => p W H σ (Step.refl _ _) rh rs
theorem es_cons {s : Stmt} {r : List Stmt} {f g : Rho → AH → SR} (h1 : ES nm X Wx s f) (h2 : ESs nm X Wx r g) : ESs nm X Wx (s :: r) (seqF f g) := by
  refine PSs.weak (pss_cons h1 h2) fun D σ H ⟨W, ρ, ah, rh, rs, p⟩ => ?_
  refine ⟨W, ρ, ah, rh, rs, ?_⟩
  unfold seqF at p
  cases q : f ρ ah with
  | nx ρ1 ah1 => rw [q] at p; exact fun W' H' σ' s R S => ⟨W', ρ1, ah1, R, S, PoS.shift s p⟩
  | rt v ah1 => rw [q] at p; exact p
  | bk ρ1 ah1 => rw [q] at p; exact p
  | ct ρ1 ah1 => rw [q] at p; exact p
  | ex x ρ1 ah1 => rw [q] at p; exact p
  | st => rw [q] at p; exact p
def retF (a : Rho → AH → Ot AV) : Rho → AH → SR := fun ρ ah => (a ρ ah).to ρ fun v ah1 => .rt v ah1
theorem TrE.to {f : Rho → AH → Ot AV} {k : AV → AH → SR} {D : Ends} {σ : St} {H : Hp} {R : V → Hp → Prop} {W : Wd} {ρ : Rho} {ah : AH} (rh : RelH K nm W ah H) (rs : RS K W ρ σ) (p : PoS K nm Wx W H D ((f ρ ah).to ρ k))
    (h : ∀ a ah1 W1 H1 w, Step W H W1 H1 → RelH K nm W1 ah1 H1 → RS K W1 ρ σ → W1.RV K a w → PoS K nm Wx W1 H1 D (k a ah1) → R w H1) : TrE nm K Wx f σ H R :=
  ⟨W, ρ, ah, rh, rs, (PoS.to rs p).imp (fun a ah1 W1 H1 s R1 q w r => h a ah1 W1 H1 w s R1 (rs.step s) r q) fun _ _ _ _ _ _ q => q⟩
theorem TrT.to {f : Rho → AH → Ot Bool} {k : Bool → AH → SR} {D : Ends} {σ : St} {H : Hp} {R : Bool → Hp → Prop} {W : Wd} {ρ : Rho} {ah : AH} (rh : RelH K nm W ah H) (rs : RS K W ρ σ) (p : PoS K nm Wx W H D ((f ρ ah).to ρ k))
    (h : ∀ a ah1 W1 H1, Step W H W1 H1 → RelH K nm W1 ah1 H1 → RS K W1 ρ σ → PoS K nm Wx W1 H1 D (k a ah1) → R a H1) : TrT nm K Wx f σ H R :=
  ⟨W, ρ, ah, rh, rs, (PoS.to rs p).imp (fun a ah1 W1 H1 s R1 q => h a ah1 W1 H1 s R1 (rs.step s) q) fun _ _ _ _ _ _ q => q⟩
theorem es_ret {e : Expr} {pos : Pos} {fa : Rho → AH → Ot AV} (ha : EV nm X Wx e fa) : ES nm X Wx (.Return (some e) pos) (retF fa) := by
  refine PS.weak (ps_ret ha) fun D σ H ⟨W, ρ, ah, rh, rs, p⟩ => ?_
  exact TrE.to rh rs p fun a ah1 W1 H1 w s R1 S1 r q => q W1 H1 w (Step.refl _ _) R1 r
def retN : Rho → AH → SR := fun _ ah => .rt .non ah
theorem es_retN {pos : Pos} : ES nm X Wx (.Return none pos) retN := PS.weak ps_retN fun D σ H ⟨W, ρ, ah, rh, rs, p⟩ => p W H .non (Step.refl _ _) rh .non
theorem es_pass {pos : Pos} : ES nm X Wx (.Pass pos) nilF := PS.weak ps_pass fun D σ H ⟨W, ρ, ah, rh, rs, p⟩ => p W H σ (Step.refl _ _) rh rs
def brkF : Rho → AH → SR := fun ρ ah => .bk ρ ah
theorem es_brk {pos : Pos} : ES nm X Wx (.Break pos) brkF := PS.weak ps_break fun D σ H ⟨W, ρ, ah, rh, rs, p⟩ => p W H σ (Step.refl _ _) rh rs
def cntF : Rho → AH → SR := fun ρ ah => .ct ρ ah
theorem es_cnt {pos : Pos} : ES nm X Wx (.Continue pos) cntF := PS.weak ps_continue fun D σ H ⟨W, ρ, ah, rh, rs, p⟩ => p W H σ (Step.refl _ _) rh rs
def expF (a : Rho → AH → Ot AV) : Rho → AH → SR := fun ρ ah => (a ρ ah).to ρ fun _ ah1 => .nx ρ ah1
def notLC : Expr → Bool | .ListComp .. => false | .SetComp .. => false | .DictComp .. => false | _ => true
theorem swaps_of {e : Expr} {t : Option Expr} {l : Nat} {env : Env} (h : notLC e = true) : swapsWith e t l env = pure false := by
  cases e <;> first | rfl | exact absurd h Bool.false_ne_true
theorem es_exp {e : Expr} {pos : Pos} {fa : Rho → AH → Ot AV} (ha : EV nm X Wx e fa) (hn : notLC e = true) : ES nm X Wx (.Expr e pos) (expF fa) := by
  refine PS.weak (ps_expr ha (swaps_of hn)) fun D σ H ⟨W, ρ, ah, rh, rs, p⟩ => ?_
  exact TrE.to rh rs p fun a ah1 W1 H1 w s R1 S1 r q => q W1 H1 σ (Step.refl _ _) R1 S1
def ifS (c : Rho → AH → Ot Bool) (f g : Rho → AH → SR) : Rho → AH → SR := fun ρ ah => (c ρ ah).to ρ fun b ah1 => if b = true then f ρ ah1 else g ρ ah1
theorem es_if {c : Expr} {a b : List Stmt} {pos : Pos} {fc : Rho → AH → Ot Bool} {f g : Rho → AH → SR} (hc : ET nm X Wx c fc) (ha : ESs nm X Wx a f) (hb : ESs nm X Wx b g) : ES nm X Wx (.If c a b pos) (ifS fc f g) := by
  refine PS.weak (ps_if hc ha hb) fun D σ H ⟨W, ρ, ah, rh, rs, p⟩ => ?_
  refine TrT.to rh rs p fun x ah1 W1 H1 s R1 S1 q => ?_
  cases x with
  | true => rw [if_pos rfl] at q ⊢; exact ⟨W1, ρ, ah1, R1, S1, q⟩
  | false => rw [if_neg Bool.false_ne_true] at q ⊢; exact ⟨W1, ρ, ah1, R1, S1, q⟩

/-! ### targets: names, tuples of names -/
inductive TP where
  | nm (i : Nat)
  | tp (l : List TP)
mutual
def TP.put : TP → AV → AH → Rho → Option Rho
  | .nm i, v, _, ρ => some (ρ.set i (some v))
  | .tp l, .tup xs, ah, ρ => putL l xs ah ρ
  | .tp l, .lst xs, ah, ρ => putL l xs ah ρ
  | .tp l, .ref n, ah, ρ => match ah[n]? with | some (.lst xs) => putL l xs ah ρ | _ => none
  | .tp _, _, _, _ => none
def putL : List TP → List AV → AH → Rho → Option Rho
  | [], [], _, ρ => some ρ
  | t :: l, x :: xs, ah, ρ => (t.put x ah ρ).bind fun ρ1 => putL l xs ah ρ1
  | _, _, _, _ => none
end
mutual
def TP.slots : TP → List Nat
  | .nm i => [i]
  | .tp l => slotsL l
def slotsL : List TP → List Nat
  | [] => []
  | t :: l => t.slots ++ slotsL l
end
/-- alike but for these slots -/
def WEq (S : List Nat) (σ σ' : St) : Prop := ∀ vs : List Nat, (∀ i ∈ S, i ∈ vs) → wipe σ' vs = wipe σ vs
theorem wipe_get (σ : St) : ∀ (vs : List Nat) (i : Nat), (wipe σ vs)[i]? = if i ∈ vs then (if i < σ.length then some none else none) else σ[i]?
  | [], i => by simp [wipe]
  | v :: vs, i => by
    unfold wipe
    by_cases h : v = i
    · subst h
      by_cases hl : v < σ.length
      · rw [List.getElem?_set_self (by rw [wipe_length]; exact hl)]
        simp [hl]
      · rw [List.getElem?_eq_none (by rw [List.length_set, wipe_length]; omega)]
        simp [hl]
    · rw [List.getElem?_set_ne h, wipe_get σ vs i]
      have : i ≠ v := fun z => h z.symm
      simp [this]
theorem weq_set {σ : St} {i : Nat} {o : Option V} : WEq [i] σ (σ.set i o) := fun vs h => by
  have hi : i ∈ vs := h i (by simp)
  refine List.ext_getElem? fun j => ?_
  rw [wipe_get, wipe_get, List.length_set]
  by_cases hj : j ∈ vs
  · rw [if_pos hj, if_pos hj]
  · rw [if_neg hj, if_neg hj, List.getElem?_set_ne (fun z : i = j => hj (by rw [← z]; exact hi))]
theorem WEq.refl (S : List Nat) (σ : St) : WEq S σ σ := fun _ _ => rfl
theorem WEq.app {S T : List Nat} {σ σ1 σ2 : St} (a : WEq S σ σ1) (b : WEq T σ1 σ2) : WEq (S ++ T) σ σ2 := fun vs h =>
  (b vs fun i m => h i (List.mem_append_right _ m)).trans (a vs fun i m => h i (List.mem_append_left _ m))
def TrG (nm : Nm) (K : PySem.W.Frag) (t : TP) : TG := fun v σ H Q => ∃ W ρ ah a ρ', RelH K nm W ah H ∧ RS K W ρ σ ∧ W.RV K a v ∧ t.put a ah ρ = some ρ' ∧ ∀ σ', RS K W ρ' σ' → WEq t.slots σ σ' → Q σ' H
def TrGs (nm : Nm) (K : PySem.W.Frag) (l : List TP) : TGs := fun vs σ H Q => ∃ W ρ ah xs ρ', RelH K nm W ah H ∧ RS K W ρ σ ∧ W.RVs K xs vs ∧ putL l xs ah ρ = some ρ' ∧ ∀ σ', RS K W ρ' σ' → WEq (slotsL l) σ σ' → Q σ' H
theorem PG.weak {X : Cx} {e : Expr} {t t' : TG} (h : PG X e t) (w : ∀ v σ H Q, t' v σ H Q → t v σ H Q) : PG X e t' := ⟨fun pins s σ H v u Q I r q => h.run pins s σ H v u Q I r (w v σ H Q q)⟩
theorem PGs.weak {X : Cx} {e : List Expr} {t t' : TGs} (h : PGs X e t) (w : ∀ v σ H Q, t' v σ H Q → t v σ H Q) : PGs X e t' := ⟨fun pins s σ H v u Q I r q => h.run pins s σ H v u Q I r (w v σ H Q q)⟩
theorem PG.or {X : Cx} {e : Expr} {t t' : TG} (h : PG X e t) (h' : PG X e t') : PG X e (fun v σ H Q => t v σ H Q ∨ t' v σ H Q) :=
  ⟨fun pins s σ H v u Q I r q => q.elim (fun q => h.run pins s σ H v u Q I r q) fun q => h'.run pins s σ H v u Q I r q⟩
/-- the scope knows the name as its own -/
def isLoc (sc : Scope) (x : Str) : Bool := match sc.names.lookup x with | some .local => true | some .cell => true | _ => false
theorem loc_of {sc : Scope} {x : Str} (h : isLoc sc x = true) : L2.Loc sc x := by
  unfold isLoc at h
  unfold L2.Loc
  split at h
  · rename_i e; exact .inl e
  · rename_i e; exact .inr e
  · exact absurd h Bool.false_ne_true
theorem eg_name {i : Nat} {x : Str} {pos : Pos} (hN : X.N.Nodup) (hi : X.N[i]? = some x) (hx : L2.Loc X.env.scope x) (hf : X.fn x = true ∨ X.env.scope.names.lookup x = some .local) : PG X (.Name x pos) (TrG nm X.K (.nm i)) :=
  PG.weak (pg_name hN hi hx hf) fun v σ H Q ⟨W, ρ, ah, a, ρ', rh, rs, r, e, k⟩ => by
    cases e
    exact k _ (rs.set r i) weq_set
theorem egs_nil : PGs X [] (TrGs nm X.K []) := PGs.weak pgs_nil fun vs σ H Q ⟨W, ρ, ah, xs, ρ', rh, rs, r, e, k⟩ => by
  cases r with
  | nil => cases e; exact ⟨rfl, k σ rs (WEq.refl _ _)⟩
  | cons _ _ => cases e
theorem egs_cons {e : Expr} {es : List Expr} {t : TP} {l : List TP} (h1 : PG X e (TrG nm X.K t)) (h2 : PGs X es (TrGs nm X.K l)) (hs : notSt e = true) : PGs X (e :: es) (TrGs nm X.K (t :: l)) :=
  PGs.weak (pgs_cons h1 h2 (by cases e <;> first | rfl | exact absurd hs Bool.false_ne_true)) fun vs σ H Q ⟨W, ρ, ah, xs, ρ', rh, rs, r, e, k⟩ => by
    cases r with
    | nil => cases e
    | cons r rr =>
      simp only [putL, Option.bind_eq_some_iff] at e
      obtain ⟨ρ1, e1, e2⟩ := e
      exact ⟨_, _, rfl, W, ρ, ah, _, ρ1, rh, rs, r, e1, fun σ' S q1 => ⟨W, ρ1, ah, _, ρ', rh, S, rr, e2, fun σ2 S2 q2 => k σ2 S2 (q1.app q2)⟩⟩
theorem each_len (env : Env) : ∀ {es : List Expr}, es.all notSt = true → (assignEach es env).length = es.length ∧ (assignEach es env).findIdx? (·.1) = none
  | [], _ => ⟨rfl, rfl⟩
  | e :: es, h => by
    rw [List.all_cons, Bool.and_eq_true] at h
    have q : assignEach (e :: es) env = (false, assign e env) :: assignEach es env := by cases e <;> first | rfl | exact absurd h.1 Bool.false_ne_true
    obtain ⟨h1, h2⟩ := each_len env h.2
    rw [q, List.length_cons, List.length_cons, h1]
    refine ⟨rfl, ?_⟩
    rw [List.findIdx?_cons, if_neg (by simp), h2]; rfl
theorem putL_len : ∀ {l : List TP} {xs : List AV} {ah : AH} {ρ ρ' : Rho}, putL l xs ah ρ = some ρ' → l.length = xs.length
  | [], [], _, _, _, _ => rfl
  | t :: l, x :: xs, ah, ρ, ρ', e => by
    simp only [putL, Option.bind_eq_some_iff] at e
    obtain ⟨ρ1, _, e2⟩ := e
    rw [List.length_cons, List.length_cons, putL_len e2]
  | [], _ :: _, _, _, _, e => by simp [putL] at e
  | _ :: _, [], _, _, _, e => by simp [putL] at e
theorem eg_tup {es : List Expr} {k : Nat} {l : List TP} {pos : Pos} (hc : X.calm = true) (h : PGs X es (TrGs nm X.K l)) (hs : es.all notSt = true) (hlen : es.length = l.length) : PG X (.Tuple es k pos) (TrG nm X.K (.tp l)) := by
  obtain ⟨h1, h2⟩ := each_len X.env hs
  refine PG.weak (PG.or (pg_tup (n := es.length) hc h h1 h2) (pg_lst (n := es.length) hc h h1 h2)) fun v σ H Q ⟨W, ρ, ah, a, ρ', rh, rs, r, e, kk⟩ => ?_
  cases r with
  | tup q r =>
    have e' : putL l _ ah ρ = some ρ' := e
    exact .inl ⟨_, _, rfl, same_tup rh.fz q, by rw [r.length, hlen, putL_len e'], W, ρ, ah, _, ρ', rh, rs, r, e', kk⟩
  | lst q r =>
    have e' : putL l _ ah ρ = some ρ' := e
    exact .inr ⟨_, _, rfl, .inl (same_rd rh.fz q), by rw [r.length, hlen, putL_len e'], W, ρ, ah, _, ρ', rh, rs, r, e', kk⟩
  | ref q =>
    simp only [TP.put] at e
    split at e
    · rename_i xs qq
      obtain ⟨vs, q1, q2⟩ := rh.at q qq
      exact .inr ⟨_, _, rfl, SqL.of q1, by rw [q2.length, hlen, putL_len e], W, ρ, ah, _, ρ', rh, rs, q2, e, kk⟩
    · cases e
  | _ => cases e

/-- target = e -/
def asgF (t : TP) (a : Rho → AH → Ot AV) : Rho → AH → SR := fun ρ ah => (a ρ ah).to ρ fun v ah1 => match t.put v ah1 ρ with | some ρ1 => .nx ρ1 ah1 | none => .st
theorem es_asg {t : TP} {tg e : Expr} {pos : Pos} {fa : Rho → AH → Ot AV} (ha : EV nm X Wx e fa) (hg : PG X tg (TrG nm X.K t)) (hn : notLC e = true) (hst : notSt tg = true) (hw : swappedStores [tg] e X.env = pure none) : ES nm X Wx (.Assign [tg] e pos) (asgF t fa) := by
  refine PS.weak (ps_asg ha hg (swaps_of hn) hw (by cases tg <;> first | rfl | exact absurd hst Bool.false_ne_true)) fun D σ H ⟨W, ρ, ah, rh, rs, p⟩ => ?_
  refine TrE.to rh rs p fun v ah1 W1 H1 w s R1 S1 r q => ?_
  split at q
  · rename_i ρ1 e
    exact ⟨W1, ρ, ah1, v, ρ1, R1, S1, r, e, fun σ' S _ => q W1 H1 σ' (Step.refl _ _) R1 S⟩
  · exact False.elim q

/-! ### loops -/
def Le (W W' : Wd) : Prop := W.io <+: W'.io ∧ Same W.fz W'.fz
theorem Step.le {W W' : Wd} {H H' : Hp} (s : Step W H W' H') : Le W W' := ⟨s.io, s.fz⟩
theorem Le.trans {W W1 W2 : Wd} (a : Le W W1) (b : Le W1 W2) : Le W W2 := ⟨a.1.trans b.1, a.2.trans b.2⟩
theorem RV.le {W W' : Wd} {x : AV} {v : V} (l : Le W W') (r : W.RV K x v) : W'.RV K x v := r.mono l.2 l.1
theorem RVs.le {W W' : Wd} {x : List AV} {v : List V} (l : Le W W') (r : W.RVs K x v) : W'.RVs K x v := r.mono l.2 l.1
/-- what is walked: the items, and when they still stand -/
structure Sr where
  xs : List AV
  g : AH → Bool
structure Gives (K : PySem.W.Frag) (nm : Nm) (J : It) (sr : Sr) (W0 : Wd) : Prop where
  go : ∀ i W ah H x, Le W0 W → RelH K nm W ah H → sr.g ah = true → sr.xs[i]? = some x → J.go i H ∧ ∀ v H', J.yld i H v H' → ∃ W', Step W H W' H' ∧ RelH K nm W' ah H' ∧ W'.RV K x v
  stop : ∀ i W ah H, Le W0 W → RelH K nm W ah H → sr.g ah = true → sr.xs[i]? = none → J.stop i H
def TrI (nm : Nm) (K : PySem.W.Frag) (Wx : WX) (f : Rho → AH → Ot Sr) : TI := fun σ H R => ∃ W ρ ah, RelH K nm W ah H ∧ RS K W ρ σ ∧ Post K nm W H (f ρ ah) (fun sr _ W' H' => ∀ J, Gives K nm J sr W' → R J H') (xw K nm Wx σ)
abbrev EI (nm : Nm) (X : Cx) (Wx : WX) (tg e : Expr) (f : Rho → AH → Ot Sr) : Prop := PI X tg e (TrI nm X.K Wx f)
def forV (g : AH → Bool) (t : TP) (body : Rho → AH → SR) : List AV → Rho → AH → SR
  | [], ρ, ah => if g ah = true then .nx ρ ah else .st
  | x :: xs, ρ, ah => if g ah = true then
      match t.put x ah ρ with
      | some ρ1 => match body ρ1 ah with
        | .nx ρ2 ah2 => forV g t body xs ρ2 ah2
        | .ct ρ2 ah2 => forV g t body xs ρ2 ah2
        | .bk ρ2 ah2 => .nx ρ2 ah2
        | r => r
      | none => .st
    else .st
def forF (t : TP) (src : Rho → AH → Ot Sr) (body : Rho → AH → SR) : Rho → AH → SR := fun ρ ah => (src ρ ah).to ρ fun sr ah1 => forV sr.g t body sr.xs ρ ah1
theorem es_for {tg iter : Expr} {body : List Stmt} {pos : Pos} {t : TP} {src : Rho → AH → Ot Sr} {fb : Rho → AH → SR} (hp : PassesOwn (model X.prog X.w) X.A X.env X.xe) (hc : X.calm = true) (hi : EI nm X Wx tg iter src) (hg : PG X tg (TrG nm X.K t)) (hb : ESs nm X Wx body fb)
    (hs : ∀ x, foldedSetIterable iter X.env x = pure x) : ES nm X Wx (.For tg iter body [] pos) (forF t src fb) := by
  refine PS.weak (ps_for hp hc hi hg hb hs) fun D σ H ⟨W, ρ, ah, rh, rs, p⟩ => ?_
  refine ⟨W, ρ, ah, rh, rs, (PoS.to rs p).imp (fun sr ah1 W1 H1 s1 R1 q J G => ?_) fun _ _ _ _ _ _ q => q⟩
  refine ⟨fun i m σ H => m = sr.xs.length - i ∧ i ≤ sr.xs.length ∧ ∃ Wd ρ ah, Le W1 Wd ∧ RelH X.K nm Wd ah H ∧ RS X.K Wd ρ σ ∧ PoS X.K nm Wx Wd H D (forV sr.g t fb (sr.xs.drop i) ρ ah), ⟨sr.xs.length, by simp, Nat.zero_le _, W1, ρ, ah1, ⟨List.prefix_refl _, Same.refl _⟩, R1, rs.step s1, by rw [List.drop_zero]; exact q⟩, ?_⟩
  rintro i m σ2 H2 ⟨rfl, hi', W2, ρ2, ah2, l2, R2, S2, q2⟩
  cases hx : sr.xs[i]? with
  | none =>
    have hge := List.getElem?_eq_none_iff.mp hx
    rw [List.drop_eq_nil_of_le hge] at q2
    unfold forV at q2
    split at q2
    · rename_i hgd
      exact .inl ⟨G.stop i W2 ah2 H2 l2 R2 hgd hx, q2 W2 H2 σ2 (Step.refl _ _) R2 S2⟩
    · exact False.elim q2
  | some x =>
    have hlt := (List.getElem?_eq_some_iff.mp hx).1
    have hdrop : sr.xs.drop i = x :: sr.xs.drop (i + 1) := by
      rw [List.drop_eq_getElem_cons hlt]
      congr 1
      exact (List.getElem?_eq_some_iff.mp hx).2
    rw [hdrop] at q2
    unfold forV at q2
    split at q2
    · rename_i hgd
      obtain ⟨g1, g2⟩ := G.go i W2 ah2 H2 x l2 R2 hgd hx
      refine .inr ⟨g1, fun σ' H' => ∃ Wd ρ ah, Le W1 Wd ∧ RelH X.K nm Wd ah H' ∧ RS X.K Wd ρ σ' ∧ PoS X.K nm Wx Wd H' D (forV sr.g t fb (sr.xs.drop (i + 1)) ρ ah), fun σ' H' z => ⟨sr.xs.length - (i + 1), by omega, rfl, hlt, z⟩, fun v H' y => ?_⟩
      obtain ⟨W3, s3, R3, r3⟩ := g2 v H' y
      split at q2
      · rename_i ρ3 e3
        refine ⟨W3, ρ2, ah2, x, ρ3, R3, S2.step s3, r3, e3, fun σ3 S3 _ => ?_⟩
        refine ⟨W3, ρ3, ah2, R3, S3, ?_⟩
        have q3 := PoS.shift s3 q2
        cases hb2 : fb ρ3 ah2 with
        | nx ρ4 ah4 => rw [hb2] at q3; exact fun W5 H5 σ5 s5 R5 S5 => ⟨W5, ρ4, ah4, (l2.trans s3.le).trans s5.le, R5, S5, PoS.shift s5 q3⟩
        | ct ρ4 ah4 => rw [hb2] at q3; exact fun W5 H5 σ5 s5 R5 S5 => ⟨W5, ρ4, ah4, (l2.trans s3.le).trans s5.le, R5, S5, PoS.shift s5 q3⟩
        | bk ρ4 ah4 => rw [hb2] at q3; exact q3
        | rt v4 ah4 => rw [hb2] at q3; exact q3
        | ex x4 ρ4 ah4 => rw [hb2] at q3; exact q3
        | st => rw [hb2] at q3; exact q3
      · exact False.elim q2
    · exact False.elim q2
/-! while -/
def whV (c : Rho → AH → Ot Bool) (body : Rho → AH → SR) : Nat → Rho → AH → SR
  | 0, _, _ => .st
  | n + 1, ρ, ah => (c ρ ah).to ρ fun b ah1 => if b = true then
      match body ρ ah1 with
      | .nx ρ2 ah2 => whV c body n ρ2 ah2
      | .ct ρ2 ah2 => whV c body n ρ2 ah2
      | .bk ρ2 ah2 => .nx ρ2 ah2
      | r => r
    else .nx ρ ah1
theorem es_while {c : Expr} {body : List Stmt} {pos : Pos} {fc : Rho → AH → Ot Bool} {fb : Rho → AH → SR} {n : Nat} (hp : PassesOwn (model X.prog X.w) X.A X.env X.xe) (hc : ET nm X Wx c fc) (hb : ESs nm X Wx body fb) : ES nm X Wx (.While c body [] pos) (whV fc fb n) := by
  refine PS.weak (ps_while hp hc hb) fun D σ H ⟨W, ρ, ah, rh, rs, p⟩ => ?_
  refine ⟨fun m σ H => ∃ Wd ρ ah, RelH X.K nm Wd ah H ∧ RS X.K Wd ρ σ ∧ PoS X.K nm Wx Wd H D (whV fc fb m ρ ah), ⟨n, W, ρ, ah, rh, rs, p⟩, ?_⟩
  rintro m σ1 H1 ⟨W1, ρ1, ah1, R1, S1, q1⟩
  cases m with
  | zero => exact False.elim q1
  | succ m =>
    refine TrT.to R1 S1 q1 fun b ah2 W2 H2 s2 R2 S2 q2 => ?_
    cases b with
    | false => rw [if_neg Bool.false_ne_true] at q2 ⊢; exact q2 W2 H2 σ1 (Step.refl _ _) R2 S2
    | true =>
      rw [if_pos rfl] at q2 ⊢
      refine ⟨fun σ' H' => ∃ Wd ρ ah, RelH X.K nm Wd ah H' ∧ RS X.K Wd ρ σ' ∧ PoS X.K nm Wx Wd H' D (whV fc fb m ρ ah), fun σ' H' z => ⟨m, Nat.lt_succ_self _, z⟩, W2, ρ1, ah2, R2, S2, ?_⟩
      cases hb2 : fb ρ1 ah2 with
      | nx ρ4 ah4 => rw [hb2] at q2; exact fun W5 H5 σ5 s5 R5 S5 => ⟨W5, ρ4, ah4, R5, S5, PoS.shift s5 q2⟩
      | ct ρ4 ah4 => rw [hb2] at q2; exact fun W5 H5 σ5 s5 R5 S5 => ⟨W5, ρ4, ah4, R5, S5, PoS.shift s5 q2⟩
      | bk ρ4 ah4 => rw [hb2] at q2; exact q2
      | rt v4 ah4 => rw [hb2] at q2; exact q2
      | ex x4 ρ4 ah4 => rw [hb2] at q2; exact q2
      | st => rw [hb2] at q2; exact q2
end
end Ko

/-! Ko, part I: what is walked; comprehensions. -/
namespace Ko
open PySem L2

/-! ### equality of abstract values, decided -/
mutual
def AV.bq : AV → AV → Bool
  | .non, .non => true
  | .bl a, .bl b => a == b
  | .int a, .int b => decide (a = b)
  | .str a, .str b => decide (a = b)
  | .tup a, .tup b => bqL a b
  | .lst a, .lst b => bqL a b
  | .dct a, .dct b => bqK a b
  | .ref a, .ref b => decide (a = b)
  | _, _ => false
def bqL : List AV → List AV → Bool
  | [], [] => true
  | x :: xs, y :: ys => x.bq y && bqL xs ys
  | _, _ => false
def bqK : List (Key × AV) → List (Key × AV) → Bool
  | [], [] => true
  | (k, x) :: xs, (l, y) :: ys => decide (k = l) && (x.bq y && bqK xs ys)
  | _, _ => false
end
mutual
theorem AV.bq_eq : ∀ {a b : AV}, a.bq b = true → a = b
  | .non, b, h => by cases b <;> first | rfl | (simp [AV.bq] at h)
  | .bl a, b, h => by cases b <;> simp [AV.bq] at h <;> rw [h]
  | .int a, b, h => by cases b <;> simp [AV.bq] at h <;> rw [h]
  | .str a, b, h => by cases b <;> simp [AV.bq] at h <;> rw [h]
  | .ref a, b, h => by cases b <;> simp [AV.bq] at h <;> rw [h]
  | .tup a, b, h => by cases b <;> simp [AV.bq] at h; rw [bqL_eq h]
  | .lst a, b, h => by cases b <;> simp [AV.bq] at h; rw [bqL_eq h]
  | .dct a, b, h => by cases b <;> simp [AV.bq] at h; rw [bqK_eq h]
theorem bqL_eq : ∀ {a b : List AV}, bqL a b = true → a = b
  | [], [], _ => rfl
  | [], _ :: _, h => by simp [bqL] at h
  | _ :: _, [], h => by simp [bqL] at h
  | x :: xs, y :: ys, h => by
    simp only [bqL, Bool.and_eq_true] at h
    rw [AV.bq_eq h.1, bqL_eq h.2]
theorem bqK_eq : ∀ {a b : List (Key × AV)}, bqK a b = true → a = b
  | [], [], _ => rfl
  | [], _ :: _, h => by simp [bqK] at h
  | _ :: _, [], h => by simp [bqK] at h
  | (k, x) :: xs, (l, y) :: ys, h => by
    simp only [bqK, Bool.and_eq_true, decide_eq_true_eq] at h
    obtain ⟨h1, h2, h3⟩ := h
    rw [h1, AV.bq_eq h2, bqK_eq h3]
end
mutual
theorem AV.bq_refl : ∀ a : AV, a.bq a = true
  | .non => rfl
  | .bl a => by simp [AV.bq]
  | .int a => by simp [AV.bq]
  | .str a => by simp [AV.bq]
  | .ref a => by simp [AV.bq]
  | .tup a => by simp [AV.bq, bqL_refl a]
  | .lst a => by simp [AV.bq, bqL_refl a]
  | .dct a => by simp [AV.bq, bqK_refl a]
theorem bqL_refl : ∀ a : List AV, bqL a a = true
  | [] => rfl
  | x :: xs => by simp [bqL, AV.bq_refl x, bqL_refl xs]
theorem bqK_refl : ∀ a : List (Key × AV), bqK a a = true
  | [] => rfl
  | (k, x) :: xs => by simp [bqK, AV.bq_refl x, bqK_refl xs]
end
def lstAt (n : Nat) (xs : List AV) (ah : AH) : Bool := match ah[n]? with | some (.lst ys) => bqL ys xs | _ => false
theorem lstAt_eq {n : Nat} {xs : List AV} {ah : AH} (h : lstAt n xs ah = true) : ah[n]? = some (.lst xs) := by
  unfold lstAt at h
  split at h
  · rename_i ys e
    rw [e, bqL_eq h]
  · exact absurd h Bool.false_ne_true
theorem lstAt_of {n : Nat} {xs : List AV} {ah : AH} (h : ah[n]? = some (.lst xs)) : lstAt n xs ah = true := by
  unfold lstAt; rw [h]; exact bqL_refl xs

/-! ### sources -/
def always : AH → Bool := fun _ => true
def seqSrc (ah : AH) : AV → Option Sr
  | .lst xs => some ⟨xs, always⟩
  | .tup xs => some ⟨xs, always⟩
  | .str z => some ⟨z.cps.toList.map fun c => .str ⟨#[c]⟩, always⟩
  | .ref n => match ah[n]? with | some (.lst xs) => some ⟨xs, lstAt n xs⟩ | _ => none
  | _ => none
def srcF (a : Rho → AH → Ot AV) : Rho → AH → Ot Sr := fun ρ ah => (a ρ ah).bind fun x ah1 => Ot.of (seqSrc ah1 x) ah1

section
variable {nm : Nm} {X : Cx} {Wx : WX} {K : PySem.W.Frag}
theorem PI.weak {X : Cx} {tg e : Expr} {t t' : TI} (h : PI X tg e t) (w : ∀ σ H Q, t' σ H Q → t σ H Q) : PI X tg e t' := ⟨fun pins s σ H Q I q => h.run pins s σ H Q I (w σ H Q q)⟩
theorem PI.or {X : Cx} {tg e : Expr} {t t' : TI} (h : PI X tg e t) (h' : PI X tg e t') : PI X tg e (fun σ H Q => t σ H Q ∨ t' σ H Q) :=
  ⟨fun pins s σ H R I q => q.elim (fun q => h.run pins s σ H R I q) fun q => h'.run pins s σ H R I q⟩
theorem gives_list {W0 : Wd} {a : Addr} {xs : List AV} {vs : List V} (h : Rd W0.fz a (.lst vs)) (r : W0.RVs K xs vs) : Gives K nm (Itl K a) ⟨xs, always⟩ W0 where
  go := fun i W ah H x l R _ e => by
    have hs : SqL K H a vs := .inl (same_rd R.fz (same_rd l.2 h))
    obtain ⟨v, h1, h2⟩ := (r.le l).get e
    exact ⟨⟨vs, v, hs, h1⟩, fun v' H' ⟨e1, e2⟩ => by
      subst e1
      have := e2 vs hs
      rw [h1] at this
      cases this
      exact ⟨W, Step.refl _ _, R, h2⟩⟩
  stop := fun i W ah H l R _ e => ⟨vs, .inl (same_rd R.fz (same_rd l.2 h)), by rw [r.length]; exact List.getElem?_eq_none_iff.mp e⟩
theorem gives_tup {W0 : Wd} {a : Addr} {xs : List AV} {vs : List V} (h : SqT K W0.fz a vs) (r : W0.RVs K xs vs) : Gives K nm (Itt K a) ⟨xs, always⟩ W0 where
  go := fun i W ah H x l R _ e => by
    have hs : SqT K H a vs := same_tup R.fz (same_tup l.2 h)
    obtain ⟨v, h1, h2⟩ := (r.le l).get e
    exact ⟨⟨vs, v, hs, h1⟩, fun v' H' ⟨e1, e2⟩ => by
      subst e1
      have := e2 vs hs
      rw [h1] at this
      cases this
      exact ⟨W, Step.refl _ _, R, h2⟩⟩
  stop := fun i W ah H l R _ e => ⟨vs, same_tup R.fz (same_tup l.2 h), by rw [r.length]; exact List.getElem?_eq_none_iff.mp e⟩
theorem gives_ref {W0 : Wd} {n : Nat} {a : Addr} {xs : List AV} (h : W0.io[n]? = some a) : Gives K nm (Itl K a) ⟨xs, lstAt n xs⟩ W0 where
  go := fun i W ah H x l R g e => by
    have hi : W.io[n]? = some a := by
      obtain ⟨t, et⟩ := l.1
      rw [← et, List.getElem?_append_left (List.getElem?_eq_some_iff.mp h).1]; exact h
    obtain ⟨vs, h1, r⟩ := R.at hi (lstAt_eq g)
    obtain ⟨v, h2, h3⟩ := r.get e
    exact ⟨⟨vs, v, SqL.of h1, h2⟩, fun v' H' ⟨e1, e2⟩ => by
      subst e1
      have := e2 vs (SqL.of h1)
      rw [h2] at this
      cases this
      exact ⟨W, Step.refl _ _, R, h3⟩⟩
  stop := fun i W ah H l R g e => by
    have hi : W.io[n]? = some a := by
      obtain ⟨t, et⟩ := l.1
      rw [← et, List.getElem?_append_left (List.getElem?_eq_some_iff.mp h).1]; exact h
    obtain ⟨vs, h1, r⟩ := R.at hi (lstAt_eq g)
    exact ⟨vs, SqL.of h1, by rw [r.length]; exact List.getElem?_eq_none_iff.mp e⟩
theorem gives_str {W0 : Wd} {z : Str} : Gives K nm (Its z) ⟨z.cps.toList.map fun c => .str ⟨#[c]⟩, always⟩ W0 where
  go := fun i W ah H x l R _ e => by
    simp only [List.getElem?_map, Option.map_eq_some_iff, Array.getElem?_toList] at e
    obtain ⟨c, e1, rfl⟩ := e
    have hlt : i < z.cps.size := (Array.getElem?_eq_some_iff.mp e1).1
    exact ⟨hlt, fun v' H' ⟨e2, c', e3, e4⟩ => by
      subst e2 e4
      rw [e1] at e3
      cases e3
      exact ⟨W, Step.refl _ _, R, .str _⟩⟩
  stop := fun i W ah H l R _ e => by
    simp only [List.getElem?_map, Option.map_eq_none_iff, Array.getElem?_toList] at e
    exact Array.getElem?_eq_none_iff.mp e
theorem TrE.seqI {f : Rho → AH → Ot AV} {g : AV → AH → Ot Sr} {σ : St} {H : Hp} {R : V → Hp → Prop} {W : Wd} {ρ : Rho} {ah : AH} {k : Sr → AH → Wd → Hp → Prop} (rh : RelH K nm W ah H) (rs : RS K W ρ σ)
    (p : Post K nm W H ((f ρ ah).bind g) k (xw K nm Wx σ))
    (h : ∀ a ah1 W1 H1 w, f ρ ah = .ok a ah1 → Step W H W1 H1 → RelH K nm W1 ah1 H1 → W1.RV K a w → Post K nm W1 H1 (g a ah1) k (xw K nm Wx σ) → R w H1) : TrE nm K Wx f σ H R := by
  refine ⟨W, ρ, ah, rh, rs, ?_⟩
  have q := p.bind
  cases e : f ρ ah with
  | ok a ah1 => rw [e] at q; exact fun W' H' s R' w r => h a ah1 W' H' w e s R' r (q W' H' s R')
  | ex x ah1 => rw [e] at q; exact q
  | st => rw [e] at q; exact q
theorem ei_seq {tg iter : Expr} {fa : Rho → AH → Ot AV} (ha : EV nm X Wx iter fa) : EI nm X Wx tg iter (srcF fa) := by
  refine PI.weak (PI.or (pi_list ha) (PI.or (pi_tup ha) (pi_str ha))) fun σ H Q ⟨W, ρ, ah, rh, rs, p⟩ => ?_
  cases e : fa ρ ah with
  | st => simp only [srcF, e] at p; exact False.elim p
  | ex x ah1 =>
    refine .inl (TrE.seqI rh rs p fun a ah2 W1 H1 w e2 s R1 r q => ?_)
    rw [e] at e2; cases e2
  | ok a ah1 =>
    have kind : (∃ xs, a = .tup xs) ∨ (∃ z, a = .str z) ∨ ((∀ xs, a ≠ .tup xs) ∧ ∀ z, a ≠ .str z) := by
      cases a <;> simp
    rcases kind with ⟨xs, rfl⟩ | ⟨z, rfl⟩ | ⟨n1, n2⟩
    · refine .inr (.inl (TrE.seqI rh rs p fun a ah2 W1 H1 w e2 s R1 r q => ?_))
      rw [e] at e2; cases e2
      cases r with
      | tup h r => exact ⟨_, rfl, ⟨_, same_tup R1.fz h⟩, q W1 H1 (Step.refl _ _) R1 _ (gives_tup h r)⟩
    · refine .inr (.inr (TrE.seqI rh rs p fun a ah2 W1 H1 w e2 s R1 r q => ?_))
      rw [e] at e2; cases e2
      cases r
      exact ⟨_, rfl, q W1 H1 (Step.refl _ _) R1 _ gives_str⟩
    · refine .inl (TrE.seqI rh rs p fun a ah2 W1 H1 w e2 s R1 r q => ?_)
      rw [e] at e2; cases e2
      cases r with
      | lst h r => exact ⟨_, rfl, ⟨_, .inl (same_rd R1.fz h)⟩, q W1 H1 (Step.refl _ _) R1 _ (gives_list h r)⟩
      | tup h r => exact absurd rfl (n1 _)
      | str z => exact absurd rfl (n2 _)
      | @ref n0 a0 h =>
        cases hn : ah1[n0]? with
        | none => simp only [seqSrc, hn] at q; exact False.elim q
        | some o =>
          cases o with
          | lst xs =>
            simp only [seqSrc, hn] at q
            obtain ⟨vs, h1, h2⟩ := R1.at h hn
            exact ⟨_, rfl, ⟨vs, SqL.of h1⟩, q W1 H1 (Step.refl _ _) R1 _ (gives_ref h)⟩
          | dct kvs => simp only [seqSrc, hn] at q; exact False.elim q
          | ins c fs => simp only [seqSrc, hn] at q; exact False.elim q
      | _ => exact False.elim q
/-! range -/
def rngL (lo : Int) (n : Nat) : List AV := (List.range n).map fun (i : Nat) => .int (lo + i)
def rngSrc1 : AV → Option Sr
  | .int j => if -(2 ^ 62) ≤ j ∧ j < 2 ^ 62 then some ⟨rngL 0 j.toNat, always⟩ else none
  | _ => none
def rngSrc2 : AV → AV → Option Sr
  | .int i, .int j => if (-(2 ^ 62) ≤ i ∧ i < 2 ^ 62) ∧ -(2 ^ 62) ≤ j ∧ j < 2 ^ 62 then some ⟨rngL i (j - i).toNat, always⟩ else none
  | _, _ => none
def rngF1 (a : Rho → AH → Ot AV) : Rho → AH → Ot Sr := fun ρ ah => (a ρ ah).bind fun x ah1 => Ot.of (rngSrc1 x) ah1
def rngF2 (a b : Rho → AH → Ot AV) : Rho → AH → Ot Sr := fun ρ ah => (a ρ ah).bind fun x ah1 => (b ρ ah1).bind fun y ah2 => Ot.of (rngSrc2 x y) ah2
theorem rngL_get {lo : Int} {n i : Nat} (h : i < n) : (rngL lo n)[i]? = some (.int (lo + i)) := by
  unfold rngL
  rw [List.getElem?_map, List.getElem?_range h]; rfl
theorem rngL_length {lo : Int} {n : Nat} : (rngL lo n).length = n := by
  unfold rngL
  rw [List.length_map, List.length_range]
theorem gives_rng {W0 : Wd} {lo : Int} {n : Nat} : Gives K nm (Itr lo n) ⟨rngL lo n, always⟩ W0 where
  go := fun i W ah H x l R _ e => by
    have hj : i < n := by
      have := (List.getElem?_eq_some_iff.mp e).1
      rw [rngL_length] at this
      exact this
    rw [show (Sr.xs ⟨rngL lo n, always⟩) = rngL lo n from rfl, rngL_get hj] at e
    cases e
    exact ⟨hj, fun v' H' ⟨e2, e3⟩ => by
      subst e2 e3
      exact ⟨W, Step.refl _ _, R, .int _⟩⟩
  stop := fun i W ah H l R _ e => by
    have := List.getElem?_eq_none_iff.mp e
    rw [show (Sr.xs ⟨rngL lo n, always⟩) = rngL lo n from rfl, rngL_length] at this
    exact this
theorem ei_rng1 {tg a : Expr} {fa : Rho → AH → Ot AV} {p pos : Pos} (hg : Gl X "range") (hm : X.mg "range" = none) (ha : EV nm X Wx a fa) (hs : notSt a = true) : EI nm X Wx tg (.Call (.Name "range" p) [a] [] pos) (rngF1 fa) := by
  refine PI.weak (pi_range1 hg hm (pa_cons ha pa_nil (star_cons hs)) (star_cons hs)) fun σ H Q ⟨W, ρ, ah, rh, rs, p⟩ => ?_
  refine TrE.seqI rh rs p fun x ah1 W1 H1 w _ s1 R1 v1 p1 => ?_
  obtain ⟨sr, e, k⟩ := p1.ofB
  unfold rngSrc1 at e
  split at e
  · split at e
    · rename_i h
      cases e
      cases v1
      exact ⟨_, rfl, h.1, h.2, k W1 H1 (Step.refl _ _) R1 _ gives_rng⟩
    · cases e
  · cases e
theorem ei_rng2 {tg a b : Expr} {fa fb : Rho → AH → Ot AV} {p pos : Pos} (hg : Gl X "range") (hm : X.mg "range" = none) (ha : EV nm X Wx a fa) (hb : EV nm X Wx b fb) (hs : notSt a = true) (hs2 : notSt b = true) :
    EI nm X Wx tg (.Call (.Name "range" p) [a, b] [] pos) (rngF2 fa fb) := by
  refine PI.weak (pi_range2 hg hm (pa_cons ha (pa_cons hb pa_nil (star_cons hs2)) (star_cons hs)) (by rw [star_cons hs, star_cons hs2]; rfl) (star_cons hs2)) fun σ H Q ⟨W, ρ, ah, rh, rs, p⟩ => ?_
  refine TrE.seqI rh rs p fun x ah1 W1 H1 w _ s1 R1 v1 p1 => TrE.seqI R1 (rs.step s1) p1 fun y ah2 W2 H2 w2 _ s2 R2 v2 p2 => ?_
  obtain ⟨sr, e, k⟩ := p2.ofB
  unfold rngSrc2 at e
  split at e
  · split at e
    · rename_i h
      cases e
      cases v1
      cases v2
      exact ⟨_, _, rfl, ⟨h.1.1, h.1.2, h.2.1, h.2.2⟩, k W2 H2 (Step.refl _ _) R2 _ gives_rng⟩
    · cases e
  · cases e
/-! enumerate of a list -/
def enumL (xs : List AV) : List AV := xs.zipIdx.map fun p => .tup [.int (p.2 : Nat), p.1]
def enumSrc (ah : AH) : AV → Option Sr
  | .lst xs => some ⟨enumL xs, always⟩
  | .ref n => match ah[n]? with | some (.lst xs) => some ⟨enumL xs, lstAt n xs⟩ | _ => none
  | _ => none
def enumF (a : Rho → AH → Ot AV) : Rho → AH → Ot Sr := fun ρ ah => (a ρ ah).bind fun x ah1 => Ot.of (enumSrc ah1 x) ah1
theorem enum_get {xs : List AV} {i : Nat} {x : AV} (h : (enumL xs)[i]? = some x) : ∃ y, xs[i]? = some y ∧ x = .tup [.int (i : Nat), y] := by
  unfold enumL at h
  simp only [List.getElem?_map, Option.map_eq_some_iff, List.getElem?_zipIdx, Nat.zero_add] at h
  obtain ⟨p, ⟨y, h1, rfl⟩, rfl⟩ := h
  exact ⟨y, h1, rfl⟩
theorem enum_none {xs : List AV} {i : Nat} (h : (enumL xs)[i]? = none) : xs[i]? = none := by
  unfold enumL at h
  simpa using h
theorem enum_go {a : Addr} {vs : List V} {xs : List AV} {W : Wd} {ah : AH} {H : Hp} {i : Nat} {x : AV} (R : RelH K nm W ah H) (hs : SqL K H a vs) (r : W.RVs K xs vs) (e : (enumL xs)[i]? = some x) :
    (Ite K a).go i H ∧ ∀ v H', (Ite K a).yld i H v H' → ∃ W', Step W H W' H' ∧ RelH K nm W' ah H' ∧ W'.RV K x v := by
  obtain ⟨y, e1, rfl⟩ := enum_get e
  obtain ⟨v, h1, h2⟩ := r.get e1
  refine ⟨⟨vs, v, hs, h1⟩, fun v' H' ⟨T, z, e1, hT, e2, e3⟩ => ?_⟩
  subst e1 e2
  have := e3 vs hs
  rw [h1] at this
  cases this
  have st := Step.keep (o := .tup [.int (i : Nat), v]) R hT
  exact ⟨_, st, R.keep hT, .tup (SqT.of upd_same) (.cons (.int _) (.cons (h2.step st) .nil))⟩
theorem ei_enum {elts : List Expr} {kk : Nat} {tpos p pos : Pos} {e : Expr} {fa : Rho → AH → Ot AV} (hg : Gl X "enumerate") (hm : X.mg "enumerate" = none) (ha : EV nm X Wx e fa) (hs : notSt e = true) :
    EI nm X Wx (.Tuple elts kk tpos) (.Call (.Name "enumerate" p) [e] [] pos) (enumF fa) := by
  refine PI.weak (pi_enum hg hm (pa_cons ha pa_nil (star_cons hs)) (star_cons hs)) fun σ H Q ⟨W, ρ, ah, rh, rs, p⟩ => ?_
  refine TrE.seqI rh rs p fun x ah1 W1 H1 w _ s1 R1 v1 p1 => ?_
  obtain ⟨sr, e, k⟩ := p1.ofB
  cases v1 with
  | lst h r =>
    cases e
    refine ⟨_, _, rfl, .inl (same_rd R1.fz h), k W1 H1 (Step.refl _ _) R1 _ ⟨fun i W ah H x l R _ e => ?_, fun i W ah H l R _ e => ?_⟩⟩
    · exact enum_go R (.inl (same_rd R.fz (same_rd l.2 h))) (r.le l) e
    · exact ⟨_, .inl (same_rd R.fz (same_rd l.2 h)), by rw [r.length]; exact List.getElem?_eq_none_iff.mp (enum_none e)⟩
  | @ref n a h =>
    simp only [enumSrc] at e
    split at e
    · rename_i xs q
      cases e
      obtain ⟨vs, h1, h2⟩ := R1.at h q
      have atn : ∀ {W : Wd}, Le W1 W → W.io[n]? = some a := fun {W} l => by
        obtain ⟨t, et⟩ := l.1
        rw [← et, List.getElem?_append_left (List.getElem?_eq_some_iff.mp h).1]; exact h
      refine ⟨_, _, rfl, SqL.of h1, k W1 H1 (Step.refl _ _) R1 _ ⟨fun i W ah H x l R g e => ?_, fun i W ah H l R g e => ?_⟩⟩
      · obtain ⟨vs', q1, q2⟩ := R.at (atn l) (lstAt_eq g)
        exact enum_go R (SqL.of q1) q2 e
      · obtain ⟨vs', q1, q2⟩ := R.at (atn l) (lstAt_eq g)
        exact ⟨_, SqL.of q1, by rw [q2.length]; exact List.getElem?_eq_none_iff.mp (enum_none e)⟩
    · cases e
  | _ => cases e
end
end Ko

/-! Ko, part J: list comprehensions. -/
namespace Ko
open PySem L2
section
variable {K : PySem.W.Frag} {nm : Nm} {W W1 : Wd} {ah : AH} {H H1 : Hp} {D : Addr} {o : HO}
/-- a thing of one's own at D, that no world tells of -/
theorem RelH.priv (R : RelH K nm W ah H) (n1 : D ∉ W.io) (n2 : W.fz D = none) : RelH K nm W ah (upd H D o) := by
  refine ⟨fun b x q => ?_, R.len, R.nd, R.sep, fun i a x e1 e2 => ?_⟩
  · rw [upd_ne (fun z => by rw [z, n2] at q; cases q)]
    exact R.fz b x q
  · exact (R.obj i a x e1 e2).mono (Same.refl _) (List.prefix_refl _) (upd_ne fun z : a = D => n1 (by rw [← z]; exact List.mem_of_getElem? e1))
theorem Step.priv (s : Step W1 H1 W H) (hD : H1 D = none) : Step W1 H1 W (upd H D o) := by
  refine ⟨s.io, s.fz, fun b u e n => ?_, s.nio, s.nfz, fun b q => ?_⟩
  · rw [upd_ne (ne_of_none e hD)]; exact s.fr b u e n
  · by_cases hb : b = D
    · rw [hb]; exact hD
    · rw [upd_ne hb] at q; exact s.dom b q
theorem RelH.freeze (R : RelH K nm W ah H) (h : H D = some o) (n1 : D ∉ W.io) (n2 : W.fz D = none) : RelH K nm (W.keep D o) ah H := by
  have hs : Same W.fz (W.keep D o).fz := fun b u e => by
    show upd W.fz D o b = some u
    rw [upd_ne (fun z => by rw [z, n2] at e; cases e)]; exact e
  refine ⟨fun b x q => ?_, R.len, R.nd, fun a m => ?_, fun i a x e1 e2 => ?_⟩
  · have q' : upd W.fz D o b = some x := q
    by_cases hb : b = D
    · subst hb; rw [upd_same] at q'; cases q'; exact h
    · rw [upd_ne hb] at q'; exact R.fz b x q'
  · show upd W.fz D o a = none
    rw [upd_ne (fun z : a = D => n1 (by rw [← z]; exact m))]; exact R.sep a m
  · exact (R.obj i a x e1 e2).mono hs (List.prefix_refl _) rfl
theorem Step.freeze (s : Step W1 H1 W H) (hD : H1 D = none) (n2 : W.fz D = none) : Step W1 H1 (W.keep D o) H := by
  have hs : Same W.fz (W.keep D o).fz := fun b u e => by
    show upd W.fz D o b = some u
    rw [upd_ne (fun z => by rw [z, n2] at e; cases e)]; exact e
  refine ⟨s.io, fun b u e => hs b u (s.fz b u e), s.fr, s.nio, fun b q => ?_, s.dom⟩
  by_cases hb : b = D
  · exact .inr (by rw [hb]; exact hD)
  · have q' : upd W.fz D o b ≠ none := q
    rw [upd_ne hb] at q'
    exact s.nfz b q'
theorem keep_le (n2 : W.fz D = none) : Le W (W.keep D o) := ⟨List.prefix_refl _, fun b u e => by
  show upd W.fz D o b = some u
  rw [upd_ne (fun z => by rw [z, n2] at e; cases e)]; exact e⟩
end
/-- no exception may leave -/
def Ot.calm {α : Type} : Ot α → Ot α | .ex _ _ => .st | r => r
def wipeA (ρ : Rho) : List Nat → Rho
  | [] => ρ
  | v :: vs => (wipeA ρ vs).set v none
theorem RS.wipe {K : PySem.W.Frag} {W : Wd} {ρ : Rho} {σ : St} (rs : RS K W ρ σ) : ∀ vs : List Nat, RS K W (wipeA ρ vs) (wipe σ vs)
  | [] => rs
  | v :: vs => RS.forget v none (RS.wipe rs vs)
def compV (g : AH → Bool) (t : TP) (vs : List Nat) (c : Rho → AH → Ot Bool) (e : Rho → AH → Ot AV) (ρ : Rho) : List AV → List AV → AH → Ot AV
  | acc, [], ah => if g ah = true then .ok (.lst acc) ah else .st
  | acc, x :: xs, ah => if g ah = true then
      match t.put x ah (wipeA ρ vs) with
      | some ρ1 => ((c ρ1 ah).calm).bind fun b ah1 => if b = true then
          ((e ρ1 ah1).calm).bind fun y ah2 => if acc.length < sizeLine then compV g t vs c e ρ (acc ++ [y]) xs ah2 else .st
        else compV g t vs c e ρ acc xs ah1
      | none => .st
    else .st
def compF (src : Rho → AH → Ot Sr) (t : TP) (vs : List Nat) (c : Rho → AH → Ot Bool) (e : Rho → AH → Ot AV) : Rho → AH → Ot AV := fun ρ ah => (src ρ ah).bind fun sr ah1 => compV sr.g t vs c e ρ [] sr.xs ah1
def yesF : Rho → AH → Ot Bool := fun _ ah => .ok true ah
section
variable {nm : Nm} {X : Cx} {Wx : WX} {K : PySem.W.Frag}
abbrev Wx0 : WX := fun _ _ _ _ => False
theorem Post.calm {α : Type} {W : Wd} {H : Hp} {r : Ot α} {k : α → AH → Wd → Hp → Prop} {e e' : EX → AH → Wd → Hp → Prop} (p : Post K nm W H r.calm k e) : Post K nm W H r k e' := by
  cases r with
  | ok a ah => exact p
  | ex x ah => exact False.elim p
  | st => exact p
/-- what a comprehension's reading asks -/
theorem comp_core {src : Rho → AH → Ot Sr} {t : TP} {vs : List Nat} {c : Rho → AH → Ot Bool} {e : Rho → AH → Ot AV} (ht : ∀ i ∈ t.slots, i ∈ vs) {σ : St} {H : Hp} {Q : VK}
    (h : TrE nm K Wx (compF src t vs c e) σ H Q) : tLc (TrI nm K Wx src) (TrG nm K t) (TrT nm K Wx0 c) (TrE nm K Wx0 e) vs σ H Q := by
  obtain ⟨W, ρ, ah, rh, rs, p⟩ := h
  refine ⟨W, ρ, ah, rh, rs, p.bind.imp (fun sr ah1 W1 H1 s1 R1 q J G D hD => ?_) fun _ _ _ _ _ _ q => q⟩
  refine ⟨fun i m H => m = sr.xs.length - i ∧ i ≤ sr.xs.length ∧ ∃ Wd ah accA accV, Le W1 Wd ∧ Step W1 H1 Wd H ∧ RelH K nm Wd ah H ∧ D ∉ Wd.io ∧ Wd.fz D = none ∧ H D = some (.lst accV) ∧ Wd.RVs K accA accV ∧
      Post K nm W1 H1 (compV sr.g t vs c e ρ accA (sr.xs.drop i) ah) (fun v _ W' H' => ∀ w, W'.RV K v w → Q w H') (xw K nm Wx σ),
    ⟨sr.xs.length, by simp, Nat.zero_le _, W1, ah1, [], [], ⟨List.prefix_refl _, Same.refl _⟩, (Step.refl W1 H1).priv hD, R1.priv (R1.fresh hD).1 (R1.fresh hD).2, (R1.fresh hD).1, (R1.fresh hD).2, upd_same, .nil, by rw [List.drop_zero]; exact q⟩, ?_⟩
  rintro i m H2 ⟨rfl, hi', W2, ah2, accA, accV, l2, s2, R2, n1, n2, h2, r2, q2⟩
  cases hx : sr.xs[i]? with
  | none =>
    rw [List.drop_eq_nil_of_le (List.getElem?_eq_none_iff.mp hx)] at q2
    unfold compV at q2
    split at q2
    · rename_i hgd
      refine .inl ⟨G.stop i W2 ah2 H2 l2 R2 hgd hx, ?_⟩
      exact q2 _ H2 (s2.freeze hD n2) (R2.freeze h2 n1 n2) _ (.lst (Rd.of upd_same) (r2.le (keep_le n2)))
    · exact False.elim q2
  | some x =>
    have hlt := (List.getElem?_eq_some_iff.mp hx).1
    have hdrop : sr.xs.drop i = x :: sr.xs.drop (i + 1) := by
      rw [List.drop_eq_getElem_cons hlt]
      congr 1
      exact (List.getElem?_eq_some_iff.mp hx).2
    rw [hdrop] at q2
    unfold compV at q2
    split at q2
    · rename_i hgd
      obtain ⟨g1, g2⟩ := G.go i W2 ah2 H2 x l2 R2 hgd hx
      refine .inr ⟨g1, fun H' => ∃ Wd ah accA accV, Le W1 Wd ∧ Step W1 H1 Wd H' ∧ RelH K nm Wd ah H' ∧ D ∉ Wd.io ∧ Wd.fz D = none ∧ H' D = some (.lst accV) ∧ Wd.RVs K accA accV ∧
        Post K nm W1 H1 (compV sr.g t vs c e ρ accA (sr.xs.drop (i + 1)) ah) (fun v _ W' H' => ∀ w, W'.RV K v w → Q w H') (xw K nm Wx σ), fun H' z => ⟨sr.xs.length - (i + 1), by omega, rfl, hlt, z⟩, fun v H' y => ?_⟩
      obtain ⟨W3, s3, R3, r3⟩ := g2 v H' y
      have keepD : ∀ {Wa Wb : Wd} {Ha Hb : Hp}, Step Wa Ha Wb Hb → D ∉ Wa.io → Wa.fz D = none → Ha D = some (.lst accV) → D ∉ Wb.io ∧ Wb.fz D = none ∧ Hb D = some (.lst accV) := fun {Wa Wb Ha Hb} s a1 a2 a3 => by
        refine ⟨fun m => (s.nio D m).elim a1 (fun z => by rw [a3] at z; cases z), ?_, s.fr D _ a3 a1⟩
        cases q : Wb.fz D with
        | none => rfl
        | some u => exact ((s.nfz D (by rw [q]; simp)).elim (fun z => absurd a2 z) (fun z => by rw [a3] at z; cases z))
      obtain ⟨m1, m2, m3⟩ := keepD s3 n1 n2 h2
      split at q2
      · rename_i ρ3 e3
        have rsW : RS K W3 (wipeA ρ vs) (wipe σ vs) := (((rs.step s1).wipe vs).step s2).step s3
        refine ⟨W3, wipeA ρ vs, ah2, x, ρ3, R3, rsW, r3, e3, fun σ3 S3 we => ⟨?_, ?_⟩⟩
        · rw [we vs ht]
          refine List.ext_getElem? fun j => ?_
          rw [wipe_get, wipe_get, wipe_length]
          by_cases hj : j ∈ vs
          · rw [if_pos hj, if_pos hj]
          · rw [if_neg hj]
        · have s13 := s2.trans s3
          cases hc : c ρ3 ah2 with
          | st => rw [hc] at q2; exact False.elim q2
          | ex x1 ah4 => rw [hc] at q2; exact False.elim q2
          | ok b ah4 =>
            rw [hc] at q2
            refine ⟨W3, ρ3, ah2, R3, S3, ?_⟩
            rw [hc]
            intro W4 H4 s4 R4
            obtain ⟨a1, a2, a3⟩ := keepD s4 m1 m2 m3
            cases b with
            | false =>
              rw [if_neg Bool.false_ne_true]
              exact ⟨W4, ah4, accA, accV, (l2.trans s3.le).trans s4.le, s13.trans s4, R4, a1, a2, a3, (r2.step s3).step s4, q2⟩
            | true =>
              rw [if_pos rfl]
              have q2 : Post K nm W1 H1 (((e ρ3 ah4).calm).bind fun y ah2 => if accA.length < sizeLine then compV sr.g t vs c e ρ (accA ++ [y]) (sr.xs.drop (i + 1)) ah2 else .st) (fun v _ W' H' => ∀ w, W'.RV K v w → Q w H') (xw K nm Wx σ) := q2
              cases he : e ρ3 ah4 with
              | st => rw [he] at q2; exact False.elim q2
              | ex x1 ah5 => rw [he] at q2; exact False.elim q2
              | ok y ah5 =>
                rw [he] at q2
                have q2 : Post K nm W1 H1 (if accA.length < sizeLine then compV sr.g t vs c e ρ (accA ++ [y]) (sr.xs.drop (i + 1)) ah5 else .st) (fun v _ W' H' => ∀ w, W'.RV K v w → Q w H') (xw K nm Wx σ) := q2
                refine ⟨W4, ρ3, ah4, R4, S3.step s4, ?_⟩
                rw [he]
                intro W5 H5 s5 R5 w r
                obtain ⟨b1, b2, b3⟩ := keepD s5 a1 a2 a3
                have r5 := ((r2.step s3).step s4).step s5
                split at q2
                · rename_i hl
                  refine ⟨accV, b3, by rw [r2.length]; exact hl, W5, ah5, accA ++ [y], accV ++ [w], ((l2.trans s3.le).trans s4.le).trans s5.le, ((s13.trans s4).trans s5).priv hD, R5.priv b1 b2, b1, b2, upd_same, r5.append (.cons r .nil), q2⟩
                · exact False.elim q2
      · exact False.elim q2
    · exact False.elim q2
/-- [elt for target in iter if c] -/
theorem ev_comp {elt tg iter : Expr} {ifs : List Expr} {scope : Scope} {own : List (Str × Nat)} {pos : Pos} {src : Rho → AH → Ot Sr} {t : TP} {c : Rho → AH → Ot Bool} {e : Rho → AH → Ot AV} (hc : X.calm = true) (hN : X.N.Nodup) (hi : EI nm X Wx tg iter src) (ok : BlkOk X.N X.env.scope scope own)
    (hslots : ∀ i ∈ t.slots, i ∈ own.map (·.2))
    (hg : ∀ (s : Shared) (H : Hp) (C : Addr) (cl : List (Str × Addr)) (fp : List Addr), PG (X.blk s H scope (compEnvC scope cl C X.env) fp) tg (TrG nm X.K t)) (ht : ∀ (s : Shared) (H : Hp) (C : Addr) (cl : List (Str × Addr)) (fp : List Addr), PTs (X.blk s H scope (compEnvC scope cl C X.env) fp) ifs (TrT nm X.K Wx0 c))
    (he : ∀ (s : Shared) (H : Hp) (C : Addr) (cl : List (Str × Addr)) (fp : List Addr), PE (X.blk s H scope (compEnvC scope cl C X.env) fp) elt (TrE nm X.K Wx0 e)) (hs : ∀ x, foldedSetIterable iter X.env x = pure x) :
    EV nm X Wx (.ListComp elt [⟨tg, iter, ifs, 0⟩] scope pos) (compF src t (own.map (·.2)) c e) :=
  PE.weak (pe_lc hc hN hi ok hg ht he hs) fun σ H Q h => comp_core hslots h
/-- name = [..] -/
theorem es_comp {i : Nat} {y : Str} {py : Pos} {elt tg iter : Expr} {ifs : List Expr} {scope : Scope} {own : List (Str × Nat)} {pos spos : Pos} {src : Rho → AH → Ot Sr} {t : TP} {c : Rho → AH → Ot Bool} {e : Rho → AH → Ot AV} (hc : X.calm = true) (hN : X.N.Nodup) (hy : X.N[i]? = some y) (hyl : X.env.scope.names.lookup y = some .local)
    (hk : X.env.scope.kind = .function) (hln : (py.line == pos.line) = true) (hno : (scope.names.any fun (n, k) => n == y && (k == .local || k == .cell)) = false)
    (hi : EI nm X Wx tg iter src) (ok : BlkOk X.N X.env.scope scope own) (hslots : ∀ i ∈ t.slots, i ∈ own.map (·.2))
    (hg : ∀ (s : Shared) (H : Hp) (C : Addr) (cl : List (Str × Addr)) (fp : List Addr), PG (X.blk s H scope (compEnvC scope cl C X.env) fp) tg (TrG nm X.K t)) (ht : ∀ (s : Shared) (H : Hp) (C : Addr) (cl : List (Str × Addr)) (fp : List Addr), PTs (X.blk s H scope (compEnvC scope cl C X.env) fp) ifs (TrT nm X.K Wx0 c))
    (he : ∀ (s : Shared) (H : Hp) (C : Addr) (cl : List (Str × Addr)) (fp : List Addr), PE (X.blk s H scope (compEnvC scope cl C X.env) fp) elt (TrE nm X.K Wx0 e)) (hs : ∀ x, foldedSetIterable iter X.env x = pure x) :
    ES nm X Wx (.Assign [.Name y py] (.ListComp elt [⟨tg, iter, ifs, 0⟩] scope pos) spos) (asgF (.nm i) (compF src t (own.map (·.2)) c e)) := by
  refine PS.weak (ps_setLc (i := i) hc hN hy hyl (sw_true hk hyl hln hno) hi ok hg ht he hs) fun D σ H ⟨W, ρ, ah, rh, rs, p⟩ => ?_
  refine comp_core (Wx := Wx) hslots (TrE.to rh rs p fun v ah1 W1 H1 w s R1 S1 r q => ?_)
  exact q W1 H1 _ (Step.refl _ _) R1 (S1.set r i)
end
end Ko

/-! Ko, part K: defs of the text: what a call of one does, how one is called, how its body makes it so. -/
namespace Ko
open PySem L2

/-- the room of depth k -/
abbrev rm (k : Nat) : Nat := 2 * k + 2
def isVis (sc : Scope) (x : Str) : Bool := match sc.names.lookup x with | some .local => true | some .cell => true | some .free => true | _ => false
def isGl (sc : Scope) (x : Str) : Bool := match sc.names.lookup x with | some .globalImplicit => true | _ => false
def isLo (sc : Scope) (x : Str) : Bool := match sc.names.lookup x with | some .local => true | _ => false
/-- a context in which defs of depth k may be called; sc: the scope as the text has it -/
structure Ctx (k : Nat) (sc : Scope) (X : Cx) (Wx : WX) : Prop where
  sm : SM X
  gd : X.A.guards = some []
  room : Room (rm k) X.A
  calm : X.calm = true
  nd : X.N.Nodup
  po : PassesOwn (model X.prog X.w) X.A X.env X.xe
  tk : Takes X Wx
  vis : ∀ x, isVis sc x = true → Vis X.env.scope x
  loc : ∀ x, isLoc sc x = true → L2.Loc X.env.scope x ∧ (X.fn x = true ∨ X.env.scope.names.lookup x = some .local)
  lo : ∀ x, isLo sc x = true → X.env.scope.names.lookup x = some .local
  gl : ∀ x, isGl sc x = true → Gl X x
  up : ∀ x, (sc.names.lookup x = some .cell ∨ sc.names.lookup x = some .free) → X.env.scope.names.lookup x = some .cell ∨ X.env.scope.names.lookup x = some .free
  kind : X.env.scope.kind = .function
theorem Ctx.cal {k : Nat} {sc : Scope} {X : Cx} {Wx : WX} (c : Ctx k sc X Wx) : Cal X := ⟨c.sm, c.gd, c.room.units, c.calm⟩
theorem takes_none {X : Cx} : Takes X Wx0 := fun _ _ ⟨_, _, _, _, _, _, _, _, _, _, _, _, _, _, _, _, w⟩ => w.elim
theorem rel_free {sc : Scope} : ∀ {names : List (Str × NameKind)} {x : Str}, names.lookup x = some .free →
    (names.map fun (n, k) => if (k == NameKind.free && sc.kind == .function && sc.names.lookup n == some .cell) then (n, NameKind.cell) else (n, k)).lookup x = some .free ∨
    (names.map fun (n, k) => if (k == NameKind.free && sc.kind == .function && sc.names.lookup n == some .cell) then (n, NameKind.cell) else (n, k)).lookup x = some .cell
  | [], _, h => by simp at h
  | (n, k0) :: r, x, h => by
    have ih := @rel_free sc r x
    cases hx : x == n with
    | true =>
      simp only [List.lookup_cons, hx] at h
      cases h
      by_cases hc : (NameKind.free == NameKind.free && sc.kind == .function && sc.names.lookup n == some .cell) = true
      · refine .inr ?_
        simp only [List.map_cons]
        rw [if_pos hc]
        simp only [List.lookup_cons, hx]
      · refine .inl ?_
        simp only [List.map_cons]
        rw [if_neg hc]
        simp only [List.lookup_cons, hx]
    | false =>
      simp only [List.lookup_cons, hx] at h
      by_cases hc : (k0 == NameKind.free && sc.kind == .function && sc.names.lookup n == some .cell) = true
      · simp only [List.map_cons]
        rw [if_pos hc]
        simp only [List.lookup_cons, hx]
        exact ih h
      · simp only [List.map_cons]
        rw [if_neg hc]
        simp only [List.lookup_cons, hx]
        exact ih h
theorem Ctx.blk {k : Nat} {sc : Scope} {X : Cx} {Wx : WX} (c : Ctx k sc X Wx) {scope : Scope} (hk : scope.kind = .function) (s : Shared) (H : Hp) (C : Addr) (cl : List (Str × Addr)) (fp : List Addr) :
    Ctx k scope (X.blk s H scope (compEnvC scope cl C X.env) fp) Wx0 where
  sm := c.sm
  gd := c.gd
  room := c.room
  calm := c.calm
  nd := c.nd
  po := PassesOwn.never
  tk := takes_none
  vis := fun x h => by
    unfold isVis at h
    split at h
    · rename_i e; exact .inl (lookup_relS_keep (sc := X.env.scope) (by decide) e)
    · rename_i e; exact .inr (.inl (lookup_relS_keep (sc := X.env.scope) (by decide) e))
    · rename_i e
      rcases rel_free (sc := X.env.scope) e with q | q
      · exact .inr (.inr q)
      · exact .inr (.inl q)
    · exact absurd h Bool.false_ne_true
  loc := fun x h => by
    unfold isLoc at h
    split at h
    · rename_i e
      have q : (relabel scope X.env).names.lookup x = some .local := lookup_relS_keep (sc := X.env.scope) (by decide) e
      exact ⟨.inl q, .inr q⟩
    · rename_i e
      refine ⟨.inr (lookup_relS_keep (sc := X.env.scope) (by decide) e), .inl ?_⟩
      show (scope.names.lookup x == some NameKind.cell) = true
      rw [e]; rfl
    · exact absurd h Bool.false_ne_true
  lo := fun x h => by
    unfold isLo at h
    split at h
    · rename_i e; exact lookup_relS_keep (sc := X.env.scope) (by decide) e
    · exact absurd h Bool.false_ne_true
  gl := fun x h => by
    unfold isGl at h
    split at h
    · rename_i e; exact lookup_relS_keep (sc := X.env.scope) (by decide) e
    · exact absurd h Bool.false_ne_true
  up := fun x h => by
    rcases h with e | e
    · exact .inl (lookup_relS_keep (sc := X.env.scope) (by decide) e)
    · rcases rel_free (sc := X.env.scope) e with q | q
      · exact .inr q
      · exact .inl q
  kind := hk

section
variable (P : Program) (w : World) (K : PySem.W.Frag) (mg : Str → Option Value) (base : Heap) (nm : Nm)
/-- the def at fa keeps what sem says -/
structure FnG (k : Nat) (fa : Addr) (fd : FuncData) (ps : List Str) (sem : List AV → AH → Ot AV) : Prop where
  run : ∀ (A : Around) (outer : List Env) (s : Shared) (H : Hp) (args : Args) (us : List Value) (vs : List V) (W : Wd) (xs : List AV) (ah : AH) (Q : VK) (E : XK), Room (rm k + 1) A → A.guards = some [] → Env0 P w K mg base A outer s H → BindsTo s fd args (ps.zip us) → Vals vs us →
    RelH K nm W ah H → W.RVs K xs vs → xs.length = ps.length → Post K nm W H (sem xs ah) (fun v _ W' H' => ∀ w, W'.RV K v w → Q w H') (fun x _ W' H' => ∀ cls d, ExRep K nm W' x cls d → E cls d H') →
    codeAny (model P w) A (.call (.ref fa) args) (CR (CX P w) outer P w H s Q E) s
end

section
variable {nm : Nm} {X : Cx} {Wx : WX}
/-- behind the callee -/
theorem called {k : Nat} {sc : Scope} (c : Ctx (k + 1) sc X Wx) {fa : Addr} {fd : FuncData} {ps : List Str} {sem : List AV → AH → Ot AV} (F : FnG X.prog X.w X.K X.mg X.base nm k fa fd ps sem) {pins : List (Addr × Obj)} {s : Shared} {σ : St} {H : Hp} (I : L2.Inv X pins σ H s)
    {us kw : List Value} {ks : List Str} {bs : List Value} {vs : List V} {W : Wd} {xs : List AV} {ah : AH} {Q : VK} (hb : BindsTo s fd ⟨us, ks.zip kw⟩ (ps.zip bs)) (r : Vals vs bs) (R : RelH X.K nm W ah H) (rv : W.RVs X.K xs vs) (hl : xs.length = ps.length)
    (p : Post X.K nm W H (sem xs ah) (fun v _ W' H' => ∀ w, W'.RV X.K v w → Q w H') (xw X.K nm Wx σ)) : wpAny (model X.prog X.w) X.A (PySem.call (.ref fa) us (ks.zip kw)) (EP X pins σ Q) X.xe s := by
  refine wpAny_call (codeAny_mono (F.run X.A X.stack s H _ bs vs W xs ah Q (fun cls d H' => Wx cls d σ H') (c.room.mono (by show rm k + 1 ≤ rm (k + 1); unfold rm; omega)) c.gd I.env0 hb r R rv hl p) fun res s' hq => ?_)
  match res, hq with
  | .error e, hq => exact c.tk e s' (XE.of_call I (fun _ _ _ h => h) hq)
  | .ok (.ret u), hq => exact I.after hq
def callF (sem : List AV → AH → Ot AV) (n : Nat) (a : Rho → AH → Ot (List AV)) : Rho → AH → Ot AV := fun ρ ah => (a ρ ah).bind fun xs ah1 => if xs.length = n then sem xs ah1 else .st
/-- f(e, ..) -/
theorem ev_call {k : Nat} {sc : Scope} (c : Ctx (k + 1) sc X Wx) {fa : Addr} {fd : FuncData} {ps : List Str} {sem : List AV → AH → Ot AV} {x : Str} {p pos : Pos} {e : Expr} {es : List Expr} {a : Rho → AH → Ot (List AV)} (F : FnG X.prog X.w X.K X.mg X.base nm k fa fd ps sem)
    (hg : Gl X x) (hm : X.mg x = some (.ref fa)) (hk : PySem.W.keepIn X.K (.ref fa) = true) (hb : Binds X.K fd ps []) (hdb : (x == ("__debug__" : Str)) = false) (ha : EA nm X Wx (e :: es) a) (hst : (e :: es).all notSt = true) : EV nm X Wx (.Call (.Name x p) (e :: es) [] pos) (callF sem ps.length a) := by
  refine ⟨fun pins s σ H Q I ⟨W, ρ, ah, rh, rs, pp⟩ => ?_⟩
  refine wpAny_Call_Name_kw (ld_glob I hg hm ?_ hdb)
  have start : TrA nm X.K Wx a σ H (fun vs H1 => ∃ W1 ah1 xs, Step W H W1 H1 ∧ RelH X.K nm W1 ah1 H1 ∧ W1.RVs X.K xs vs ∧ Post X.K nm W1 H1 (if xs.length = ps.length then sem xs ah1 else .st) (fun v _ W' H' => ∀ w, W'.RV X.K v w → Q w H') (xw X.K nm Wx σ)) :=
    TrA.seqB rh rs pp fun xs ah1 W1 H1 vs s1 R1 S1 v1 q => ⟨W1, ah1, xs, s1, R1, v1, q⟩
  rw [List.all_cons, Bool.and_eq_true] at hst
  refine PySem.W.callWith_K (h₀ := X.base) I.ok.mod.kin hk (thn (ha.run pos pins s σ H _ I start) fun us s1 ⟨vs, H1, I1, r1, W1, ah1, xs, s2, R1, v1, q⟩ => ⟨I1.kIn, ?_⟩) (star_cons hst.1) (star_plain pos X.env hst.2)
  split at q
  · rename_i hl
    have hbt := hb s1 us I1.kIn (by rw [List.append_nil, ← r1.length, v1.length, hl])
    rw [List.append_nil] at hbt
    exact called (ks := []) (kw := []) c F I1 hbt r1 R1 v1 hl q
  · exact False.elim q
/-- f() -/
theorem ev_call0 {k : Nat} {sc : Scope} (c : Ctx (k + 1) sc X Wx) {fa : Addr} {fd : FuncData} {ps : List Str} {sem : List AV → AH → Ot AV} {x : Str} {p pos : Pos} (F : FnG X.prog X.w X.K X.mg X.base nm k fa fd ps sem)
    (hg : Gl X x) (hm : X.mg x = some (.ref fa)) (hk : PySem.W.keepIn X.K (.ref fa) = true) (hb : Binds X.K fd ps []) (hdb : (x == ("__debug__" : Str)) = false) : EV nm X Wx (.Call (.Name x p) [] [] pos) (callF sem ps.length aNil) := by
  refine ⟨fun pins s σ H Q I ⟨W, ρ, ah, rh, rs, pp⟩ => ?_⟩
  refine wpAny_Call_Name_kw (ld_glob I hg hm ?_ hdb)
  refine PySem.W.callWith_K0 I.kIn hk ?_
  have q : Post X.K nm W H (if ([] : List AV).length = ps.length then sem [] ah else .st) (fun v _ W' H' => ∀ w, W'.RV X.K v w → Q w H') (xw X.K nm Wx σ) := pp
  split at q
  · rename_i hl
    have hbt := hb s [] I.kIn hl
    exact called (ks := []) (kw := []) (us := []) c F I hbt .nil rh .nil hl q
  · exact False.elim q
/-! keywords -/
def kwF (a : Rho → AH → Ot (List AV)) (b : Rho → AH → Ot (List AV)) (np nk : Nat) (perm : List Nat) : Rho → AH → Ot (List AV) := fun ρ ah => (a ρ ah).bind fun xs ah1 => (b ρ ah1).bind fun ys ah2 =>
  if xs.length = np ∧ ys.length = nk then .ok (xs ++ perm.map fun i => ys.getD i .non) ah2 else .st
/-- how keywords bind: the positional ones first, then the keywords' by perm -/
def KwB (K : PySem.W.Frag) (fd : FuncData) (ps ks : List Str) (np : Nat) (perm : List Nat) : Prop :=
  ∀ (s : Shared) (us ws : List Value), K.In s.heap → us.length = np → ws.length = ks.length → BindsTo s fd ⟨us, ks.zip ws⟩ (ps.zip (us ++ perm.map fun i => ws.getD i .none))
def EK (nm : Nm) (X : Cx) (Wx : WX) (e : List Keyword) (f : Rho → AH → Ot (List AV)) : Prop := PK X e (TrA nm X.K Wx f)
theorem PK.weak {X : Cx} {e : List Keyword} {t t' : TA} (h : PK X e t) (w : ∀ σ H Q, t' σ H Q → t σ H Q) : PK X e t' := ⟨fun p pins s σ H Q I q => h.run p pins s σ H Q I (w σ H Q q)⟩
theorem ek_nil : EK nm X Wx [] aNil := PK.weak pk_nil fun σ H Q ⟨W, ρ, ah, rh, rs, p⟩ => p W H (Step.refl _ _) rh [] .nil
theorem ek_cons {e : Expr} {n : Option Str} {kpos : Pos} {es : List Keyword} {fa : Rho → AH → Ot AV} {fb : Rho → AH → Ot (List AV)} (ha : EV nm X Wx e fa) (hb : EK nm X Wx es fb) : EK nm X Wx (⟨n, e, kpos⟩ :: es) (aCons fa fb) := by
  refine PK.weak (pk_cons ha hb) fun σ H Q ⟨W, ρ, ah, rh, rs, p⟩ => ?_
  refine TrE.seqB rh rs p fun x ah1 W1 H1 w1 s1 R1 S1 v1 p1 => TrA.seqB R1 S1 p1 fun y ah2 W2 H2 w2 s2 R2 S2 v2 p2 => ?_
  exact p2 W2 H2 (Step.refl _ _) R2 _ (.cons (v1.step s2) v2)
def kwNames : List Keyword → Option (List Str)
  | [] => some []
  | ⟨some n, _, _⟩ :: r => (kwNames r).map (n :: ·)
  | _ => none
theorem kw_of (pos : Pos) (env : Env) : ∀ {kws : List Keyword} {ks : List Str}, kwNames kws = some ks → (backToKw pos (keywordEach kws env)).all (·.1.isSome) = true ∧ (backToKw pos (keywordEach kws env)).filterMap (·.1) = ks ∧ (backToKw pos (keywordEach kws env)).any (·.1.isNone) = false
  | [], _, e => by cases e; exact ⟨rfl, rfl, rfl⟩
  | ⟨some n, v, p⟩ :: r, ks, e => by
    simp only [kwNames, Option.map_eq_some_iff] at e
    obtain ⟨ks', e1, rfl⟩ := e
    obtain ⟨h1, h2, h3⟩ := kw_of pos env e1
    refine ⟨?_, ?_, ?_⟩
    · show (true && (backToKw pos (keywordEach r env)).all (·.1.isSome)) = true
      rw [h1]; rfl
    · show n :: (backToKw pos (keywordEach r env)).filterMap (·.1) = n :: ks'
      rw [h2]
    · show (false || (backToKw pos (keywordEach r env)).any (·.1.isNone)) = false
      rw [h3]; rfl
  | ⟨none, v, p⟩ :: r, ks, e => by simp [kwNames] at e
theorem vals_perm {vs : List V} {us : List Value} (r : Vals vs us) : ∀ perm : List Nat, Vals (perm.map fun i => vs.getD i .non) (perm.map fun i => us.getD i .none)
  | [] => .nil
  | i :: l => .cons (by
      cases q : vs[i]? with
      | some v =>
        obtain ⟨u, h1, h2⟩ := r.get q
        show RelV (vs.getD i .non) (us.getD i .none)
        rw [List.getD_eq_getElem?_getD, List.getD_eq_getElem?_getD, q, h1]; exact h2
      | none =>
        show RelV (vs.getD i .non) (us.getD i .none)
        rw [List.getD_eq_getElem?_getD, List.getD_eq_getElem?_getD, q, r.none_of q]; exact rfl) (vals_perm r l)
theorem rvs_perm {K : PySem.W.Frag} {W : Wd} {xs : List AV} {vs : List V} (r : W.RVs K xs vs) : ∀ perm : List Nat, W.RVs K (perm.map fun i => xs.getD i .non) (perm.map fun i => vs.getD i .non)
  | [] => .nil
  | i :: l => .cons (by
      cases q : xs[i]? with
      | some x =>
        obtain ⟨v, h1, h2⟩ := r.get q
        show Ko.RV K W.fz W.io (xs.getD i .non) (vs.getD i .non)
        rw [List.getD_eq_getElem?_getD, List.getD_eq_getElem?_getD, q, h1]; exact h2
      | none =>
        have q' : vs[i]? = none := by
          rw [List.getElem?_eq_none_iff, r.length]
          exact List.getElem?_eq_none_iff.mp q
        show Ko.RV K W.fz W.io (xs.getD i .non) (vs.getD i .non)
        rw [List.getD_eq_getElem?_getD, List.getD_eq_getElem?_getD, q, q']; exact .non) (rvs_perm r l)
theorem ev_callK {k : Nat} {sc : Scope} (c : Ctx (k + 1) sc X Wx) {fa : Addr} {fd : FuncData} {ps ks : List Str} {np : Nat} {perm : List Nat} {sem : List AV → AH → Ot AV} {x : Str} {p pos : Pos} {es : List Expr} {kws : List Keyword} {a b : Rho → AH → Ot (List AV)} (F : FnG X.prog X.w X.K X.mg X.base nm k fa fd ps sem)
    (hg : Gl X x) (hm : X.mg x = some (.ref fa)) (hk : PySem.W.keepIn X.K (.ref fa) = true) (hb : KwB X.K fd ps ks np perm) (hdb : (x == ("__debug__" : Str)) = false) (ha : es = [] ∧ a = aNil ∨ es ≠ [] ∧ EA nm X Wx es a) (hkw : EK nm X Wx kws b) (hn : kwNames kws = some ks) (hst : es.all notSt = true) :
    EV nm X Wx (.Call (.Name x p) es kws pos) (callF sem ps.length (kwF a b np ks.length perm)) := by
  refine ⟨fun pins s σ H Q I ⟨W, ρ, ah, rh, rs, pp⟩ => ?_⟩
  refine wpAny_Call_Name_kw (ld_glob I hg hm ?_ hdb)
  obtain ⟨k1, k2, k3⟩ := kw_of pos X.env hn
  have tail : ∀ (us : List Value) (s1 : Shared) (vs : List V) (H1 : Hp) (W1 : Wd) (ah1 : AH) (xs : List AV), L2.Inv X pins σ H1 s1 → Vals vs us → RelH X.K nm W1 ah1 H1 → RS X.K W1 ρ σ → W1.RVs X.K xs vs →
      Post X.K nm W1 H1 (((b ρ ah1).bind fun ys ah2 => if xs.length = np ∧ ys.length = ks.length then .ok (xs ++ perm.map fun i => ys.getD i .non) ah2 else .st).bind fun xs ah1 => if xs.length = ps.length then sem xs ah1 else .st) (fun v _ W' H' => ∀ w, W'.RV X.K v w → Q w H') (xw X.K nm Wx σ) →
      wpAny (model X.prog X.w) X.A (evalAll ((backToKw pos (keywordEach kws X.env)).map (·.2))) (fun ws s2 => X.K.In s2.heap ∧ wpAny (model X.prog X.w) X.A (PySem.call (.ref fa) us (((backToKw pos (keywordEach kws X.env)).filterMap (·.1)).zip ws)) (EP X pins σ Q) X.xe s2) X.xe s1 := by
    intro us s1 vs H1 W1 ah1 xs I1 r1 R1 S1 v1 q
    have q := q.bind.bind
    refine thn (hkw.run pos pins s1 σ H1 (fun zs H2 => ∃ W2 ah2 ys, Step W1 H1 W2 H2 ∧ RelH X.K nm W2 ah2 H2 ∧ W2.RVs X.K ys zs ∧ Post X.K nm W2 H2 ((if xs.length = np ∧ ys.length = ks.length then Ot.ok (xs ++ perm.map fun i => ys.getD i .non) ah2 else .st).bind fun xs ah1 => if xs.length = ps.length then sem xs ah1 else .st) (fun v _ W' H' => ∀ w, W'.RV X.K v w → Q w H') (xw X.K nm Wx σ)) I1
      ⟨W1, ρ, ah1, R1, S1, q.imp (fun ys ah2 W2 H2 s2 R2 q2 zs r2 => ⟨W2, ah2, ys, s2, R2, r2, ?_⟩) fun _ _ _ _ _ _ q => q⟩) fun ws s2 ⟨zs, H2, I2, rz, W2, ah2, ys, s12, R2, v2, q2⟩ => ⟨I2.kIn, ?_⟩
    · split at q2
      · rename_i hl; rw [if_pos hl]; exact Post.shift (Step.refl _ _) (q2 W2 H2 (Step.refl _ _) R2)
      · exact False.elim q2
    · split at q2
      · rename_i hl
        have q3 : Post X.K nm W2 H2 (if (xs ++ perm.map fun i => ys.getD i .non).length = ps.length then sem (xs ++ perm.map fun i => ys.getD i .non) ah2 else .st) (fun v _ W' H' => ∀ w, W'.RV X.K v w → Q w H') (xw X.K nm Wx σ) := q2
        split at q3
        · rename_i hl2
          rw [k2]
          have hbt := hb s2 us ws I2.kIn (by rw [← r1.length, v1.length]; exact hl.1) (by rw [← rz.length, v2.length]; exact hl.2)
          exact called c F I2 hbt (r1.append (vals_perm rz perm)) R2 ((v1.step s12).append (rvs_perm v2 perm)) hl2 q3
        · exact False.elim q3
      · exact False.elim q2
  rcases ha with ⟨rfl, rfl⟩ | ⟨hne, ha⟩
  · exact PySem.W.callWith_KW0 (h₀ := X.base) I.ok.mod.kin hk k1 (tail [] s [] H W ah [] I .nil rh rs .nil pp) (by rw [k3]; rfl)
  · have start : TrA nm X.K Wx a σ H (fun vs H1 => ∃ W1 ah1 xs, Step W H W1 H1 ∧ RelH X.K nm W1 ah1 H1 ∧ RS X.K W1 ρ σ ∧ W1.RVs X.K xs vs ∧ Post X.K nm W1 H1 (((b ρ ah1).bind fun ys ah2 => if xs.length = np ∧ ys.length = ks.length then .ok (xs ++ perm.map fun i => ys.getD i .non) ah2 else .st).bind fun xs ah1 => if xs.length = ps.length then sem xs ah1 else .st) (fun v _ W' H' => ∀ w, W'.RV X.K v w → Q w H') (xw X.K nm Wx σ)) :=
      ⟨W, ρ, ah, rh, rs, by
        have pp : Post X.K nm W H (((a ρ ah).bind fun xs ah1 => (b ρ ah1).bind fun ys ah2 => if xs.length = np ∧ ys.length = ks.length then .ok (xs ++ perm.map fun i => ys.getD i .non) ah2 else .st).bind fun xs ah1 => if xs.length = ps.length then sem xs ah1 else .st) (fun v _ W' H' => ∀ w, W'.RV X.K v w → Q w H') (xw X.K nm Wx σ) := pp
        cases e : a ρ ah with
        | ok xs ah1 => rw [e] at pp; exact fun W1 H1 s1 R1 vs r => ⟨W1, ah1, xs, s1, R1, rs.step s1, r, Post.shift s1 pp⟩
        | ex x ah1 => rw [e] at pp; exact pp
        | st => rw [e] at pp; exact pp⟩
    cases es with
    | nil => exact absurd rfl hne
    | cons e es =>
      have hst' := hst
      rw [List.all_cons, Bool.and_eq_true] at hst
      exact PySem.W.callWith_KW (h₀ := X.base) I.ok.mod.kin hk k1 (thn (ha.run pos pins s σ H _ I start) fun us s1 ⟨vs, H1, I1, r1, W1, ah1, xs, s2, R1, S1, v1, q⟩ => tail us s1 vs H1 W1 ah1 xs I1 r1 R1 S1 v1 q) (by rw [star_plain pos X.env hst', k3]; rfl) (star_cons hst.1)
end
end Ko

/-! Ko, part L: a def by its body. -/
namespace Ko
open PySem L2
def startA (N : List Str) (xs : List AV) : Rho := xs.map some ++ List.replicate (N.length - xs.length) none
def SR.fin : SR → Ot AV
  | .rt v ah => .ok v ah
  | .nx _ ah => .ok .non ah
  | .ex x _ ah => .ex x ah
  | _ => .st
theorem rs_app {K : PySem.W.Frag} {W : Wd} {ρ : Rho} {σ : St} (h : RS K W ρ σ) : ∀ {xs : List AV} {vs : List V}, W.RVs K xs vs → RS K W (xs.map some ++ ρ) (vs.map some ++ σ)
  | _, _, .nil => h
  | _, _, .cons r t => .kn r (rs_app h t)
theorem rs_none {K : PySem.W.Frag} {W : Wd} : ∀ n : Nat, RS K W (List.replicate n none) (List.replicate n none)
  | 0 => .nil
  | n + 1 => .un (rs_none n)
theorem rs_start {K : PySem.W.Frag} {W : Wd} {N : List Str} {xs : List AV} {vs : List V} (r : W.RVs K xs vs) : RS K W (startA N xs) (L2.start N vs) := by
  unfold startA L2.start
  rw [r.length]
  exact rs_app (rs_none _) r
section
variable {P : Program} {w : World} {K : PySem.W.Frag} {mg : Str → Option Value} {base : Heap} {nm : Nm}
theorem FnG.by {k : Nat} {x qual : Str} {st : Stmt} {fa : Addr} {fd : FuncData} {N ps : List Str} {f : Rho → AH → SR} (F : Fun K x qual st fa fd) (S : FnScope N ps (defScope st)) (hsm : ∃ o es ep, base.get? sysModules = some o ∧ o.data = .dict es ep)
    (hbody : ∀ (cdv : Value) (A : Around) (outer : List Env) (s : Shared) (H : Hp) (E : XK), Ctx k (defScope st) (cxOf (CX P w) P w K mg base N qual (defScope st) fa cdv A outer s H E) (fun cls d _ H' => E cls d H') →
      ESs nm (cxOf (CX P w) P w K mg base N qual (defScope st) fa cdv A outer s H E) (fun cls d _ H' => E cls d H') (defBody st) f) : FnG P w K mg base nm k fa fd ps (fun xs ah => (f (startA N xs) ah).fin) := by
  obtain ⟨oc, od, kV, doc, pm, an, cdv, ct, osl, rfl, lk, hcd⟩ := F.ex
  refine ⟨fun A outer s H args us vs W xs ah Q E hr hgd e0 hb r R rv hl p => ?_⟩
  have hlv : vs.length = ps.length := by rw [rv.length, hl]
  have KX : K.In s.heap := e0.mod.kin.keeps fun b o e => (e0.bs b o e).1
  have lim : s.heap.NoLimit := e0.mod.nolimit.keeps fun b o e => (e0.bs b o e).1
  have hkind : ∀ y ∈ ps.zip us, (defScope st).names.lookup y.1 = some .local ∨ ((defScope st).names.lookup y.1 = some .cell ∧ ((cellsFrom (s.heap.objs.size + 1) (defScope st).names []).lookup y.1).isSome = true) := by
    rintro ⟨n, v⟩ hy
    rcases S.par n (List.of_mem_zip hy).1 with q | q
    · exact Or.inl q
    · exact Or.inr ⟨q, PySem.W.cellsFrom_some _ _ _ (Or.inl q)⟩
  refine codeAny_call_function hr.depth (KX _ _ lk) rfl S.co S.gen rfl (PySem.W.codeRec_of KX hcd) (hb _ _ _ _ ?_)
  refine wpAny_newFunctionEnv_cells S.kind hkind fun env he s1 x => ?_
  subst he
  refine ⟨lim.keeps x.toInCall.keep, codeAny_func ?_⟩
  have I := inv_start (CX := CX P w) (N := N) (E := E) S hr.hd e0 hlv r x
  have C : Ctx k (defScope st) (cxOf (CX P w) P w K mg base N qual (defScope st) fa cdv A outer s H E) (fun cls d _ H' => E cls d H') := by
    refine ⟨hsm, hgd, hr.deeper _, rfl, S.nd, passes_of rfl, takes_of rfl rfl rfl rfl, fun x h => ?_, fun x h => ?_, fun x h => ?_, fun x h => ?_, fun x h => h, S.kind⟩
    · unfold isVis at h
      split at h
      · rename_i e; exact .inl e
      · rename_i e; exact .inr (.inl e)
      · rename_i e; exact .inr (.inr e)
      · exact absurd h Bool.false_ne_true
    · exact ⟨loc_of h, .inl rfl⟩
    · unfold isLo at h
      split at h
      · rename_i e; exact e
      · exact absurd h Bool.false_ne_true
    · unfold isGl at h
      split at h
      · rename_i e; exact e
      · exact absurd h Bool.false_ne_true
  have B := hbody cdv A outer s H E C
  refine wpAny_mono (B.run [] s1 (L2.start N vs) H { nx := fun _ H' => Q .non H', rt := Q } I ⟨W, startA N xs, ah, R, rs_start rv, ?_⟩) (fun fl s' hs => ?_) fun e s' hs => hs
  · cases q : f (startA N xs) ah with
    | rt v ah' => rw [q] at p; exact fun W' H' w s R r => p W' H' s R w r
    | nx ρ ah' => rw [q] at p; exact fun W' H' σ' s R _ => p W' H' s R _ .non
    | ex x ρ ah' => rw [q] at p; exact fun W' H' σ' cls d s R _ h => p W' H' s R cls d h
    | bk ρ ah' => rw [q] at p; exact False.elim p
    | ct ρ ah' => rw [q] at p; exact False.elim p
    | st => rw [q] at p; exact False.elim p
  · match fl, hs with
    | .ret u, ⟨v, σ', H', J, rv, q⟩ => exact ⟨v, H', J.os, J.bare, J.base, J.hok, rv, q⟩
    | .next, ⟨σ', H', J, q⟩ => exact ⟨V.non, H', J.os, J.bare, J.base, J.hok, (show RelV V.non Value.none from rfl), q⟩
    | .brk, ⟨_, _, _, q⟩ => exact False.elim q
    | .cont, ⟨_, _, _, q⟩ => exact False.elim q
end
end Ko

/-! Ko, part M: and, or, not as values; op= ; stores into lists. -/
namespace Ko
open PySem L2
section
variable {nm : Nm} {X : Cx} {Wx : WX} {K : PySem.W.Frag}
def andF (a b : Rho → AH → Ot AV) : Rho → AH → Ot AV := fun ρ ah => (a ρ ah).bind fun x ah1 => match truF ah1 x with | some true => b ρ ah1 | some false => .ok x ah1 | none => .st
def orF (a b : Rho → AH → Ot AV) : Rho → AH → Ot AV := fun ρ ah => (a ρ ah).bind fun x ah1 => match truF ah1 x with | some true => .ok x ah1 | some false => b ρ ah1 | none => .st
def notF (a : Rho → AH → Ot AV) : Rho → AH → Ot AV := f1 (fun ah x => (truF ah x).map fun b => .bl (!b)) a
theorem ev_and {a b : Expr} {rest : List Expr} {fa fb : Rho → AH → Ot AV} {pos : Pos} (ha : EV nm X Wx a fa) (hb : EV nm X Wx (.BoolOp .And (b :: rest) pos) fb) : EV nm X Wx (.BoolOp .And (a :: b :: rest) pos) (andF fa fb) := by
  refine PE.weak (pe_andT ha hb) fun σ H Q ⟨W, ρ, ah, rh, rs, p⟩ => ?_
  refine TrE.seq rh rs p fun x ah1 W1 H1 w s1 R1 S1 v1 p1 => ?_
  split at p1
  · rename_i e
    refine ⟨true, tru_of R1 v1 e, ?_⟩
    rw [if_pos rfl]
    exact ⟨W1, ρ, ah1, R1, S1, p1⟩
  · rename_i e
    refine ⟨false, tru_of R1 v1 e, ?_⟩
    rw [if_neg Bool.false_ne_true]
    exact p1 W1 H1 (Step.refl _ _) R1 w v1
  · exact False.elim p1
theorem ev_or {a b : Expr} {rest : List Expr} {fa fb : Rho → AH → Ot AV} {pos : Pos} (ha : EV nm X Wx a fa) (hb : EV nm X Wx (.BoolOp .Or (b :: rest) pos) fb) : EV nm X Wx (.BoolOp .Or (a :: b :: rest) pos) (orF fa fb) := by
  refine PE.weak (pe_orT ha hb) fun σ H Q ⟨W, ρ, ah, rh, rs, p⟩ => ?_
  refine TrE.seq rh rs p fun x ah1 W1 H1 w s1 R1 S1 v1 p1 => ?_
  split at p1
  · rename_i e
    refine ⟨true, tru_of R1 v1 e, ?_⟩
    rw [if_pos rfl]
    exact p1 W1 H1 (Step.refl _ _) R1 w v1
  · rename_i e
    refine ⟨false, tru_of R1 v1 e, ?_⟩
    rw [if_neg Bool.false_ne_true]
    exact ⟨W1, ρ, ah1, R1, S1, p1⟩
  · exact False.elim p1
theorem ev_one {op : BoolOp} {a : Expr} {fa : Rho → AH → Ot AV} {pos : Pos} (ha : EV nm X Wx a fa) : EV nm X Wx (.BoolOp op [a] pos) fa := pe_one ha
theorem ew_one {op : BoolOp} {a : Expr} {fa : Rho → AH → Ot Bool} {pos : Pos} (ha : ET nm X Wx a fa) : EW nm X Wx (.BoolOp op [a] pos) fa := by
  cases op with
  | And => exact pw_and1 ha
  | Or => exact pw_or1 ha
theorem ev_not {a : Expr} {fa : Rho → AH → Ot AV} {pos : Pos} (ha : EV nm X Wx a fa) : EV nm X Wx (.UnaryOp .Not a pos) (notF fa) := by
  refine PE.weak (pe_notT ha) fun σ H Q ⟨W, ρ, ah, rh, rs, p⟩ => ?_
  refine TrE.seq rh rs p fun x ah1 W1 H1 w s1 R1 S1 v1 p1 => ?_
  obtain ⟨c, e, k⟩ := p1.of
  simp only [Option.map_eq_some_iff] at e
  obtain ⟨b, e1, rfl⟩ := e
  exact ⟨b, tru_of R1 v1 e1, k W1 H1 (Step.refl _ _) R1 _ (.bl _)⟩
/-! what never comes to an end needs nothing -/
def dead {α : Type} : Rho → AH → Ot α := fun _ _ => .st
def deadS : Rho → AH → SR := fun _ _ => .st
theorem ev_dead {e : Expr} : EV nm X Wx e dead := ⟨fun pins s σ H Q I ⟨W, ρ, ah, rh, rs, p⟩ => False.elim p⟩
theorem et_dead {e : Expr} : ET nm X Wx e dead := ⟨fun pins s σ H Q I ⟨W, ρ, ah, rh, rs, p⟩ => False.elim p⟩
theorem es_dead {e : Stmt} : ES nm X Wx e deadS := ⟨fun pins s σ H Q I ⟨W, ρ, ah, rh, rs, p⟩ => False.elim p⟩

/-! name op= e -/
def iopF : Operator → AH → AV → AV → Option AV
  | .Add, _, .int i, .int j => some (.int (i + j))
  | .Sub, _, .int i, .int j => some (.int (i - j))
  | _, _, _, _ => none
theorem ip_F (op : Operator) : PIp X op (r2 nm X.K (iopF op)) := by
  rintro pins s σ H x y v u Q I r1 r2 ⟨W, ah, a, b, c, R, ra, rb, e, k⟩
  unfold iopF at e
  split at e
  · cases ra; cases rb; cases e
    exact ip_add pins s σ H _ _ v u Q I r1 r2 ⟨_, _, rfl, rfl, k W H _ (Step.refl _ _) R (.int _)⟩
  · cases ra; cases rb; cases e
    exact ip_sub pins s σ H _ _ v u Q I r1 r2 ⟨_, _, rfl, rfl, k W H _ (Step.refl _ _) R (.int _)⟩
  · cases e
def augF (i : Nat) (op : Operator) (a : Rho → AH → Ot AV) : Rho → AH → SR := fun ρ ah => match ρ[i]? with
  | some (some x) => (a ρ ah).to ρ fun y ah1 => match iopF op ah1 x y with | some z => .nx (ρ.set i (some z)) ah1 | none => .st
  | _ => .st
theorem es_aug {i : Nat} {x : Str} {e : Expr} {op : Operator} {pos pos' : Pos} {fa : Rho → AH → Ot AV} (hN : X.N.Nodup) (hi : X.N[i]? = some x) (hx : L2.Loc X.env.scope x) (hf : X.fn x = true ∨ X.env.scope.names.lookup x = some .local) (ha : EV nm X Wx e fa) : ES nm X Wx (.AugAssign (.Name x pos') op e pos) (augF i op fa) := by
  refine PS.weak (ps_aug hN hi hx ha (ip_F (nm := nm) op) hf) fun D σ H ⟨W, ρ, ah, rh, rs, p⟩ => ?_
  unfold augF at p
  split at p
  · rename_i v e
    obtain ⟨w, h1, h2⟩ := rs.get e
    refine ⟨w, h1, TrE.to rh rs p fun y ah1 W1 H1 w1 s1 R1 S1 r1 q => ?_⟩
    split at q
    · rename_i z ez
      exact ⟨W1, ah1, v, y, z, R1, h2.step s1, r1, ez, fun W' H' w' s2 R2 r2 => q W' H' _ s2 R2 ((S1.step s2).set r2 i)⟩
    · exact False.elim q
  · exact False.elim p

/-! o[i] = e of a list -/
def lstPut (ah : AH) : AV → AV → AV → Option AH
  | .ref n, .int k, v => match ah[n]? with | some (.lst xs) => (ixN xs.length k).map fun j => ah.set n (.lst (xs.set j v)) | _ => none
  | _, _, _ => none
def subF' (o i a : Rho → AH → Ot AV) : Rho → AH → SR := fun ρ ah => (a ρ ah).to ρ fun v ah1 => (o ρ ah1).to ρ fun x ah2 => (i ρ ah2).to ρ fun y ah3 => match lstPut ah3 x y v with | some ah4 => .nx ρ ah4 | none => .st
theorem es_sub {o i e : Expr} {p2 pos : Pos} {fo fi fa : Rho → AH → Ot AV} (ho : EV nm X Wx o fo) (hi : EV nm X Wx i fi) (ha : EV nm X Wx e fa) (hn : notLC e = true) (hsl : noSlice i = true) : ES nm X Wx (.Assign [.Subscript o i p2] e pos) (subF' fo fi fa) := by
  have hs : swapsWithSole [Expr.Subscript o i p2] e pos.line X.env = pure false := by cases e <;> first | rfl | exact absurd hn Bool.false_ne_true
  refine PS.weak (ps_asg ha (pg_sub ho hi set_list (fun v => by cases i <;> first | rfl | exact absurd hsl Bool.false_ne_true)) hs rfl) fun D σ H ⟨W, ρ, ah, rh, rs, p⟩ => ?_
  refine TrE.to rh rs p fun v ah1 W1 H1 w1 s1 R1 S1 r1 q1 => TrE.to R1 S1 q1 fun x ah2 W2 H2 w2 s2 R2 S2 r2 q2 => TrE.to R2 S2 q2 fun y ah3 W3 H3 w3 s3 R3 S3 r3 q3 => ?_
  split at q3
  · rename_i ah4 e
    unfold lstPut at e
    split at e
    · split at e
      · rename_i hn
        simp only [Option.map_eq_some_iff] at e
        obtain ⟨j, e1, rfl⟩ := e
        cases r3
        have r2' := r2.step s3
        cases r2' with
        | ref h =>
          obtain ⟨vs, h1, h2⟩ := R3.at h hn
          have r1' := (r1.step s2).step s3
          have st := Step.write (o := .lst (vs.set j w1)) R3 h
          exact ⟨_, vs, _, j, rfl, rfl, h1, by rw [h2.length]; exact e1, q3 W3 _ σ st (R3.write h ⟨_, upd_same, h2.set r1' j⟩) S3⟩
      · cases e
    · cases e
  · exact False.elim q3
end
end Ko

/-! Ko, part Mx: {} ; stores of several names at once. -/
namespace Ko
open PySem L2
def foldedAll (vs : List Expr) : Bool := vs.all (foldedForSure 8)
def constAll (vs : List Expr) : Bool := vs.all (constantsAlone 8)
def starAny (vs : List Expr) : Bool := vs.any fun | .Starred .. => true | _ => false
def swN (sc : Scope) (ts : List Expr) : List Str := ts.filterMap fun
    | .Name id pos => if sc.names.lookup id == some .local && pos.line == (ts.head?.map (·.pos.line)).getD 0 then some id else none
    | _ => none
/-- the stores of a target that is no swapped one -/
def noSwap (sc : Scope) : Expr → Expr → Bool
  | .Tuple ts _ _, .Tuple vs _ _ => !(ts.length == 2 || ts.length == 3) || (!starAny vs && ((swN sc ts).length != ts.length || foldedAll vs))
  | .List _ _, _ => false
  | _, _ => true
def isSwap (sc : Scope) : List Expr → List Expr → List Str → Bool
  | ts, vs, xs => (ts.length == 2 || ts.length == 3) && vs.length == ts.length && !starAny vs && decide (swN sc ts = xs) && xs.length == ts.length && xs.eraseDups.length == xs.length && !foldedAll vs && !constAll vs
theorem swap_eq {env : Env} {ts vs : List Expr} {x z : Nat} {y w : Pos} : swappedStores [.Tuple ts x y] (.Tuple vs z w) env =
    (if (!(ts.length == 2 || ts.length == 3) || vs.length != ts.length || env.blockKind != .function) = true then pure none else
    if starAny vs = true then pure none else
    if ((swN env.scope ts).length != ts.length || (swN env.scope ts).eraseDups.length != (swN env.scope ts).length) = true then pure none else
    if foldedAll vs = true then pure none else
    if constAll vs = true then (do unsupported "assign.tuple-of-constant-expressions:order-of-the-stores"; pure (some (swN env.scope ts))) else pure (some (swN env.scope ts))) := rfl
section
variable {nm : Nm} {X : Cx} {Wx : WX} {K : PySem.W.Frag}
theorem swaps_none {env : Env} {tg v : Expr} (hk : env.scope.kind = .function) (h : noSwap env.scope tg v = true) : swappedStores [tg] v env = pure none := by
  have hb : (env.blockKind != .function) = false := by unfold Env.blockKind; rw [hk]; rfl
  cases tg with
  | Tuple ts x y =>
    cases v with
    | Tuple vs z w =>
      unfold noSwap at h
      rw [swap_eq, hb, Bool.or_false]
      simp only [Bool.or_eq_true, Bool.and_eq_true, Bool.not_eq_true'] at h
      rcases h with h | ⟨h2, h3⟩
      · rw [h]; rfl
      · split
        · rfl
        · rw [if_neg (by rw [h2]; exact Bool.false_ne_true)]
          rcases h3 with h3 | h3
          · rw [h3]; rfl
          · split
            · rfl
            · first | rfl | rw [if_pos h3]
    | _ => rfl
  | List ts x => exact absurd h Bool.false_ne_true
  | _ => rfl
theorem swaps_some {env : Env} {ts vs : List Expr} {x z : Nat} {y w : Pos} {xs : List Str} (hk : env.scope.kind = .function) (h : isSwap env.scope ts vs xs = true) : swappedStores [.Tuple ts x y] (.Tuple vs z w) env = pure (some xs) := by
  have hb : (env.blockKind != .function) = false := by unfold Env.blockKind; rw [hk]; rfl
  unfold isSwap at h
  simp only [Bool.and_eq_true, Bool.not_eq_true', decide_eq_true_eq] at h
  obtain ⟨⟨⟨⟨⟨⟨⟨h1, h2⟩, h3⟩, h4⟩, h5⟩, h6⟩, h7⟩, h8⟩ := h
  have g2 : (vs.length != ts.length) = false := by rw [bne, h2]; rfl
  have g5 : (xs.length != ts.length) = false := by rw [bne, h5]; rfl
  have g6 : (xs.eraseDups.length != xs.length) = false := by rw [bne, h6]; rfl
  rw [swap_eq, hb, h1, g2, h3, h4, g5, g6, h7, h8]
  rfl
/-! the stores -/
theorem TrA.to {f : Rho → AH → Ot (List AV)} {k : List AV → AH → SR} {D : Ends} {σ : St} {H : Hp} {R : List V → Hp → Prop} {W : Wd} {ρ : Rho} {ah : AH} (rh : RelH K nm W ah H) (rs : RS K W ρ σ) (p : PoS K nm Wx W H D ((f ρ ah).to ρ k))
    (h : ∀ a ah1 W1 H1 w, Step W H W1 H1 → RelH K nm W1 ah1 H1 → RS K W1 ρ σ → W1.RVs K a w → PoS K nm Wx W1 H1 D (k a ah1) → R w H1) : TrA nm K Wx f σ H R :=
  ⟨W, ρ, ah, rh, rs, (PoS.to rs p).imp (fun a ah1 W1 H1 s R1 q w r => h a ah1 W1 H1 w s R1 (rs.step s) r q) fun _ _ _ _ _ _ q => q⟩
def parF2 (i j : Nat) (a : Rho → AH → Ot (List AV)) : Rho → AH → SR := fun ρ ah => (a ρ ah).to ρ fun xs ah1 => match xs with
  | [x, y] => .nx ((ρ.set i (some x)).set j (some y)) ah1
  | _ => .st
def parF3 (i j l : Nat) (a : Rho → AH → Ot (List AV)) : Rho → AH → SR := fun ρ ah => (a ρ ah).to ρ fun xs ah1 => match xs with
  | [x, y, z] => .nx (((ρ.set i (some x)).set j (some y)).set l (some z)) ah1
  | _ => .st
theorem es_par2 {i j : Nat} {x y : Str} {a b : Expr} {fa : Rho → AH → Ot (List AV)} {px py pt pos : Pos} {kt k2 pt2} (hc : X.calm = true) (hN : X.N.Nodup) (hi : X.N[i]? = some x) (hj : X.N[j]? = some y) (hij : i ≠ j)
    (hx : X.env.scope.names.lookup x = some .local) (hy : X.env.scope.names.lookup y = some .local) (ha : EA nm X Wx [a, b] fa) (hk : X.env.scope.kind = .function) (hw : isSwap X.env.scope [.Name x px, .Name y py] [a, b] [x, y] = true) :
    ES nm X Wx (.Assign [.Tuple [.Name x px, .Name y py] kt pt] (.Tuple [a, b] k2 pt2) pos) (parF2 i j fa) := by
  refine PS.weak (ps_par hc hN hi hj hij hx hy ha (swaps_some hk hw)) fun D σ H ⟨W, ρ, ah, rh, rs, p⟩ => TrA.to rh rs p fun xs ah1 W1 H1 vs s1 R1 S1 v1 q => ?_
  split at q
  · obtain ⟨w, v, rfl, r1, r2⟩ := rvs2 v1
    exact ⟨w, v, rfl, q W1 H1 _ (Step.refl _ _) R1 ((S1.set r1 _).set r2 _)⟩
  · exact False.elim q
theorem es_par3 {i j l : Nat} {x y z : Str} {a b c : Expr} {fa : Rho → AH → Ot (List AV)} {px py pz pt pos : Pos} {kt k2 pt2} (hc : X.calm = true) (hN : X.N.Nodup) (hi : X.N[i]? = some x) (hj : X.N[j]? = some y) (hl : X.N[l]? = some z) (hij : i ≠ j) (hil : i ≠ l) (hjl : j ≠ l)
    (hx : X.env.scope.names.lookup x = some .local) (hy : X.env.scope.names.lookup y = some .local) (hz : X.env.scope.names.lookup z = some .local) (ha : EA nm X Wx [a, b, c] fa) (hk : X.env.scope.kind = .function) (hw : isSwap X.env.scope [.Name x px, .Name y py, .Name z pz] [a, b, c] [x, y, z] = true) :
    ES nm X Wx (.Assign [.Tuple [.Name x px, .Name y py, .Name z pz] kt pt] (.Tuple [a, b, c] k2 pt2) pos) (parF3 i j l fa) := by
  refine PS.weak (ps_par3 hc hN hi hj hl hij hil hjl hx hy hz ha (swaps_some hk hw)) fun D σ H ⟨W, ρ, ah, rh, rs, p⟩ => TrA.to rh rs p fun xs ah1 W1 H1 vs s1 R1 S1 v1 q => ?_
  split at q
  · cases v1 with
    | cons r0 v1 =>
      obtain ⟨w, v, rfl, r1, r2⟩ := rvs2 v1
      exact ⟨_, w, v, rfl, q W1 H1 _ (Step.refl _ _) R1 (((S1.set r0 _).set r1 _).set r2 _)⟩
  · exact False.elim q
/-! {} that nobody changes -/
def dic0F : Rho → AH → Ot AV := fun _ ah => .ok (.dct []) ah
theorem ev_dic0 {pos : Pos} : EV nm X Wx (.Dict [] [] pos) dic0F := PE.weak pe_dnewK fun σ H Q ⟨W, ρ, ah, rh, rs, p⟩ l hl =>
  p (W.keep l (.dK [])) _ (Step.keep rh hl) (rh.keep hl) _ (.dct upd_same .nil)
end
end Ko

/-! Ko, part My: append; a list of one's own out of another. -/
namespace Ko
open PySem L2
def isRef : AV → Bool | .ref _ => true | _ => false
def lstApp (ah : AH) : AV → AV → Option AH
  | .ref n, v => match ah[n]? with | some (.lst xs) => if xs.length < sizeLine then some (ah.set n (.lst (xs ++ [v]))) else none | _ => none
  | _, _ => none
def isLstR (ah : AH) : AV → Bool
  | .ref n => match ah[n]? with | some (.lst _) => true | _ => false
  | _ => false
/-- o.append(e) -/
def appF (o a : Rho → AH → Ot AV) : Rho → AH → Ot AV := fun ρ ah => (o ρ ah).bind fun x ah1 => if isLstR ah1 x = true then (a ρ ah1).bind fun y ah2 => match lstApp ah2 x y with | some ah3 => .ok .non ah3 | none => .st else .st
def seqA (ah : AH) : AV → Option (List AV)
  | .tup xs => some xs
  | a => asL ah a
/-- list(e), to be changed -/
def lstMF (a : Rho → AH → Ot AV) : Rho → AH → Ot AV := fun ρ ah => (a ρ ah).bind fun x ah1 => match seqA ah1 x with | some xs => .ok (.ref ah1.length) (ah1 ++ [.lst xs]) | none => .st
section
variable {nm : Nm} {X : Cx} {Wx : WX} {K : PySem.W.Frag}
theorem ev_app {o e : Expr} {fo fa : Rho → AH → Ot AV} {apos cpos : Pos} (ho : EV nm X Wx o fo) (ha : EV nm X Wx e fa) (hb : plainBase o = true) (hl : (apos.endLine == cpos.line) = true) (hs : notSt e = true) :
    EV nm X Wx (.Call (.Attribute o "append" apos) [e] [] cpos) (appF fo fa) := by
  have hs1 : [e].all notSt = true := by simpa using hs
  refine PE.weak (pe_bm PySem.F.plainAttrs_list PySem.F.slot_list_append PySem.F.type_list_append mt_append ho (pa_cons ha pa_nil (star_cons hs)) (base_of hb) ?_ hl (star_cons hs) (star_plain _ _ rfl)) fun σ H Q ⟨W, ρ, ah, rh, rs, p⟩ => ?_
  · have h1 := star_plain cpos X.env hs1
    have h2 : (backTo cpos (starEach [e] X.env)).all (fun x => !x.1) = true := by
      rw [List.all_eq_true]
      intro y hy
      have := List.any_eq_false.mp h1 y hy
      simpa using this
    rw [h2]; rfl
  refine TrE.seqB rh rs p fun x ah1 W1 H1 w1 s1 R1 S1 v1 p1 => ?_
  split at p1
  · rename_i hx
    cases v1 with
    | ref h =>
      rename_i n a
      obtain ⟨xs0, e0⟩ : ∃ xs, ah1[n]? = some (.lst xs) := by
        simp only [isLstR] at hx
        split at hx
        · rename_i xs q; exact ⟨xs, q⟩
        · cases hx
      obtain ⟨vs0, h0, _⟩ := R1.at h e0
      refine ⟨.inl ⟨rfl, _, SqL.of h0⟩, ?_⟩
      refine TrE.seqB R1 S1 p1 fun y ah2 W2 H2 w2 s2 R2 S2 v2 p2 => ?_
      have h' : W2.io[n]? = some a := by
        have := (show W1.RV X.K (.ref n) (.ref a) from .ref h).step s2
        cases this with
        | ref q => exact q
      unfold lstApp at p2
      dsimp only at p2
      cases e2 : ah2[n]? with
      | none => rw [e2] at p2; exact False.elim p2
      | some ob =>
        cases ob with
        | dct _ => rw [e2] at p2; exact False.elim p2
        | ins _ _ => rw [e2] at p2; exact False.elim p2
        | lst xs =>
          rw [e2] at p2
          dsimp only at p2
          split at p2
          · rename_i ah3 q
            split at q
            · rename_i hz
              cases q
              obtain ⟨vs, h3, r3⟩ := R2.at h' e2
              have st := Step.write (o := .lst (vs ++ [w2])) R2 h'
              exact ⟨a, vs, w2, rfl, rfl, h3, by rw [r3.length]; exact hz, p2 W2 _ st (R2.write h' ⟨_, upd_same, r3.append (.cons v2 .nil)⟩) _ .non⟩
            · cases q
          · exact False.elim p2
    | _ => exact absurd hx Bool.false_ne_true
  · exact False.elim p1
theorem seqA_of {W : Wd} {ah : AH} {H : Hp} {a : AV} {w : V} {xs : List AV} (R : RelH K nm W ah H) (r : W.RV K a w) (e : seqA ah a = some xs) : ∃ p vs, w = .ref p ∧ (SqL K H p vs ∨ SqT K H p vs) ∧ W.RVs K xs vs := by
  unfold seqA at e
  split at e
  · cases e
    cases r with
    | tup h r => exact ⟨_, _, rfl, .inr (same_tup R.fz h), r⟩
  · obtain ⟨p, vs, rfl, h1, h2⟩ := asL_of R r e
    exact ⟨p, vs, rfl, .inl (.inl h1), h2⟩
theorem ev_lstMF {e : Expr} {fa : Rho → AH → Ot AV} {p pos : Pos} (hg : Gl X "list") (hm : X.mg "list" = none) (ha : EV nm X Wx e fa) (hs : notSt e = true) : EV nm X Wx (.Call (.Name "list" p) [e] [] pos) (lstMF fa) := by
  refine PE.weak (pe_callTy call_list_of hg hm (by decide +kernel) (pa_cons ha pa_nil (star_cons hs)) (by decide) (by decide) (star_cons hs) (star_plain _ _ rfl)) fun σ H Q ⟨W, ρ, ah, rh, rs, p⟩ => ?_
  refine TrE.seqB rh rs p fun x ah1 W1 H1 w1 s1 R1 S1 v1 p1 => ?_
  split at p1
  · rename_i xs q
    obtain ⟨a, vs, rfl, h1, h2⟩ := seqA_of R1 v1 q
    refine ⟨a, vs, rfl, h1, fun l hl => ?_⟩
    have st := Step.more (o := .lst vs) R1 hl
    refine p1 (W1.more l) _ st (R1.more hl ⟨vs, upd_same, h2.step st⟩) _ (.ref ?_)
    show (W1.io ++ [l])[ah1.length]? = some l
    rw [← R1.len]; simp
  · exact False.elim p1
/-- list(range(e)) -/
def lrgA : AV → Option AV
  | .int j => if -(2 ^ 62) ≤ j ∧ j ≤ 16777216 then some (.lst (rngL 0 j.toNat)) else none
  | _ => none
def lrgF (a : Rho → AH → Ot AV) : Rho → AH → Ot AV := fun ρ ah => (a ρ ah).bind fun x ah1 => Ot.of (lrgA x) ah1
theorem rvs_range {W : Wd} : ∀ l : List Nat, W.RVs K (l.map fun (i : Nat) => AV.int (0 + i)) (l.map fun (i : Nat) => V.int (0 + i))
  | [] => .nil
  | i :: r => .cons (.int _) (rvs_range r)
theorem ev_lrg {e : Expr} {fa : Rho → AH → Ot AV} {p p' pos pos' : Pos} (hc : X.calm = true) (hg : Gl X "list") (hm : X.mg "list" = none) (hg' : Gl X "range") (hm' : X.mg "range" = none) (ha : EV nm X Wx e fa) (hs : notSt e = true) :
    EV nm X Wx (.Call (.Name "list" p) [.Call (.Name "range" p') [e] [] pos'] [] pos) (lrgF fa) := by
  refine PE.weak (pe_listRg hc hg hm (prg_1 hg' hm' ha (star_cons hs)) (star_cons rfl)) fun σ H Q ⟨W, ρ, ah, rh, rs, p⟩ => ?_
  refine TrE.seqB rh rs p fun x ah1 W1 H1 w1 s1 R1 S1 v1 p1 => ?_
  obtain ⟨c, e, k⟩ := Post.of p1
  unfold lrgA at e
  split at e
  · cases v1
    split at e
    · rename_i j hj
      cases e
      refine ⟨j, rfl, ⟨by decide, by decide, by omega, by omega, by omega⟩, fun l hl => ?_⟩
      have st := Step.keep (o := .lst (rgV 0 j)) R1 hl
      refine k _ _ st (R1.keep hl) _ (.lst (Rd.of upd_same) ?_)
      have e1 : rgV 0 j = (List.range j.toNat).map fun (i : Nat) => V.int (0 + i) := by unfold rgV; rw [Int.sub_zero]
      rw [e1]
      exact rvs_range _
    · cases e
  · cases e
end
end Ko

/-! Ko, part Mz: dicts that change. -/
namespace Ko
open PySem L2
/-- in its place, or at the end -/
def putA (kvs : List (Key × AV)) (k : Key) (v : AV) : List (Key × AV) := if (kvs.any fun kv => decide (kv.1 = k)) = true then kvs.map (fun kv => if kv.1 = k then (kv.1, v) else kv) else kvs ++ [(k, v)]
section
variable {K : PySem.W.Frag} {fz : Hp} {io : List Addr}
theorem RKs.any {k : Key} : ∀ {kvs : List (Key × AV)} {ws : List (Key × V)}, RKs K fz io kvs ws → (kvs.any fun kv => decide (kv.1 = k)) = (ws.any fun kv => decide (kv.1 = k))
  | _, _, .nil => rfl
  | _, _, .cons r t => by simp only [List.any_cons, RKs.any t]
theorem RKs.snoc {k : Key} {x : AV} {w : V} (q : RV K fz io x w) : ∀ {kvs : List (Key × AV)} {ws : List (Key × V)}, RKs K fz io kvs ws → RKs K fz io (kvs ++ [(k, x)]) (ws ++ [(k, w)])
  | _, _, .nil => .cons q .nil
  | _, _, .cons r t => .cons r (RKs.snoc q t)
theorem RKs.mapped {k : Key} {x : AV} {w : V} (q : RV K fz io x w) : ∀ {kvs : List (Key × AV)} {ws : List (Key × V)}, RKs K fz io kvs ws → RKs K fz io (kvs.map fun kv => if kv.1 = k then (kv.1, x) else kv) (ws.map fun kv => if kv.1 = k then (kv.1, w) else kv)
  | _, _, .nil => .nil
  | (j, y) :: kvs, (_, u) :: ws, .cons r t => by
    simp only [List.map_cons]
    by_cases h : j = k
    · rw [if_pos h, if_pos h]; exact .cons q (RKs.mapped q t)
    · rw [if_neg h, if_neg h]; exact .cons r (RKs.mapped q t)
theorem RKs.put {k : Key} {x : AV} {w : V} {kvs : List (Key × AV)} {ws : List (Key × V)} (r : RKs K fz io kvs ws) (q : RV K fz io x w) : RKs K fz io (putA kvs k x) (putK ws k w) := by
  unfold putA putK
  rw [r.any (k := k)]
  by_cases h : (ws.any fun kv => decide (kv.1 = k)) = true
  · rw [if_pos h, if_pos h]; exact r.mapped q
  · rw [if_neg h, if_neg h]; exact r.snoc q
theorem RKs.lenW : ∀ {kvs : List (Key × AV)} {ws : List (Key × V)}, RKs K fz io kvs ws → ws.length = kvs.length
  | _, _, .nil => rfl
  | _, _, .cons _ t => by simp [RKs.lenW t]
theorem key_kV {W : Wd} {y : AV} {w : V} {k : Key} (r : W.RV K y w) (e : keyA y = some k) : w = kV k := by
  unfold keyA at e
  split at e
  · cases e; cases r; rfl
  · cases e; cases r; rfl
  · cases e
end
/-- dict(e), to be changed -/
def dictSrc (ah : AH) : AV → Option (List (Key × AV))
  | .dct kvs => some kvs
  | .ref n => match ah[n]? with | some (.dct kvs) => some kvs | _ => none
  | .lst [] => some []
  | .lst [.tup [k, v]] => (keyA k).map fun q => [(q, v)]
  | _ => none
def dicMF (a : Rho → AH → Ot AV) : Rho → AH → Ot AV := fun ρ ah => (a ρ ah).bind fun x ah1 => match dictSrc ah1 x with | some kvs => .ok (.ref ah1.length) (ah1 ++ [.dct kvs]) | none => .st
def putDA (ah : AH) : AV → AV → AV → Option AH
  | .ref n, y, v => match ah[n]? with | some (.dct kvs) => (keyA y).bind fun k => if kvs.length < sizeLine then some (ah.set n (.dct (putA kvs k v))) else none | _ => none
  | _, _, _ => none
def putDF (o i a : Rho → AH → Ot AV) : Rho → AH → SR := fun ρ ah => (a ρ ah).to ρ fun v ah1 => (o ρ ah1).to ρ fun x ah2 => (i ρ ah2).to ρ fun y ah3 => match putDA ah3 x y v with | some ah4 => .nx ρ ah4 | none => .st
section
variable {nm : Nm} {X : Cx} {Wx : WX} {K : PySem.W.Frag}
theorem RelH.atD {W : Wd} {ah : AH} {H : Hp} {n : Nat} {a : Addr} {kvs : List (Key × AV)} (R : RelH K nm W ah H) (h : W.io[n]? = some a) (e : ah[n]? = some (.dct kvs)) : ∃ ws, H a = some (.dK ws) ∧ RKs K W.fz W.io kvs ws := R.obj n a _ h e
theorem es_putD {o i e : Expr} {p2 pos : Pos} {fo fi fa : Rho → AH → Ot AV} (hu : X.A.units + 1 < cLine) (ho : EV nm X Wx o fo) (hi : EV nm X Wx i fi) (ha : EV nm X Wx e fa) (hn : notLC e = true) (hsl : noSlice i = true) : ES nm X Wx (.Assign [.Subscript o i p2] e pos) (putDF fo fi fa) := by
  have hs : swapsWithSole [Expr.Subscript o i p2] e pos.line X.env = pure false := by cases e <;> first | rfl | exact absurd hn Bool.false_ne_true
  refine PS.weak (ps_asg ha (pg_sub ho hi (set_dict hu) (fun v => by cases i <;> first | rfl | exact absurd hsl Bool.false_ne_true)) hs rfl) fun D σ H ⟨W, ρ, ah, rh, rs, p⟩ => ?_
  refine TrE.to rh rs p fun v ah1 W1 H1 w1 s1 R1 S1 r1 q1 => TrE.to R1 S1 q1 fun x ah2 W2 H2 w2 s2 R2 S2 r2 q2 => TrE.to R2 S2 q2 fun y ah3 W3 H3 w3 s3 R3 S3 r3 q3 => ?_
  split at q3
  · rename_i ah4 e
    unfold putDA at e
    split at e
    · rename_i n y' v'
      split at e
      · rename_i kvs hn
        simp only [Option.bind_eq_some_iff] at e
        obtain ⟨k, e1, e2⟩ := e
        split at e2
        · rename_i hl
          cases e2
          have r2' := r2.step s3
          cases r2' with
          | ref h =>
            obtain ⟨ws, h1, h2⟩ := R3.atD h hn
            have r1' := (r1.step s2).step s3
            have st := Step.write (o := .dK (putK ws k w1)) R3 h
            obtain rfl := key_kV r3 e1
            exact ⟨_, _, rfl, DPut.k h1 (by rw [h2.lenW]; exact hl), q3 W3 _ σ st (R3.write h ⟨_, upd_same, h2.put r1'⟩) S3⟩
        · cases e2
      · cases e
    · cases e
  · exact False.elim q3
theorem call_dic (hc : X.calm = true) : CallR X (.type "dict") (fun xs H Q => (∃ (a : Addr) (kvs : List (Key × V)), xs = [.ref a] ∧ Rd H a (.dK kvs) ∧ ∀ p, H p = none → Q (.ref p) (upd H p (.dK kvs))) ∨
    ∃ (a : Addr) (ps : List Addr) (kvs : List (Key × V)), xs = [.ref a] ∧ SqL X.K H a (ps.map V.ref) ∧ Paired (fun p kv => SqT X.K H p [kV kv.1, kv.2]) ps kvs ∧ ∀ p, H p = none → Q (.ref p) (upd H p (.dK (mergeK [] kvs)))) := fun pins s σ H xs us Q I r q =>
  q.elim (fun q => call_dictD pins s σ H xs us Q I r q) fun q => call_dictP hc pins s σ H xs us Q I r q
theorem ev_dicM {e : Expr} {fa : Rho → AH → Ot AV} {p pos : Pos} (hc : X.calm = true) (hg : Gl X "dict") (hm : X.mg "dict" = none) (ha : EV nm X Wx e fa) (hs : notSt e = true) : EV nm X Wx (.Call (.Name "dict" p) [e] [] pos) (dicMF fa) := by
  refine PE.weak (pe_callTy (call_dic hc) hg hm (by decide +kernel) (pa_cons ha pa_nil (star_cons hs)) (by decide) (by decide) (star_cons hs) (star_plain _ _ rfl)) fun σ H Q ⟨W, ρ, ah, rh, rs, p⟩ => ?_
  refine TrE.seqB rh rs p fun x ah1 W1 H1 w1 s1 R1 S1 v1 p1 => ?_
  split at p1
  · rename_i kvs q
    have fin : ∀ (l : Addr) (ws : List (Key × V)), H1 l = none → RKs X.K W1.fz W1.io kvs ws → Q (.ref l) (upd H1 l (.dK ws)) := fun l ws hl r => by
      have st := Step.more (o := .dK ws) R1 hl
      refine p1 (W1.more l) _ st (R1.more hl ⟨ws, upd_same, RKs.mono st.fz st.io r⟩) _ (.ref ?_)
      show (W1.io ++ [l])[ah1.length]? = some l
      rw [← R1.len]; simp
    unfold dictSrc at q
    split at q
    · cases q
      cases v1 with
      | dct h r => exact .inl ⟨_, _, rfl, .inl (R1.fz _ _ h), fun l hl => fin l _ hl r⟩
    · split at q
      · rename_i e1
        cases q
        cases v1 with
        | ref h =>
          obtain ⟨ws, h1, h2⟩ := R1.atD h e1
          exact .inl ⟨_, _, rfl, .inl h1, fun l hl => fin l _ hl h2⟩
      · cases q
    · cases q
      cases v1 with
      | lst h r =>
        cases r
        exact .inr ⟨_, [], [], rfl, .inl (same_rd R1.fz h), .nil, fun l hl => fin l _ hl .nil⟩
    · simp only [Option.map_eq_some_iff] at q
      obtain ⟨ky, e2, rfl⟩ := q
      cases v1 with
      | lst h r =>
        obtain ⟨v0, rfl, r0⟩ := rvs1 r
        cases r0 with
        | tup h' r' =>
          obtain ⟨u1, u2, rfl, r1, r2⟩ := rvs2 r'
          obtain rfl := key_kV r1 e2
          exact .inr ⟨_, [_], [(ky, u2)], rfl, .inl (same_rd R1.fz h), .cons (same_tup R1.fz h') .nil, fun l hl => fin l _ hl (.cons r2 .nil)⟩
    · cases q
  · exact False.elim p1
end
end Ko

/-! Ko, part Ea: an own exception over Exception whose __init__ calls its parent's and stores its fields. -/
namespace Ko
open PySem L2
abbrev exTl : List Value := [.type "Exception", .type "BaseException", .type "object"]
/-- what the top says of such a class -/
structure XCls (K : PySem.W.Frag) (C : Addr) : Prop where
  ini : PySem.W.excInitIn K C exTl "Exception.__new__" = true
  ovr : PySem.W.excOver K C exTl = true
  hdc : PySem.W.hasDictIn K C = true
  sta : PySem.W.findIn K (.ref C) "__setattr__" = some (some (.builtin "object.__setattr__"))
  exc : PySem.W.subIn K (.ref C) (.type "BaseException") = some true
  tyc : PySem.W.typeIn K (.ref C) = some (.type "type")
  kpc : PySem.W.keepIn K (.ref C) = true
def xclsB (K : PySem.W.Frag) (C : Addr) : Bool :=
  PySem.W.excInitIn K C exTl "Exception.__new__" && PySem.W.excOver K C exTl && PySem.W.hasDictIn K C && decide (PySem.W.findIn K (.ref C) "__setattr__" = some (some (.builtin "object.__setattr__"))) &&
    decide (PySem.W.subIn K (.ref C) (.type "BaseException") = some true) && decide (PySem.W.typeIn K (.ref C) = some (.type "type")) && PySem.W.keepIn K (.ref C)
theorem xcls_of {K : PySem.W.Frag} {C : Addr} (h : xclsB K C = true) : XCls K C := by
  unfold xclsB at h
  simp only [Bool.and_eq_true, decide_eq_true_eq] at h
  obtain ⟨⟨⟨⟨⟨⟨h1, h2⟩, h3⟩, h4⟩, h5⟩, h6⟩, h7⟩ := h
  exact ⟨h1, h2, h3, h4, h5, h6, h7⟩
open PySem.W PyProof.Rows Builtin Builtin.ObjectAttr in
section
variable {prog : Program} {w : World} {A : Around} {R : Result → Shared → Prop} {hp : Heap} {g : Array GenState} {d : Drawn} {t : Nat} {os : OsState} {K : PySem.W.Frag} {C x : Addr} {fv : Array Value} {name : Str} {tk : Tok} {v : Value}
theorem xst_open {ox : Obj} {od : Option Obj} (T : XCls K C) (X : K.In hp) (I : PySem.W.InstAt hp x ox C od) (ha : PySem.W.findIn K (.ref C) name = some none)
    (h : ∀ b, wpAny (model prog w) A.in1 (storeInOwnDict (.ref x) (.ref C) (.str name tk) name v b) (fun fin s' => match fin with | .done f => R (.ok f) s' | .again c' => c'.quiet = true ∧ codeAny (model prog w) A c' R s') (fun e s' => R (.error e) s') ⟨hp, g, d, t, os⟩) :
    codeAny (model prog w) A (.call (.builtin "object.__setattr__") ⟨[.ref x, .str name tk, v], []⟩) R ⟨hp, g, d, t, os⟩ :=
  PySem.W.osa_openX (r := none) PySem.F.store_Exception X I T.ovr (by unfold PySem.W.takerIn; rw [ha]; rfl) h
theorem xcls_cd (T : XCls K C) : ∃ cd, PySem.W.clsIn K C = some cd ∧ cd.hasDict = true := by
  have := T.hdc
  unfold PySem.W.hasDictIn at this
  obtain ⟨cd, h1, h2⟩ := PySem.W.any_some this
  exact ⟨cd, h1, h2⟩
theorem xst_new (T : XCls K C) (X : K.In hp) (hx : hp.get? x = some { cls := .ref C, data := .fields fv }) (ha : PySem.W.findIn K (.ref C) name = some none)
    (hq : ∀ h' tk' dx, (∀ b o, b ≠ x → hp.get? b = some o → h'.get? b = some o) → hp.objs.size ≤ dx → dx ≠ x → h'.get? x = some { cls := .ref C, dict := some dx, data := .fields fv } → h'.Ns1 dx (fun y => if y = name then some v else none) → R (.ok (.ret .none)) ⟨h', g, d, tk', os⟩) :
    codeAny (model prog w) A (.call (.builtin "object.__setattr__") ⟨[.ref x, .str name tk, v], []⟩) R ⟨hp, g, d, t, os⟩ := by
  have hxs : x ≠ hp.objs.size := Nat.ne_of_lt (Heap.lt_size hx)
  obtain ⟨cd, hc, hd⟩ := xcls_cd T
  refine xst_open T X (od := none) ⟨hx, rfl, rfl, trivial⟩ ha fun b => ?_
  have hcls : PySem.W.Looks (model prog w) hp (classData C) cd := PySem.W.looks_clsIn X hc
  obtain ⟨nm, bs, mro, ns, qn, hd', sn, sb, ab, col, del⟩ := cd
  dsimp only at hd
  subst hd
  unfold storeInOwnDict ownDictForStores
  repeat (first | with_reducible refine HandSPX.store_in_new ?_ ?_ | with_reducible refine wpAny_loadPart_at hx ?_ | with_reducible refine hcls.at ?_ | wp_step)
  · exact ⟨_, #[], _, (Heap.get?_update_ne _ _ _ _ hxs.symm).trans (Heap.get?_push_at rfl rfl), rfl, fun e he => absurd he (by simp), fun _ => rfl⟩
  · intro h' tk' hn' hs
    have hx1 : (hp.push { cls := .type "dict", data := .dict #[] }).get? x = some { cls := .ref C, data := .fields fv } := Heap.get?_push_of_some _ hx
    exact hq h' tk' hp.objs.size (fun b o hb ho => (hs.2 b (Nat.ne_of_lt (Heap.lt_size ho))).trans ((Heap.get?_update_ne _ _ _ _ hb).trans (Heap.get?_push_of_some _ ho))) (Nat.le_refl _) hxs.symm ((hs.2 x hxs).trans (Heap.get?_update_self _ hx1 rfl)) hn'
theorem xst_old {dx : Addr} {m0 : Str → Option Value} {nl : List Str} (T : XCls K C) (X : K.In hp) (hx : hp.get? x = some { cls := .ref C, dict := some dx, data := .fields fv }) (hns : hp.Ns1 dx m0) (hw : Within m0 nl) (hz : nl.length ≤ 1000) (ha : PySem.W.findIn K (.ref C) name = some none)
    (hq : ∀ h' tk', (∀ b o, b ≠ dx → hp.get? b = some o → h'.get? b = some o) → h'.Ns1 dx (fun y => if y = name then some v else m0 y) → R (.ok (.ret .none)) ⟨h', g, d, tk', os⟩) :
    codeAny (model prog w) A (.call (.builtin "object.__setattr__") ⟨[.ref x, .str name tk, v], []⟩) R ⟨hp, g, d, t, os⟩ := by
  obtain ⟨oD, _, _, hoD, _, _⟩ := hns.count hw
  obtain ⟨cd, hc, hd⟩ := xcls_cd T
  refine xst_open T X (od := some oD) ⟨hx, rfl, rfl, hoD⟩ ha fun b => ?_
  have hcls : PySem.W.Looks (model prog w) hp (classData C) cd := PySem.W.looks_clsIn X hc
  obtain ⟨nm, bs, mro, ns, qn, hd', sn, sb, ab, col, del⟩ := cd
  dsimp only at hd
  subst hd
  unfold storeInOwnDict ownDictForStores
  repeat (first | with_reducible refine PySem.OEX.store_in_old hns hw hz ?_ | with_reducible refine wpAny_loadPart_at hx ?_ | with_reducible refine hcls.at ?_ | wp_step)
  intro h' tk' hn' hs
  exact hq h' tk' (fun b o hb ho => (hs.2 b hb).trans ho) hn'
end
end Ko

/-! Ko, part Eb: self.f = y on an exception that is being made; the parent's __init__; C(e, ..). -/
namespace Ko
open PySem L2 PySem.Spec
section
variable {X : Cx} {pins : List (Addr × Obj)} {σ : St} {H : Hp} {s : Shared} {a C dx : Addr} {f : Str} {y : V} {u : Value} {fs : List (Str × V)} {Q : Unit → Shared → Prop} {E : Value → Shared → Prop} {A : Around}
theorem xo_new (T : XCls X.K C) (I : Inv X pins σ H s) (ea : H a = some (exo a C none)) (nof : PySem.W.findIn X.K (.ref C) f = some none) (ry : RelV y u)
    (k : ∀ b s', H b = none → b ≠ a → Inv X pins σ (upd (upd H b (exd b [(f, y)])) a (exo a C (some b))) s' → Q () s') : wpAny (model X.prog X.w) A (setAttr (.ref a) f u) Q E s := by
  obtain ⟨t1, at1⟩ := exo_at I.hok ea
  obtain ⟨hp, gs, dr, tk, os⟩ := s
  refine PySem.W.set_plain I.kIn (ox := { cls := .ref C, dict := none, data := .fields #[.ref t1, .none, .none, .none, .bool false, .none] }) (od := none) ⟨at1, rfl, rfl, trivial⟩ T.sta (xst_new T I.kIn at1 nof fun h2 tk2 b kp big bne xat ns => ?_)
  have bn : H b = none := I.hok.fresh big
  have neb : ∀ {c : Addr} {o : Obj}, hp.get? c = some o → c ≠ b := fun {c o} z => Nat.ne_of_lt (Nat.lt_of_lt_of_le (Heap.lt_size z) big)
  have nea : ∀ {c : Addr}, H c = none → c ≠ a := fun {c} n z => by subst z; rw [ea] at n; cases n
  refine k b _ bn bne (I.un (t' := tk2) (⟨fun c o z n _ _ => kp c o (nea n) z, fun c o z n _ _ => ⟨o.slots, kp c o (nea n) z⟩, fun c o z n _ => by rw [upd_ne (nea n), upd_ne (neb z)]; exact n, fun c o z _ => ?_, fun c xs z => by rw [upd_ne (at_ne ea z exo_tup), upd_ne (ne_of_none z bn)]; exact z,
    fun c o v z => by rw [upd_ne (at_ne ea z exo_frz), upd_ne (ne_of_none z bn)]; exact z, fun c ps z => ⟨#[], by rw [upd_ne (at_ne ea z exo_tbl), upd_ne (ne_of_none z bn), z]; simp⟩⟩ : Un X.fs [] H (upd (upd H b (exd b [(f, y)])) a (exo a C (some b))) hp h2) fun c o z => ?_)
  · by_cases hc : c = a
    · subst hc; exact ⟨_, xat⟩
    · exact ⟨o, kp c o hc z⟩
  · by_cases hc : c = a
    · subst hc
      rw [upd_same] at z
      cases z
      exact exo_ok xat
    · rw [upd_ne hc] at z
      by_cases hb : c = b
      · subst hb
        rw [upd_same] at z
        cases z
        exact exd_ok ns (relO_put (fs := []) ry fun _ => True.intro)
      · rw [upd_ne hb] at z
        refine (I.hok c o z).stay (fun p v q r => kp p v (q.elim (fun q => by rw [q]; exact hc) fun q => at_ne ea q exo_own) r) (fun p q => ?_) fun p xs q => ?_
        · rw [upd_ne (at_ne ea q exo_own), upd_ne (ne_of_none q bn)]; exact q
        · rw [upd_ne (at_ne ea q exo_tup), upd_ne (ne_of_none q bn)]; exact q
theorem xo_old (T : XCls X.K C) (I : Inv X pins σ H s) (ea : H a = some (exo a C (some dx))) (ed : H dx = some (exd dx fs)) (few : fs.length ≤ 900) (nof : PySem.W.findIn X.K (.ref C) f = some none) (ry : RelV y u)
    (k : ∀ s', Inv X pins σ (upd H dx (exd dx ((f, y) :: fs))) s' → Q () s') : wpAny (model X.prog X.w) A (setAttr (.ref a) f u) Q E s := by
  obtain ⟨t1, at1⟩ := exo_at I.hok ea
  obtain ⟨m, ns, rel⟩ := exd_at I.hok ed
  have wi := within_of rel
  obtain ⟨hp, gs, dr, tk, os⟩ := s
  obtain ⟨oD, _, _, atD, _, _⟩ := ns.count wi
  refine PySem.W.set_plain I.kIn (ox := { cls := .ref C, dict := some dx, data := .fields #[.ref t1, .none, .none, .none, .bool false, .none] }) (od := some oD) ⟨at1, rfl, rfl, atD⟩ T.sta (xst_old T I.kIn at1 ns wi (by rw [List.length_map]; omega) nof fun h2 tk2 kp ns2 => ?_)
  have there : ∃ o, h2.get? dx = some o := let ⟨o, _, _, z, _⟩ := ns2; ⟨o, z⟩
  exact k _ (I.write (t' := tk2) (x := dx) (e := dx) (o := exd dx ((f, y) :: fs)) (by rw [ed]; exact True.intro) (.inl rfl) kp there (exd_ok ns2 (relO_put ry rel)))
/-- Exception.__init__(self, ..) -/
theorem xo_init {us : List Value} {Q : Value → Shared → Prop} (T : XCls X.K C) (I : Inv X pins σ H s) (ea : H a = some (exo a C none)) (few : us.length ≤ sizeLine) (k : ∀ s', Inv X pins σ H s' → Q .none s') :
    wpAny (model X.prog X.w) A (call (.builtin "Exception.__init__") (.ref a :: us)) Q E s := by
  obtain ⟨nm, N, qn, bs, bm, hd, sn, sub, ab, col, dd, k0, k1, k2, k3, k5, atC, tl⟩ := PySem.W.excInit_of I.kIn T.ini
  obtain ⟨t1, at1⟩ := exo_at I.hok ea
  obtain ⟨hp, gs, dr, tk, os⟩ := s
  refine wpAny_call (PySem.HandSPX.init_base PySem.F.excBase_Exception tl atC at1 few fun h2 t2 kp xat => ?_)
  have J := I.write (t' := tk) (x := a) (e := a) (o := exo a C none) (by rw [ea]; exact True.intro) (.inl rfl) kp ⟨_, xat⟩ (exo_ok xat)
  have same : upd H a (exo a C none) = H := funext fun b => by
    by_cases hb : b = a
    · rw [hb, upd_same, ea]
    · rw [upd_ne hb]
  rw [same] at J
  exact k _ J
end
/-- B.__init__(self, ..) -/
def tXini (K : PySem.W.Frag) (ta : TA) : TE := fun σ H Q => ta σ H fun vs H1 => ∃ (a C : Addr) (ws : List V), vs = .ref a :: ws ∧ ws.length ≤ 1000 ∧ XCls K C ∧ H1 a = some (exo a C none) ∧ Q .non H1
/-- self.f = e -/
def tXst (K : PySem.W.Frag) (f : Str) (to te : TE) : TS := fun D σ H => te σ H fun y H1 => to σ H1 fun x H2 => ∃ a C : Addr, x = .ref a ∧ XCls K C ∧ PySem.W.findIn K (.ref C) f = some none ∧
  ((H2 a = some (exo a C none) ∧ ∀ b, H2 b = none → b ≠ a → D.nx σ (upd (upd H2 b (exd b [(f, y)])) a (exo a C (some b)))) ∨
    ∃ (b : Addr) (fs : List (Str × V)), H2 a = some (exo a C (some b)) ∧ H2 b = some (exd b fs) ∧ fs.length ≤ 900 ∧ D.nx σ (upd H2 b (exd b ((f, y) :: fs))))
/-- the parent's class, as the text reads it -/
structure XPar (K : PySem.W.Frag) (B : Addr) : Prop where
  rd : PySem.W.readsIn K B (.type "type") = true
  ga : PySem.W.specialIn K (.ref B) "__getattribute__" = some (some (.builtin "type.__getattribute__"))
  at_ : PySem.W.findCls K (.ref B) (.type "type") "__init__" = some (.val (.builtin "Exception.__init__"))
section
variable {M : Model} {A : Around} {E : Value → Shared → Prop} {s : Shared} {env : Env}
/-- o.name(args): the object, the method, the call -/
theorem wp_meth {o : Expr} {name : Str} {ap cp : Pos} {args : List Expr} {Q : Value → Shared → Prop} (hb : plainBase o = true) (hl : (ap.endLine == cp.line) = true) (hs : args.all notSt = true) (few : args.length < 29)
    (h : wpAny M A (eval o env) (fun ov s1 => ∀ pl, wpAny M A (getMethod ov name pl) (fun fr s2 => wpAny M A (callWith cp fr.1 fr.2 (backTo cp (starEach args env)) []) Q E s2) E s1) E s) :
    wpAny M A (eval (.Call (.Attribute o name ap) args [] cp) env) Q E s := by
  rw [arm_eval_Call, base_of hb]
  refine wpAny_bind (wpAny_mono h (fun ov s1 h1 => wpAny_bind (wpAny_standAt ?_)) fun _ _ e => e)
  have g1 := star_plain cp env hs
  have g2 : (backTo cp (starEach args env)).all (fun x => !x.1) = true := List.all_eq_true.mpr fun y hy => by simpa using List.any_eq_false.mp g1 y hy
  have form : methodCallForm (args.length + ([] : List Keyword).length) (backTo cp (starEach args env)) (backToKw cp (keywordEach [] env)) = true := by
    show ((backTo cp (starEach args env)).all (fun x => !x.1) && (backToKw cp (keywordEach [] env)).all (fun x => x.1.isSome) && decide (args.length + ([] : List Keyword).length + (if ([] : List Keyword).isEmpty then 0 else 1) < 30)) = true
    rw [g2]
    simp [keywordEach, backToKw]
    omega
  unfold methodCall
  rw [form]
  refine wpAny_bind (wpAny_holding (wpAny_mono (h1 _) (fun fr s2 h2 => ?_) fun _ _ e => e))
  have at1 : methodCallPos true o env ap cp = pure cp := by unfold methodCallPos; simp [hl]
  rw [at1]
  exact wpAny_bind (wpAny_pure h2)
end
section
variable {X : Cx} {o e : Expr} {es : List Expr} {to te : TE} {ta : TA} {f x : Str} {B : Addr} {p p' p1 p2 pos : Pos}
theorem pe_xini (P : XPar X.K B) (hg : Gl X x) (hm : X.mg x = some (.ref B)) (ha : PA X (e :: es) ta) (hdb : (x == ("__debug__" : Str)) = false) (hl : (p2.endLine == pos.line) = true) (hs : (e :: es).all notSt = true) (few : (e :: es).length < 29) :
    PE X (.Call (.Attribute (.Name x p1) "__init__" p2) (e :: es) [] pos) (tXini X.K ta) := by
  refine ⟨fun pins s σ H Q I h => wp_meth rfl hl hs few (ld_glob I hg hm (fun pl => PySem.W.method_cls I.kIn P.ga (PySem.W.cls_value I.kIn P.rd P.at_ rfl ?_)) hdb)⟩
  rw [List.all_cons, Bool.and_eq_true] at hs
  show wpAny _ _ (callWith pos (Value.builtin "Exception.__init__") [] (backTo pos (starEach (e :: es) X.env)) []) _ _ _
  refine PyProof.Rows.callWith_method1 (thn (ha.run pos pins _ σ H _ (I.tok _) h) fun us s1 ⟨vs, H1, I1, r1, a, C, ws, ev, few, T, ea, q⟩ => ?_) (star_cons hs.1) (star_plain _ _ hs.2)
  subst ev
  cases r1 with
  | @cons _ u0 _ ur ra rw' =>
    obtain rfl : u0 = Value.ref a := ra
    exact xo_init T I1 ea (by rw [← Paired.length rw', sizeLine_eq]; omega) fun s' J => ⟨.non, H1, J, rfl, q⟩
theorem ps_xst (ho : PE X o to) (he : PE X e te) (hs : swapsWith e (some (.Attribute o f p')) pos.line X.env = pure false := by rfl) : PS X (.Assign [.Attribute o f p'] e pos) (tXst X.K f to te) := by
  refine ⟨fun pins s σ H D I h => plainObj_wpAny_Assign_Attribute (thn (he.run pins s σ H _ I h) fun v s1 ⟨y, H1, I1, r1, q1⟩ => thn (ho.run pins s1 σ H1 _ I1 q1) fun u s2 ⟨z, H2, I2, r2, a, C, ez, T, nof, q⟩ => ?_) hs⟩
  subst ez
  obtain rfl : u = Value.ref a := r2
  rcases q with ⟨ea, q⟩ | ⟨b, fs, ea, ed, few, q⟩
  · exact xo_new T I2 ea nof r1 fun b s' n ne J => ⟨σ, _, J, q b n ne⟩
  · exact xo_old T I2 ea ed few nof r1 fun s' J => ⟨σ, _, J, q⟩
end
end Ko

/-! Ko, part Ec: the __init__ of an error with one field or two; the error made. -/
namespace Ko
open PySem L2 PySem.Spec
/-- what an __init__ does that stores the fields fl -/
def spX (K : PySem.W.Frag) : List Str → Sp
  | [f] => fun vs H Q _ => ∃ (a C : Addr) (y : V), vs = [.ref a, y] ∧ XCls K C ∧ PySem.W.findIn K (.ref C) f = some none ∧ H a = some (exo a C none) ∧ ∀ b, H b = none → b ≠ a → Q .non (upd (upd H b (exd b [(f, y)])) a (exo a C (some b)))
  | [f, g] => fun vs H Q _ => ∃ (a C : Addr) (y z : V), vs = [.ref a, y, z] ∧ XCls K C ∧ PySem.W.findIn K (.ref C) f = some none ∧ PySem.W.findIn K (.ref C) g = some none ∧ H a = some (exo a C none) ∧
      ∀ b, H b = none → b ≠ a → Q .non (upd (upd (upd H b (exd b [(f, y)])) a (exo a C (some b))) b (exd b [(g, z), (f, y)]))
  | _ => fun _ _ _ _ => False
/-- the body of such an __init__ -/
def xBody (B : Str) (N : List Str) (fl : List Str) : List Stmt → Bool
  | .Expr (.Call (.Attribute (.Name x _) n p2) [.Name s _, .Constant (.str _) _ _] [] pos) _ :: r => decide (x = B) && (p2.endLine == pos.line) && decide (n = "__init__") && decide (s = "self") &&
    (match fl, r with
      | [f], [.Assign [.Attribute (.Name s1 _) f1 _] (.Name g1 _) _] => decide (s1 = "self") && decide (f1 = f) && decide (N = [("self" : Str), g1]) && !(g1 == ("__debug__" : Str)) && !(g1 == ("__classdict__" : Str))
      | [f, f'], [.Assign [.Attribute (.Name s1 _) f1 _] (.Name g1 _) _, .Assign [.Attribute (.Name s2 _) f2 _] (.Name g2 _) _] => decide (s1 = "self") && decide (f1 = f) && decide (s2 = "self") && decide (f2 = f') && decide (N = [("self" : Str), g1, g2]) &&
        !(g1 == ("__debug__" : Str)) && !(g1 == ("__classdict__" : Str)) && !(g2 == ("__debug__" : Str)) && !(g2 == ("__classdict__" : Str))
      | _, _ => false)
  | _ => false
def xScope (B : Str) (N : List Str) (sc : Scope) : Bool := isGl sc B && !(B == ("__debug__" : Str)) && N.all (isVis sc)
section
variable {P : Program} {w : World} {K : PySem.W.Frag} {mg : Str → Option Value} {base : Heap}
theorem gl_of {sc : Scope} {x : Str} (h : isGl sc x = true) : ∀ {X : Cx}, X.env.scope = sc → Gl X x := fun {X} e => by
  unfold isGl at h
  subst e
  split at h
  · rename_i e; exact e
  · exact absurd h Bool.false_ne_true
theorem vis_of {sc : Scope} {x : Str} (h : isVis sc x = true) : Vis sc x := by
  unfold isVis at h
  split at h
  · rename_i e; exact .inl e
  · rename_i e; exact .inr (.inl e)
  · rename_i e; exact .inr (.inr e)
  · exact absurd h Bool.false_ne_true
theorem x_init {qual : Str} {st : Stmt} {fa BA : Addr} {fd : FuncData} {N : List Str} {B : Str} {fl : List Str} (F : Fun K "__init__" qual st fa fd) (S : FnScope N N (defScope st)) (hb : xBody B N fl (defBody st) = true) (hs : xScope B N (defScope st) = true)
    (P' : XPar K BA) (hm : mg B = some (.ref BA)) : FnOk P w K mg base CX0 1 fa fd N (spX K fl) := by
  unfold xScope at hs
  simp only [Bool.and_eq_true, List.all_eq_true, Bool.not_eq_true'] at hs
  obtain ⟨⟨hg, hdb⟩, hv⟩ := hs
  unfold xBody at hb
  split at hb
  case h_2 => cases hb
  rename_i x _ n p2 s _ msg j _ pos _ r eb
  simp only [Bool.and_eq_true, decide_eq_true_eq] at hb
  obtain ⟨⟨⟨⟨rfl, hln⟩, rfl⟩, rfl⟩, hb⟩ := hb
  split at hb
  · rename_i f s1 _ f1 _ g1 _ _ er
    simp only [Bool.and_eq_true, decide_eq_true_eq, Bool.not_eq_true'] at hb
    obtain ⟨⟨⟨⟨rfl, rfl⟩, rfl⟩, hd1⟩, hc1⟩ := hb
    refine Fun.ok F S (fun vs H Q E ⟨a, C, y, e, _⟩ => by rw [e]; rfl) fun cdv A outer s H vs Q E hr ⟨a, C, y, e, T, nof, ea, k⟩ => ?_
    subst e
    rw [eb]
    refine ⟨_, pss_cons (ps_expr (pe_xini P' (gl_of hg rfl) hm (pa_cons (pe_var (i := 0) rfl (vis_of (hv _ (by simp)))) (pa_cons pe_str pa_nil)) hdb hln rfl (by show 2 < 29; decide))) (pss_cons (ps_xst (pe_var (i := 0) rfl (vis_of (hv _ (by simp)))) (pe_var (i := 1) rfl (vis_of (hv _ (by simp))) hd1 hc1)) pss_nil), ?_⟩
    exact ⟨_, rfl, a, C, _, rfl, by show 1 ≤ 1000; decide, T, ea, y, rfl, _, rfl, a, C, rfl, T, nof, .inl ⟨ea, k⟩⟩
  · rename_i f f' s1 _ f1 _ g1 _ _ s2 _ f2 _ g2 _ _ er
    simp only [Bool.and_eq_true, decide_eq_true_eq, Bool.not_eq_true'] at hb
    obtain ⟨⟨⟨⟨⟨⟨⟨⟨rfl, rfl⟩, rfl⟩, rfl⟩, rfl⟩, hd1⟩, hc1⟩, hd2⟩, hc2⟩ := hb
    refine Fun.ok F S (fun vs H Q E ⟨a, C, y, z, e, _⟩ => by rw [e]; rfl) fun cdv A outer s H vs Q E hr ⟨a, C, y, z, e, T, nof, nog, ea, k⟩ => ?_
    subst e
    rw [eb]
    refine ⟨_, pss_cons (ps_expr (pe_xini P' (gl_of hg rfl) hm (pa_cons (pe_var (i := 0) rfl (vis_of (hv _ (by simp)))) (pa_cons pe_str pa_nil)) hdb hln rfl (by show 2 < 29; decide))) (pss_cons (ps_xst (pe_var (i := 0) rfl (vis_of (hv _ (by simp)))) (pe_var (i := 1) rfl (vis_of (hv _ (by simp))) hd1 hc1))
      (pss_cons (ps_xst (pe_var (i := 0) rfl (vis_of (hv _ (by simp)))) (pe_var (i := 2) rfl (vis_of (hv _ (by simp))) hd2 hc2)) pss_nil)), ?_⟩
    exact ⟨_, rfl, a, C, _, rfl, by show 1 ≤ 1000; decide, T, ea, y, rfl, _, rfl, a, C, rfl, T, nof, .inl ⟨ea, fun b nb ne => ⟨z, rfl, _, rfl, a, C, rfl, T, nog, .inr ⟨b, [(_, y)], upd_same, by rw [upd_ne ne]; exact upd_same, by show 1 ≤ 900; decide, k b nb ne⟩⟩⟩⟩
  · cases hb
end
end Ko

/-! Ko, part Ed: an error made and raised. -/
namespace Ko
open PySem L2 PySem.Spec
section
variable {X : Cx} {e : Expr} {es : List Expr} {ta : TA} {x : Str} {p pos : Pos} {C fI : Addr} {fd : FuncData} {ps : List Str} {sp : Sp} {k : Nat}
theorem pmk_xc (T : XCls X.K C) (iC : PySem.W.findIn X.K (.ref C) "__init__" = some (some (.ref fI))) (tI : PySem.W.typeIn X.K (.ref fI) = some (.type "function")) (F1 : FnOk X.prog X.w X.K X.mg X.base CX0 k fI fd ps sp) (hr : Room (k + 1) X.A) (hb : Binds X.K fd ps [])
    (hg : Gl X x) (hm : X.mg x = some (.ref C)) (ha : PA X (e :: es) ta) (hdb : (x == ("__debug__" : Str)) = false) (hs : (e :: es).all notSt = true) : PMk X (.Call (.Name x p) (e :: es) [] pos) (tMkO C sp [] ta) := by
  intro pins s σ H Q I h
  rw [List.all_cons, Bool.and_eq_true] at hs
  refine wpAny_Call_Name_kw (ld_glob I hg hm ?_ hdb)
  refine PySem.W.callWith_K (h₀ := X.base) I.ok.mod.kin T.kpc (thn (ha.run pos pins s σ H _ I h) fun us s1 ⟨vs, H1, I1, r1, few, q1⟩ => ⟨I1.kIn, ?_⟩) (star_cons hs.1) (star_plain _ _ hs.2)
  rw [List.append_nil] at q1
  show wpAny _ _ (call (.ref C) us) _ _ _
  obtain ⟨nm, N, qn, bs, bm, hd, sn, sub, ab, col, dd, k0, k1, k2, k3, k5, atC, tl⟩ := PySem.W.excInit_of I1.kIn T.ini
  obtain ⟨hp, gs, dr, tk, os⟩ := s1
  have big : hp.objs.size ≤ hp.objs.size + 1 := Nat.le_succ _
  have hn : H1 (hp.objs.size + 1) = none := I1.hok.fresh big
  have q2 := q1 (hp.objs.size + 1) hn
  have kk : ∀ b o, hp.get? b = some o → ((hp.push (PySem.W.kdv_tup us)).push (PySem.HandSPX.excO C hp.objs.size)).get? b = some o := fun b o z => Heap.get?_push_of_some _ (Heap.get?_push_of_some _ z)
  have xat : ((hp.push (PySem.W.kdv_tup us)).push (PySem.HandSPX.excO C hp.objs.size)).get? (hp.objs.size + 1) = some (PySem.HandSPX.excO C hp.objs.size) := by heap_get
  have I2 := I1.laid (t' := tk) (a := hp.objs.size + 1) (o := exo (hp.objs.size + 1) C none) (h' := (hp.push (PySem.W.kdv_tup us)).push (PySem.HandSPX.excO C hp.objs.size)) kk big (exo_ok xat)
  have r2 : Vals (V.ref (hp.objs.size + 1) :: vs) (Value.ref (hp.objs.size + 1) :: us) := .cons rfl r1
  have hl : (Value.ref (hp.objs.size + 1) :: us ++ []).length = ps.length := by
    rw [List.append_nil, ← r2.length, F1.len _ _ _ _ q2]
  have hus : us.length ≤ sizeLine := by
    rw [← Paired.length r1, sizeLine_eq]
    omega
  have bd := hb _ (Value.ref (hp.objs.size + 1) :: us) I2.kIn hl
  rw [List.append_nil] at bd
  refine wpAny_call (PySem.HandSPX.call_own PySem.F.excBase_Exception tl atC (PySem.W.looks_findIn I1.kIn iC) (fun self => PySem.W.bind_fn I1.kIn self tI) hus
    (codeAny_mono (F1.run _ X.stack _ _ ⟨Value.ref (hp.objs.size + 1) :: us, []⟩ _ _ _ (fun _ _ _ => False) (hr.make C us []) (I2.env0.make C us []) bd r2 q2) fun r s' hq => ?_))
  cases r with
  | error er => exact False.elim hq
  | ok fl =>
    cases fl with
    | ret u =>
      obtain ⟨v, H2, os2, bare2, un2, hok2, rv, ev, d, fs, ea, ed, hd1, q3⟩ := hq
      subst ev
      obtain ⟨h2, g2, d2, t2, os'⟩ := s'
      exact ⟨rv, mk_end (raises_own T.exc T.tyc) I1 big kk un2 hok2 os2 bare2 ea ed hd1 q3⟩
    | next => exact False.elim hq
    | brk => exact False.elim hq
    | cont => exact False.elim hq
end
/-- the fields of an error as they come to stand -/
def xFs : List Str → List AV → Option (List (Str × AV))
  | [f], [y] => some [(f, y)]
  | [f, g], [y, z] => some [(g, z), (f, y)]
  | _, _ => none
def raiseF (c : Str) (fl : List Str) (a : Rho → AH → Ot (List AV)) : Rho → AH → SR := fun ρ ah => (a ρ ah).to ρ fun xs ah1 => match xFs fl xs with | some fs => .ex ⟨c, fs⟩ ρ ah1 | none => .st
/-- what the top says of an error: its class, its __init__ -/
structure XMk (P : Program) (w : World) (K : PySem.W.Frag) (mg : Str → Option Value) (base : Heap) (nm : Nm) (c : Str) (fl : List Str) : Prop where
  ex : ∃ C, nm.cls c = some C ∧ mg c = some (.ref C) ∧ XCls K C ∧ (∀ f ∈ fl, PySem.W.findIn K (.ref C) f = some none) ∧
    ∃ fI fd ps, PySem.W.findIn K (.ref C) "__init__" = some (some (.ref fI)) ∧ PySem.W.typeIn K (.ref fI) = some (.type "function") ∧ Binds K fd ps [] ∧ FnOk P w K mg base CX0 1 fI fd ps (spX K fl)
section
variable {nm : Nm} {X : Cx} {Wx : WX} {K : PySem.W.Frag}
theorem PoS.toA {f : Rho → AH → Ot (List AV)} {k : List AV → AH → SR} {D : Ends} {σ : St} {H : Hp} {R : List V → Hp → Prop} {W : Wd} {ρ : Rho} {ah : AH} (rh : RelH K nm W ah H) (rs : RS K W ρ σ) (p : PoS K nm Wx W H D ((f ρ ah).to ρ k))
    (h : ∀ a ah1 W1 H1 w, Step W H W1 H1 → RelH K nm W1 ah1 H1 → RS K W1 ρ σ → W1.RVs K a w → PoS K nm Wx W1 H1 D (k a ah1) → R w H1) : TrA nm K Wx f σ H R :=
  ⟨W, ρ, ah, rh, rs, (PoS.to rs p).imp (fun a ah1 W1 H1 s R1 q w r => h a ah1 W1 H1 w s R1 (rs.step s) r q) fun _ _ _ _ _ _ q => q⟩
theorem es_raise {c : Str} {fl : List Str} {e : Expr} {es : List Expr} {p pos pos' : Pos} {a : Rho → AH → Ot (List AV)} (M : XMk X.prog X.w X.K X.mg X.base nm c fl) (hc : X.calm = true) (tk : Takes X Wx) (hr : Room 2 X.A) (hg : Gl X c) (hdb : (c == ("__debug__" : Str)) = false)
    (ha : EA nm X Wx (e :: es) a) (hs : (e :: es).all notSt = true) : ES nm X Wx (.Raise (some (.Call (.Name c p) (e :: es) [] pos)) none pos') (raiseF c fl a) := by
  obtain ⟨C, h1, h2, T, nof, fI, fd, ps, iC, tI, hb, F⟩ := M.ex
  refine PS.weak (ps_raise hc tk (pmk_xc T iC tI F hr hb hg h2 ha hdb hs)) fun D σ H ⟨W, ρ, ah, rh, rs, pp⟩ => ?_
  refine PoS.toA rh rs pp fun xs ah1 W1 H1 vs s1 R1 S1 v1 q => ?_
  cases hf : xFs fl xs with
  | none => rw [hf] at q; exact False.elim q
  | some fs =>
    rw [hf] at q
    have go : ∀ (b : Addr) (ws : List (Str × V)), H1 b = none → RFs X.K W1 fs ws → Wx (.ref C) (some b) σ (upd H1 b (.xd ws)) := fun b ws nb r =>
      q (W1.keep b (.xd ws)) _ σ (.ref C) (some b) (Step.keep R1 nb) (R1.keep nb) (S1.step (Step.keep (o := .xd ws) R1 nb)) ⟨C, h1, rfl, .inr ⟨b, ws, rfl, upd_same, RFs.step (Step.keep (o := .xd ws) R1 nb) r⟩⟩
    unfold xFs at hf
    split at hf
    · rename_i f y _
      cases hf
      match vs, v1 with
      | [w], .cons r .nil =>
        refine ⟨by show 1 ≤ 1000; decide, fun a na => ⟨a, C, w, rfl, T, nof f (by simp), upd_same, fun b nb ne => ⟨rfl, b, [(f, w)], upd_same, ?_, ?_, ?_⟩⟩⟩
        · rw [upd_ne ne]; exact upd_same
        · rw [upd_ne ne] at nb; exact nb
        · rw [upd_ne ne] at nb
          have : upd (del (upd (upd (upd H1 a (exo a C none)) b (exd b [(f, w)])) a (exo a C (some b))) a) b (.xd [(f, w)]) = upd H1 b (.xd [(f, w)]) := funext fun z => by
            by_cases hz : z = b
            · rw [hz, upd_same, upd_same]
            · rw [upd_ne hz, upd_ne hz]
              by_cases hy : z = a
              · rw [hy, del_same, na]
              · rw [del_ne hy, upd_ne hy, upd_ne hz, upd_ne hy]
          rw [this]
          exact go b _ nb (.cons ⟨rfl, r⟩ .nil)
    · rename_i f g y z _
      cases hf
      match vs, v1 with
      | [w, u], .cons r (.cons r' .nil) =>
        refine ⟨by show 2 ≤ 1000; decide, fun a na => ⟨a, C, w, u, rfl, T, nof f (by simp), nof g (by simp), upd_same, fun b nb ne => ⟨rfl, b, [(g, u), (f, w)], ?_, upd_same, ?_, ?_⟩⟩⟩
        · rw [upd_ne (Ne.symm ne)]; exact upd_same
        · rw [upd_ne ne] at nb; exact nb
        · rw [upd_ne ne] at nb
          have : upd (del (upd (upd (upd (upd H1 a (exo a C none)) b (exd b [(f, w)])) a (exo a C (some b))) b (exd b [(g, u), (f, w)])) a) b (.xd [(g, u), (f, w)]) = upd H1 b (.xd [(g, u), (f, w)]) := funext fun z => by
            by_cases hz : z = b
            · rw [hz, upd_same, upd_same]
            · rw [upd_ne hz, upd_ne hz]
              by_cases hy : z = a
              · rw [hy, del_same, na]
              · rw [del_ne hy, upd_ne hz, upd_ne hy, upd_ne hz, upd_ne hy]
          rw [this]
          exact go b _ nb (.cons ⟨rfl, r'⟩ (.cons ⟨rfl, r⟩ .nil))
    · cases hf
end
end Ko

/-! Ko, part Ee: try with several clauses, each with a name for the error or without. -/
namespace Ko
open PySem L2 PySem.Spec
/-- the ends of a suite whose error has the slot i -/
def endA (D : Ends) : Option Nat → Ends
  | none => D
  | some i => { nx := fun σ H => D.nx (σ.set i none) H, rt := D.rt, bk := fun σ H => D.bk (σ.set i none) H, ct := fun σ H => D.ct (σ.set i none) H }
def setA (σ : St) (a : Addr) : Option Nat → St
  | none => σ
  | some i => σ.set i (some (.ref a))
abbrev Clause := Value × Option Nat × (Addr → Value → Option Addr → TS)
def wCl (K : PySem.W.Frag) (Wout : WX) (D : Ends) : List Clause → WX
  | [] => Wout
  | (c, i, ts) :: r => fun cls d σ H => ∃ b, PySem.W.exmOne K cls c = some b ∧ (b = true → ∀ a, H a = none → ts a cls d (endA D i) (setA σ a i) H) ∧ (b = false → wCl K Wout D r cls d σ H)
/-- the name of a clause's error and its slot -/
def CNm (X : Cx) : Option Str → Option Nat → Prop
  | none, none => True
  | some n, some i => X.N[i]? = some n ∧ X.env.kindOf n = some .local
  | _, _ => False
inductive ClOk (X : Cx) : List ExceptHandler → List Clause → Prop
  | nil : ClOk X [] []
  | cons {x : Str} {o : Option Str} {i : Option Nat} {c : Value} {ts : Addr → Value → Option Addr → TS} {b0 : Stmt} {su : List Stmt} {np p' : Pos} {hs : List ExceptHandler} {l : List Clause} : Names X x c → CNm X o i →
      (∀ (a : Addr) (oe : Obj) (cls : Value) (d : Option Addr) (pn : List (Addr × Obj)), Zc cls d oe → (∃ vs, oe.data = .fields vs) → PSs (X.suite a ((a, oe) :: pn)) (b0 :: su) (ts a cls d)) → ClOk X hs l →
      ClOk X (.ExceptHandler (some (.Name x np)) o (b0 :: su) p' :: hs) ((c, i, ts) :: l)
section
variable {X : Cx} {body : List Stmt} {h0 : ExceptHandler} {hds : List ExceptHandler} {l : List Clause} {pos : Pos} {tb : WX → TS} {Wout : WX}
theorem ps_try_cl (stk : X.stack = X.env :: X.outer) (fr0 : X.env.frame = some X.env.locals) (nod : X.N.Nodup) (tk : Takes X Wout)
    (hb : ∀ (W : WX) (pn : List (Addr × Obj)) (xe : Value → Shared → Prop), Takes (X.tr pn xe) W → PassesOwn (model X.prog X.w) X.A X.env xe → PSs (X.tr pn xe) body (tb W)) (hh : ClOk X (h0 :: hds) l) :
    PS X (.Try body (h0 :: hds) [] [] pos) (fun D σ H => tb (wCl X.K Wout D l) D σ H) := by
  refine ⟨fun pins s σ H D I h => wpAny_Try_except ?_⟩
  have ok := I.ok
  have frs1 : X.A.frames = some (X.env :: X.outer) := ok.frames.trans (congrArg some stk)
  have start := (hb (wCl X.K Wout D l) (X.pn ++ pins) (fun e s1 => wpAny (model X.prog X.w) X.A (noteFrame e X.env) (fun _ s2 => wpAny (model X.prog X.w) X.A (setFlight e none) (fun _ s3 => wpAny (model X.prog X.w) X.A (handleBy e X.env (h0 :: hds)) (SP X pins D) X.xe s3) X.xe s2) X.xe s1) (fun u s' xx => ?_) PassesOwn.looking).run [] s σ H D (I.toTry _) h
  · refine wpAny_mono start (fun f s1 z => ?_) fun e s1 z => z
    match f, z with
    | .next, ⟨σ1, H1, J, q⟩ => exact wpAny_execs_nil ⟨σ1, H1, J.ofTry ok, q⟩
    | .brk, ⟨σ1, H1, J, q⟩ => exact ⟨σ1, H1, J.ofTry ok, q⟩
    | .cont, ⟨σ1, H1, J, q⟩ => exact ⟨σ1, H1, J.ofTry ok, q⟩
    | .ret u, ⟨v, σ1, H1, J, r, q⟩ => exact ⟨v, σ1, H1, J.ofTry ok, r, q⟩
  · obtain ⟨a, B, sI, pins1, σ1, H1, cls, d, rfl, J0, low, up, sky, na, os, bare, w⟩ := xx
    have J : Inv X pins σ1 H1 sI := J0.ofTry ok
    have sky1 : Sky B (X.env :: X.outer) a (Zc cls d) X.env.locals s'.heap := by rw [← stk]; exact sky
    refine Sky.land Zc.steady frs1 fr0 sky1 fun h3 fl3 up3 => ?_
    have J3 : Inv X pins σ1 H1 { s' with heap := h3 } := J.landed low fl3.1 (up.trans up3) os bare
    obtain ⟨oe3, vs3, at3, z3, d3⟩ := fl3.there
    have out : a ∉ frs (X.env :: X.outer) := fun hm => by
      obtain ⟨_, o1, e1, nf⟩ := (show h3.FunFrames B (X.env :: X.outer) from fl3.2.2.1).mem hm
      rw [at3] at e1
      cases e1
      exact nf _ d3
    have nL : a ≠ X.env.locals := fun z => out (List.mem_filterMap.mpr ⟨X.env, List.mem_cons_self, by rw [fr0, z]⟩)
    have nF : a ∉ X.fs := fun hm => let ⟨e, he, q⟩ := List.mem_filterMap.mp hm; out (List.mem_filterMap.mpr ⟨e, List.mem_cons_of_mem _ he, q⟩)
    have S3 := J3.suite at3 d3 na nL nF
    have go : ∀ {hs : List ExceptHandler} {l1 : List Clause}, ClOk X hs l1 → wCl X.K Wout D l1 cls d σ1 H1 → wpAny (model X.prog X.w) X.A (handleBy (.ref a) X.env hs) (SP X pins D) X.xe { s' with heap := h3 } := by
      intro hs l1 hk
      induction hk with
      | nil =>
        intro w
        refine wpAny_handleBy_nil ?_
        obtain ⟨k1, k2, k3, oe, vs, T, oT, ts', e0, z0, dd, f1, hr⟩ := id fl3
        have fin : wpAny (model X.prog X.w) X.A (setFlight (.ref a) X.env.frame) (fun _ s4 => wpAny (model X.prog X.w) X.A (throw (.ref a) : Sem Flow) (SP X pins D) X.xe s4) X.xe { s' with heap := h3 } := by
          rw [fr0]
          exact HandSPX.setFlight_upZ fl3 fun h4 held up4 => wpAny_throw (tk _ _ ⟨a, B, sI, pins, σ1, H1, cls, d, rfl, J, low, (up.trans up3).trans up4, .inr (.inr (by rw [stk]; exact held)), na, os, bare, w⟩)
        unfold PySem.passOn
        refine wpAny_bind (wpAny_field e0 dd f1 ?_)
        rw [if_neg (show ¬ ((Value.ref T == Value.none) = true) from by simp)]
        first
          | exact wpAny_bind (wpAny_pure (wpAny_bind fin))
          | exact wpAny_bind fin
      | @cons x o i c ts b0 su np p' hs2 l2 hc hn hsu _ ih =>
        rintro ⟨b, eb, yes, no⟩
        have LT : PySem.W.Looks (model X.prog X.w) h3 (typeOf (.ref a)) cls := fun A Q E s k q => wpAny_typeOf_ref (k _ _ at3) (by rw [z3.1]; exact q)
        have ask : ∀ {Q : Value → Shared → Prop} {E : Value → Shared → Prop}, Q c { s' with heap := h3 } → wpAny (model X.prog X.w) (X.A.mark (some (.ref a))) (eval (.Name x np) X.env) Q E { s' with heap := h3 } := fun {Q E} q => by
          obtain ⟨g1, g2, g3 | ⟨g3, g4, g5⟩⟩ := hc
          · exact ld_glob (X := X.suite a ((a, oe3) :: (X.pn ++ pins))) S3 g1 g3 q g2
          · exact ld_blt (X := X.suite a ((a, oe3) :: (X.pn ++ pins))) S3 g1 g3 g4 q g5 g2
        refine wpAny_handleBy_cons (codeAny_handlers_test (ask ((PySem.W.exm_one (M := model X.prog X.w) J3.kIn LT eb).here ?_))) (by intro q; cases q)
        cases b with
        | false =>
          show wpAny _ X.A (handleBy (.ref a) X.env hs2) _ _ _
          exact ih (no rfl)
        | true =>
          have q0 := yes rfl a na
          cases o with
          | none =>
            cases i with
            | some i => exact hn.elim
            | none =>
              refine codeAny_handlers_suite (HandSPX.lands_againZ fl3 fun h4 fl4 up4 => ?_)
              obtain ⟨oe4, vs4, at4, z4, d4⟩ := fl4.there
              refine wpAny_mono ((hsu a oe4 cls d (X.pn ++ pins) z4 ⟨_, d4⟩).run [] _ _ H1 _ ((show Inv X pins σ1 H1 { s' with heap := h4 } from J.landed low fl4.1 ((up.trans up3).trans up4) os bare).suite at4 d4 na nL nF) q0) (fun f s6 z => ?_) fun _ _ z => z.elim
              match f, z with
              | .next, ⟨σ6, H6, S6, q6⟩ => exact ⟨_, _, S6.unsuite ok, q6⟩
              | .brk, ⟨σ6, H6, S6, q6⟩ => exact ⟨_, _, S6.unsuite ok, q6⟩
              | .cont, ⟨σ6, H6, S6, q6⟩ => exact ⟨_, _, S6.unsuite ok, q6⟩
              | .ret u, ⟨v6, σ6, H6, S6, r6, q6⟩ => exact ⟨_, _, _, S6.unsuite ok, r6, q6⟩
          | some n =>
            cases i with
            | none => exact hn.elim
            | some i =>
              obtain ⟨n1, n2⟩ := hn
              refine codeAny_handlers_suite_as (HandSPX.lands_againZ fl3 fun h4 fl4 up4 => ?_)
              obtain ⟨oe4, vs4, at4, z4, d4⟩ := fl4.there
              refine store_ok (X := X.suite a ((a, oe4) :: (X.pn ++ pins))) (v := .ref a) ((show Inv X pins σ1 H1 { s' with heap := h4 } from J.landed low fl4.1 ((up.trans up3).trans up4) os bare).suite at4 d4 na nL nF) nod n1 (.inl n2) rfl (fun s5 S5 => ?_) (.inr n2)
              refine wpAny_mono ((hsu a oe4 cls d (X.pn ++ pins) z4 ⟨_, d4⟩).run [] s5 _ H1 _ S5 q0) (fun f s6 z => ?_) fun _ _ z => z.elim
              have away : ∀ {σ6 : St} {H6 : Hp} {Q : Shared → Prop}, Inv (X.suite a ((a, oe4) :: (X.pn ++ pins))) [] σ6 H6 s6 → (∀ s7, Inv X pins (σ6.set i none) H6 s7 → Q s7) → wpAny (model X.prog X.w) X.A (do bindName X.env n .none; unbindBehindTheSuite X.env n p') (fun _ s7 => Q s7) X.xe s6 :=
                fun S6 hq => gone_ok (S6.unsuite ok) nod n1 n2 hq
              match f, z with
              | .next, ⟨σ6, H6, S6, q6⟩ => exact away S6 fun s7 J7 => ⟨_, _, J7, q6⟩
              | .brk, ⟨σ6, H6, S6, q6⟩ => exact away S6 fun s7 J7 => ⟨_, _, J7, q6⟩
              | .cont, ⟨σ6, H6, S6, q6⟩ => exact away S6 fun s7 J7 => ⟨_, _, J7, q6⟩
              | .ret u, ⟨v6, σ6, H6, S6, r6, q6⟩ => exact away S6 fun s7 J7 => ⟨_, _, _, J7, r6, q6⟩
    exact go hh w
end
end Ko

/-! Ko, part Ef: suites that return a list of what the error bears. -/
namespace Ko
open PySem L2 PySem.Spec
inductive SI where
  | str (z : Str) | non | bl (b : Bool) | int (n : Int) | fld (f : Str) (cs : List Str) | isx (c : Str) (yes no : List Str)
inductive SF where
  | retL (m : Bool) (l : List SI) | ret1 (it : SI)
def itV : SI → EX → Option AV
  | .str z, _ => some (.str z)
  | .non, _ => some .non
  | .bl b, _ => some (.bl b)
  | .int n, _ => some (.int n)
  | .fld f cs, x => if cs.contains x.c = true then x.fs.lookup f else none
  | .isx _ yes no, x => if yes.contains x.c = true then some (.bl true) else if no.contains x.c = true then some (.bl false) else none
def itVs : List SI → EX → Option (List AV)
  | [], _ => some []
  | i :: l, x => (itV i x).bind fun v => (itVs l x).map fun vs => v :: vs
def sfF : SF → EX → Rho → AH → SR
  | .retL m l, x, _, ah => match itVs l x with | some vs => if vs.length ≤ sizeLine then (if m = true then .rt (.ref ah.length) (ah ++ [.lst vs]) else .rt (.lst vs) ah) else .st | none => .st
  | .ret1 i, x, _, ah => match itV i x with | some v => .rt v ah | none => .st
/-- what isinstance asks of an error's class -/
structure XIs (K : PySem.W.Frag) (C : Addr) : Prop where
  cd : (PySem.W.clsIn K C).isSome = true
  ca : PySem.W.findIn K (.ref C) "__class__" = some (some (.builtin "object.__class__"))
  cg : PySem.W.specialIn K (.builtin "object.__class__") "__get__" = some (some (.builtin "getset_descriptor.__get__"))
  ct : PySem.W.takesIn K (.builtin "object.__class__") = some true
  co : PySem.W.mroIn K C (.type "object") = some true
def xisB (K : PySem.W.Frag) (C : Addr) : Bool := (PySem.W.clsIn K C).isSome && decide (PySem.W.findIn K (.ref C) "__class__" = some (some (.builtin "object.__class__"))) && decide (PySem.W.specialIn K (.builtin "object.__class__") "__get__" = some (some (.builtin "getset_descriptor.__get__"))) &&
  decide (PySem.W.takesIn K (.builtin "object.__class__") = some true) && decide (PySem.W.mroIn K C (.type "object") = some true)
theorem xis_of {K : PySem.W.Frag} {C : Addr} (h : xisB K C = true) : XIs K C := by
  unfold xisB at h
  simp only [Bool.and_eq_true, decide_eq_true_eq] at h
  obtain ⟨⟨⟨⟨h1, h2⟩, h3⟩, h4⟩, h5⟩ := h
  exact ⟨h1, h2, h3, h4, h5⟩
/-- what a suite reads of an error of the class c with the fields fl -/
def XRd (K : PySem.W.Frag) (nm : Nm) (c : Str) (fl : List Str) : Prop := ∃ C, nm.cls c = some C ∧ XfC K C ∧ XIs K C ∧ ∀ f ∈ fl, PySem.W.findIn K (.ref C) f = some none
/-- an error of the class y is one of c -/
def XIn (K : PySem.W.Frag) (nm : Nm) (mg : Str → Option Value) (y c : Str) (b : Bool) : Prop := ∃ C D, nm.cls y = some C ∧ mg c = some (.ref D) ∧ PySem.W.exmOne K (.ref C) (.ref D) = some b ∧ PySem.W.kitOne K (.ref C) (.ref D) = some b
section
variable {nm : Nm} {X : Cx} {K : PySem.W.Frag}
def tIt (K : PySem.W.Frag) (nm : Nm) (i : Option Nat) (a : Addr) (cls : Value) (d : Option Addr) (it : SI) : TE := fun σ H Q => ∃ W ah x v, RelH K nm W ah H ∧ (∀ j, i = some j → σ[j]? = some (some (.ref a))) ∧ ExRep K nm W x cls d ∧ itV it x = some v ∧ ∀ w, W.RV K v w → Q w H
def tIts (K : PySem.W.Frag) (nm : Nm) (i : Option Nat) (a : Addr) (cls : Value) (d : Option Addr) (its : List SI) : TA := fun σ H Q => ∃ W ah x vs, RelH K nm W ah H ∧ (∀ j, i = some j → σ[j]? = some (some (.ref a))) ∧ ExRep K nm W x cls d ∧ itVs its x = some vs ∧ ∀ ws, W.RVs K vs ws → Q ws H
/-- isinstance(e, D) in e's suite -/
def rIsD (K : PySem.W.Frag) (cls : Value) (d : Option Addr) (a : Addr) : List V → Hp → VK → Prop := fun xs H Q => ∃ (C D : Addr) (b : Bool), xs = [.ref a, .ref D] ∧ cls = .ref C ∧ XfC K C ∧ XIs K C ∧ PySem.W.kitOne K (.ref C) (.ref D) = some b ∧ (d = none ∨ ∃ dd fs, d = some dd ∧ H dd = some (.xd fs)) ∧ Q (.bl b) H
theorem call_isD {a : Addr} {oe : Obj} {cls : Value} {d : Option Addr} {pn : List (Addr × Obj)} (hz : Zc cls d oe) (hf : ∃ vs, oe.data = .fields vs) : CallR (X.suite a ((a, oe) :: pn)) (.builtin "isinstance") (rIsD X.K cls d a) := by
  rintro pins s σ H xs us Q I r ⟨C, D, b, rfl, rfl, Y, Z, e, hd, q⟩
  match us, r with
  | [_, _], .cons rx (.cons rt .nil) =>
    cases rx
    cases rt
    obtain ⟨at1, _⟩ := I.pin (a, oe) (List.mem_append.mpr (.inl List.mem_cons_self))
    obtain ⟨vs, hv⟩ := hf
    have J : ∃ od, PySem.W.InstAt s.heap a oe C od := by
      obtain ⟨oc, od, oda, osl⟩ := oe
      obtain ⟨h1, h2⟩ := hz
      dsimp only at h1 h2 hv
      subst h1 h2 hv
      rcases hd with rfl | ⟨dd, fs, rfl, ed⟩
      · exact ⟨none, at1, rfl, rfl, trivial⟩
      · obtain ⟨mA, hns, hr⟩ := (show ObjOk X.prog X.w H s.heap dd (.xd fs) from I.hok dd _ ed)
        obtain ⟨od, ho, hl⟩ := lookIn_ns hns
        exact ⟨some od, at1, rfl, rfl, ho⟩
    obtain ⟨od, J⟩ := J
    exact PySem.W.kia_one (PySem.W.kitx_exc Z.cd Y.ga Y.gg Y.exC Z.ca Z.cg Z.ct Z.co) I.kIn J e (fun z => nomatch z) fun tk => ⟨.bl b, H, I.kept (t' := tk) fun _ _ z => z, rfl, q⟩
theorem rfs_get {W : Wd} : ∀ {fs : List (Str × AV)} {ws : List (Str × V)} {f : Str} {v : AV}, RFs K W fs ws → fs.lookup f = some v → ∃ w, ws.lookup f = some w ∧ W.RV K v w
  | _, _, _, _, .nil, e => by cases e
  | (g, x) :: fs, (g', w) :: ws, f, v, .cons r t, e => by
    obtain ⟨r1, r2⟩ := r
    dsimp only at r1 r2
    subst r1
    simp only [List.lookup] at e ⊢
    split at e
    · cases e
      exact ⟨_, rfl, r2⟩
    · exact rfs_get t e
theorem pe_cls {x : Str} {D : Addr} {p : Pos} (hg : Gl X x) (hm : X.mg x = some (.ref D)) (hd : (x == ("__debug__" : Str)) = false) : PE X (.Name x p) (tC (.ref D)) := ⟨fun pins s σ H Q I h => ld_glob I hg hm ⟨.ref D, H, I, rfl, h⟩ hd⟩
variable {a : Addr} {oe : Obj} {cls : Value} {d : Option Addr} {pn : List (Addr × Obj)} {i : Option Nat}
theorem it_str {z : Str} {j : Nat} {p : Pos} : PE X (.Constant (.str z) j p) (tIt K nm i a cls d (.str z)) := PE.weak pe_str fun σ H Q ⟨W, ah, x, v, _, _, _, e, k⟩ => by cases e; exact k _ (.str z)
theorem it_fld {n f : Str} {j : Nat} {cs : List Str} {p p' : Pos} (hN : X.N[j]? = some n) (hv : Vis X.env.scope n) (hd : (n == ("__debug__" : Str)) = false) (hcd : (n == ("__classdict__" : Str)) = false) (hz : Zc cls d oe) (hf : ∃ vs, oe.data = .fields vs)
    (hx : ∀ c ∈ cs, ∃ fl, XRd X.K nm c fl ∧ f ∈ fl) : PE (X.suite a ((a, oe) :: pn)) (.Attribute (.Name n p) f p') (tIt X.K nm (some j) a cls d (.fld f cs)) := by
  refine ⟨fun pins s σ H Q I ⟨W, ah, x, v, R, hi, E, e, k⟩ => ?_⟩
  unfold itV at e
  dsimp only at e
  split at e
  · rename_i hc
    obtain ⟨fl, ⟨C, h1, Y, _, nof⟩, hfl⟩ := hx _ (List.contains_iff_mem.mp hc)
    obtain ⟨C', h1', rfl, E'⟩ := E
    rw [h1] at h1'
    cases h1'
    rcases E' with ⟨e0, _⟩ | ⟨dd, ws, rfl, hw, rf⟩
    · rw [e0] at e; cases e
    · obtain ⟨u, hu, ru⟩ := rfs_get rf e
      exact (pe_xf (X := X) Y (nof f hfl) hz hf (pe_var (X := X.suite a ((a, oe) :: pn)) hN hv hd hcd) (base_of rfl)).run pins s σ H Q I ⟨_, hi j rfl, rfl, rfl, dd, ws, u, rfl, R.fz dd _ hw, hu, k u ru⟩
  · cases e
theorem it_isx {n c : Str} {j : Nat} {yes no : List Str} {p p' p1 pos : Pos} (hN : X.N[j]? = some n) (hv : Vis X.env.scope n) (hd : (n == ("__debug__" : Str)) = false) (hcd : (n == ("__classdict__" : Str)) = false) (hz : Zc cls d oe) (hf : ∃ vs, oe.data = .fields vs)
    (gi : Gl X "isinstance") (mi : X.mg "isinstance" = none) (gc : Gl X c) (hdc : (c == ("__debug__" : Str)) = false) (hr : ∀ y, y ∈ yes ∨ y ∈ no → ∃ fl, XRd X.K nm y fl) (hy : ∀ y ∈ yes, XIn X.K nm X.mg y c true) (hn : ∀ y ∈ no, XIn X.K nm X.mg y c false) :
    PE (X.suite a ((a, oe) :: pn)) (.Call (.Name "isinstance" p) [.Name n p', .Name c p1] [] pos) (tIt X.K nm (some j) a cls d (.isx c yes no)) := by
  refine ⟨fun pins s σ H Q I ⟨W, ah, x, v, R, hi, E, e, k⟩ => ?_⟩
  have key : ∃ b C D, v = .bl b ∧ nm.cls x.c = some C ∧ X.mg c = some (.ref D) ∧ PySem.W.kitOne X.K (.ref C) (.ref D) = some b ∧ XfC X.K C ∧ XIs X.K C := by
    unfold itV at e
    dsimp only at e
    split at e
    · rename_i hc
      cases e
      have m := List.contains_iff_mem.mp hc
      obtain ⟨C, D, h1, h2, _, h4⟩ := hy _ m
      obtain ⟨fl, C', h1', Y, Z, _⟩ := hr _ (.inl m)
      rw [h1] at h1'
      cases h1'
      exact ⟨true, C, D, rfl, h1, h2, h4, Y, Z⟩
    · split at e
      · rename_i hc
        cases e
        have m := List.contains_iff_mem.mp hc
        obtain ⟨C, D, h1, h2, _, h4⟩ := hn _ m
        obtain ⟨fl, C', h1', Y, Z, _⟩ := hr _ (.inr m)
        rw [h1] at h1'
        cases h1'
        exact ⟨false, C, D, rfl, h1, h2, h4, Y, Z⟩
      · cases e
  obtain ⟨b, C, D, rfl, h1, h2, h4, Y, Z⟩ := key
  obtain ⟨C', h1', rfl, E'⟩ := E
  rw [h1] at h1'
  cases h1'
  refine (pe_callB (X := X.suite a ((a, oe) :: pn)) (call_isD hz hf) gi mi (by decide +kernel) (pa_cons (pe_var (X := X.suite a ((a, oe) :: pn)) hN hv hd hcd) (pa_cons (pe_cls (X := X.suite a ((a, oe) :: pn)) gc h2 hdc) pa_nil)) (by decide) (by decide)).run pins s σ H Q I ⟨_, hi j rfl, C, D, b, rfl, rfl, Y, Z, h4, ?_, k _ (.bl b)⟩
  rcases E' with ⟨_, e0⟩ | ⟨dd, ws, e0, hw, _⟩
  · exact .inl e0
  · exact .inr ⟨dd, ws, e0, R.fz dd _ hw⟩
end
end Ko

/-! Ko, part Eg: try under the contract. -/
namespace Ko
open PySem L2 PySem.Spec
/-- a clause: its class, its error's slot, which errors it takes and which not, its suite -/
structure Hd where
  c : Str
  i : Option Nat
  yes : List Str
  no : List Str
  s : SF
def hdF : List Hd → EX → Rho → AH → SR
  | [], x, ρ, ah => .ex x ρ ah
  | h :: r, x, ρ, ah => if h.i.all (fun j => decide (j < ρ.length)) = true then (if h.yes.contains x.c = true then sfF h.s x ρ ah else if h.no.contains x.c = true then hdF r x ρ ah else .st) else .st
def tryF (b : Rho → AH → SR) (hs : List Hd) : Rho → AH → SR := fun ρ ah => match b ρ ah with | .ex x ρ1 ah1 => hdF hs x ρ1 ah1 | r => r
section
variable {nm : Nm} {X : Cx} {K : PySem.W.Frag} {Wx : WX}
def tSf (K : PySem.W.Frag) (nm : Nm) (i : Option Nat) (a : Addr) (cls : Value) (d : Option Addr) : SF → TE
  | .retL _ l => fun σ H Q => tIts K nm i a cls d l σ H fun vs H1 => vs.length ≤ sizeLine ∧ ∀ p, H1 p = none → Q (.ref p) (upd H1 p (.lst vs))
  | .ret1 it => tIt K nm i a cls d it
def SfOk (nm : Nm) (X : Cx) (i : Option Nat) (s : SF) (e : Expr) : Prop := ∀ (a : Addr) (oe : Obj) (cls : Value) (d : Option Addr) (pn : List (Addr × Obj)), Zc cls d oe → (∃ vs, oe.data = .fields vs) → PE (X.suite a ((a, oe) :: pn)) e (tSf X.K nm i a cls d s)
theorem its_nil {a : Addr} {cls : Value} {d : Option Addr} {i : Option Nat} : PA X [] (tIts K nm i a cls d []) := by
  refine ⟨fun p pins s σ H Q I ⟨W, ah, x, vs, _, _, _, e, k⟩ => pa_nil.run p pins s σ H Q I ?_⟩
  cases e
  exact k [] .nil
theorem its_cons {a : Addr} {cls : Value} {d : Option Addr} {i : Option Nat} {e : Expr} {es : List Expr} {it : SI} {its : List SI} (he : PE X e (tIt K nm i a cls d it)) (ht : PA X es (tIts K nm i a cls d its)) (hs : notSt e = true) : PA X (e :: es) (tIts K nm i a cls d (it :: its)) := by
  refine ⟨fun p pins s σ H Q I ⟨W, ah, x, vs, R, hi, E, q, k⟩ => (pa_cons he ht (star_cons hs)).run p pins s σ H Q I ?_⟩
  unfold itVs at q
  cases e1 : itV it x with
  | none => rw [e1] at q; cases q
  | some v =>
    cases e2 : itVs its x with
    | none => rw [e1, e2] at q; cases q
    | some us =>
      rw [e1, e2] at q
      cases q
      exact ⟨W, ah, x, v, R, hi, E, e1, fun w r => ⟨W, ah, x, us, R, hi, E, e2, fun ws rs => k _ (.cons r rs)⟩⟩
theorem sf_list {i : Option Nat} {m : Bool} {l : List SI} {es : List Expr} {p : Pos} (h : ∀ (a : Addr) (oe : Obj) (cls : Value) (d : Option Addr) (pn : List (Addr × Obj)), Zc cls d oe → (∃ vs, oe.data = .fields vs) → PA (X.suite a ((a, oe) :: pn)) es (tIts X.K nm i a cls d l)) :
    SfOk nm X i (.retL m l) (.List es p) := fun a oe cls d pn hz hf => pe_lst (h a oe cls d pn hz hf)
inductive HdOk (nm : Nm) (X : Cx) : List Hd → List ExceptHandler → Prop
  | nil : HdOk nm X [] []
  | cons {h : Hd} {o : Option Str} {e : Expr} {D : Addr} {np p p' : Pos} {hs : List Hd} {r : List ExceptHandler} : Gl X h.c → (h.c == ("__debug__" : Str)) = false → X.mg h.c = some (.ref D) → CNm X o h.i → (∀ y ∈ h.yes, XIn X.K nm X.mg y h.c true) → (∀ y ∈ h.no, XIn X.K nm X.mg y h.c false) →
      SfOk nm X h.i h.s e → HdOk nm X hs r → HdOk nm X (h :: hs) (.ExceptHandler (some (.Name h.c np)) o [.Return (some e) p] p' :: r)
theorem end_rt {D : Ends} {i : Option Nat} : (endA D i).rt = D.rt := by cases i <;> rfl
theorem sf_run {W : Wd} {H : Hp} {D : Ends} {σ : St} {s : SF} {x : EX} {ρ : Rho} {ah : AH} {i : Option Nat} {a : Addr} {cls : Value} {d : Option Addr} (R : RelH K nm W ah H) (S : RS K W ρ σ) (E : ExRep K nm W x cls d) (hi : i.all (fun j => decide (j < ρ.length)) = true)
    (p : PoS K nm Wx W H D (sfF s x ρ ah)) : tSf K nm i a cls d s (setA σ a i) H D.rt := by
  have at1 : ∀ j, i = some j → (setA σ a i)[j]? = some (some (.ref a)) := fun j e => by
    subst e
    have hj : j < σ.length := by rw [S.length]; exact of_decide_eq_true hi
    exact List.getElem?_set_self hj
  cases s with
  | retL m l =>
    unfold sfF at p
    dsimp only at p
    cases e : itVs l x with
    | none => rw [e] at p; exact False.elim p
    | some vs =>
      rw [e] at p
      dsimp only at p
      split at p
      · rename_i hl
        refine ⟨W, ah, x, vs, R, at1, E, e, fun ws r => ⟨by rw [r.length]; exact hl, fun b nb => ?_⟩⟩
        cases m with
        | true =>
          rw [if_pos rfl] at p
          have st := Step.more (o := .lst ws) R nb
          refine p (W.more b) _ _ st (R.more nb ⟨ws, upd_same, r.step st⟩) (.ref ?_)
          show (W.io ++ [b])[ah.length]? = some b
          rw [← R.len]; simp
        | false =>
          rw [if_neg Bool.false_ne_true] at p
          exact p (W.keep b (.lst ws)) _ _ (Step.keep R nb) (R.keep nb) (.lst (Rd.of upd_same) (r.step (Step.keep (o := .lst ws) R nb)))
      · exact False.elim p
  | ret1 it =>
    unfold sfF at p
    dsimp only at p
    cases e : itV it x with
    | none => rw [e] at p; exact False.elim p
    | some v =>
      rw [e] at p
      exact ⟨W, ah, x, v, R, at1, E, e, fun w r => p W H w (Step.refl _ _) R r⟩
theorem hd_run : ∀ {hs : List Hd} {r : List ExceptHandler}, HdOk nm X hs r → ∃ l, ClOk X r l ∧ ∀ {W : Wd} {H : Hp} {D : Ends} {σ : St} {x : EX} {ρ : Rho} {ah : AH} {cls : Value} {d : Option Addr}, RelH X.K nm W ah H → RS X.K W ρ σ → ExRep X.K nm W x cls d →
    PoS X.K nm Wx W H D (hdF hs x ρ ah) → wCl X.K Wx D l cls d σ H
  | _, _, .nil => ⟨[], .nil, fun {W H D σ x ρ ah cls d} R S E p => p W H σ cls d (Step.refl _ _) R S E⟩
  | _, _, .cons (h := h) (D := D0) g1 g2 g3 g4 yes no sf t => by
    obtain ⟨l, c1, c2⟩ := hd_run t
    refine ⟨(.ref D0, h.i, fun a cls d => tSeq (tRet (tSf X.K nm h.i a cls d h.s)) tNext) :: l, .cons ⟨g1, g2, .inl g3⟩ g4 (fun a oe cls d pn hz hf => pss_cons (ps_ret (sf a oe cls d pn hz hf)) pss_nil) c1, fun {W H D σ x ρ ah cls d} R S E p => ?_⟩
    unfold hdF at p
    split at p
    · rename_i hi
      split at p
      · rename_i hc
        obtain ⟨C, D1, h1, h2, h3, _⟩ := yes _ (List.contains_iff_mem.mp hc)
        obtain ⟨C', h1', rfl, E'⟩ := id E
        rw [h1] at h1'
        cases h1'
        rw [g3] at h2
        cases h2
        refine ⟨true, h3, fun _ a na => ?_, fun z => nomatch z⟩
        show tSf X.K nm h.i a (.ref C) d h.s (setA σ a h.i) H (endA D h.i).rt
        rw [end_rt]
        exact sf_run R S E hi p
      · split at p
        · rename_i hc
          obtain ⟨C, D1, h1, h2, h3, _⟩ := no _ (List.contains_iff_mem.mp hc)
          obtain ⟨C', h1', rfl, E'⟩ := id E
          rw [h1] at h1'
          cases h1'
          rw [g3] at h2
          cases h2
          exact ⟨false, h3, fun z => (nomatch z), fun _ => c2 R S E p⟩
        · exact False.elim p
    · exact False.elim p
theorem es_try {hs : List Hd} {h0 : ExceptHandler} {hds : List ExceptHandler} {body : List Stmt} {f : Rho → AH → SR} {pos : Pos} (stk : X.stack = X.env :: X.outer) (fr0 : X.env.frame = some X.env.locals) (nod : X.N.Nodup) (tk : Takes X Wx)
    (hb : ∀ (W : WX) (pn : List (Addr × Obj)) (xe : Value → Shared → Prop), Takes (X.tr pn xe) W → PassesOwn (model X.prog X.w) X.A X.env xe → PSs (X.tr pn xe) body (TrS nm X.K W f)) (ok : HdOk nm X hs (h0 :: hds)) :
    ES nm X Wx (.Try body (h0 :: hds) [] [] pos) (tryF f hs) := by
  obtain ⟨l, c1, c2⟩ := hd_run (Wx := Wx) ok
  refine PS.weak (ps_try_cl stk fr0 nod tk hb c1) fun D σ H ⟨W, ρ, ah, R, S, p⟩ => ⟨W, ρ, ah, R, S, ?_⟩
  unfold tryF at p
  cases q : f ρ ah with
  | ex x ρ1 ah1 =>
    rw [q] at p
    exact fun W' H' σ' cls d st R' S' E => c2 R' S' E (PoS.shift st p)
  | nx ρ1 ah1 => rw [q] at p; exact p
  | rt v ah1 => rw [q] at p; exact p
  | bk ρ1 ah1 => rw [q] at p; exact p
  | ct ρ1 ah1 => rw [q] at p; exact p
  | st => rw [q] at p; exact p
end
end Ko

/-! Ko, part N: the tree T, what it means, when it is the text's. -/
namespace Ko
open PySem L2

inductive T where
  | nil | cons (a b : T)
  | var (i : Nat) | cI (n : Int) | cS (z : Str) | cB (b : Bool) | cN | gl (x : Str) (v : AV)
  | tup (es : T) | lst (es : T) | lstM (es : T)
  | bin (op : Operator) (a b : T) | neg (a : T)
  | cmp (op : CmpOp) (a b : T) | cmp2 (o1 o2 : CmpOp) (a b c : T)
  | and (a b : T) | or (a b : T) | not (a : T) | ife (c a b : T)
  | sub (a i : T) | slc (a lo hi : T)
  | call (f : Str) (es : T) | callK (f : Str) (es : T) (np : Nat) (ks : List Str) (perm : List Nat) (kes : T)
  | bi (b : BI) (es : T) | isi (ts : List Ty) (a : T) | mi (m : MI) (o es : T)
  | comp (own : List (Str × Nat)) (t : TP) (it c e : T)
  | rng1 (a : T) | rng2 (a b : T) | enum (a : T)
  | eDead | sDead | app (o e : T) | lstC (a : T) | lrg (a : T) | dicC (a : T)
  | dic0 | sPar2 (i j : Nat) (es : T) | sPar3 (i j l : Nat) (es : T)
  | sAsg (t : TP) (e : T) | sComp (i : Nat) (own : List (Str × Nat)) (t : TP) (it c e : T) | sSub (o i e : T) | sAug (i : Nat) (op : Operator) (e : T)
  | sIf (c a b : T) | sFor (t : TP) (it body : T) | sWh (n : Nat) (c body : T) | sRet (e : T) | sRetN | sExp (e : T) | sPass | sBrk | sCnt
  | sRaise (c : Str) (fl : List Str) (es : T) | sTry (b : T) (hs : List Hd) | sPutD (o i e : T)

def T.isNil : T → Bool | .nil => true | _ => false
theorem T.isNil_eq {t : T} (h : t.isNil = true) : t = .nil := by cases t <;> first | rfl | exact absurd h Bool.false_ne_true
/-- what defs are called -/
structure Ops where
  call : Str → List AV → AH → Ot AV
  ar : Str → Nat
structure Den where
  e : Rho → AH → Ot AV := dead
  es : Rho → AH → Ot (List AV) := dead
  t : Rho → AH → Ot Bool := dead
  o : Rho → AH → Ot (Option Int) := dead
  s : Rho → AH → Ot Sr := dead
  x : Rho → AH → SR := deadS
def mkE (f : Rho → AH → Ot AV) : Den := { e := f, t := tF f, o := pSome f, s := srcF f }
def mkT (f : Rho → AH → Ot AV) (g : Rho → AH → Ot Bool) : Den := { e := f, t := g, o := pSome f, s := srcF f }
def mkX (f : Rho → AH → SR) : Den := { x := f }
def mkS (f : Rho → AH → Ot Sr) : Den := { s := f }
def den (C : Ops) : T → Den
  | .nil => { es := aNil, o := pNone, x := nilF, t := yesF }
  | .cons a b => { es := aCons (den C a).e (den C b).es, x := seqF (den C a).x (den C b).x }
  | .var i => mkE (vF i)
  | .cI n => mkE (cF (.int n))
  | .cS z => mkE (cF (.str z))
  | .cB b => mkE (cF (.bl b))
  | .cN => mkE (cF .non)
  | .gl _ v => mkE (cF v)
  | .tup es => mkE (tupF (den C es).es)
  | .lst es => mkE (lstF (den C es).es)
  | .lstM es => mkE (lstM (den C es).es)
  | .bin op a b => mkE (f2 (binF op) (den C a).e (den C b).e)
  | .neg a => mkE (f1 negF (den C a).e)
  | .cmp op a b => mkT (f2 (cmpF op) (den C a).e (den C b).e) (bF (f2 (cmpF op) (den C a).e (den C b).e))
  | .cmp2 o1 o2 a b c => mkT (fChain (cmpF o1) (cmpF o2) (den C a).e (den C b).e (den C c).e) (bF (fChain (cmpF o1) (cmpF o2) (den C a).e (den C b).e (den C c).e))
  | .and a b => mkT (andF (den C a).e (den C b).e) (tAndF (den C a).t (den C b).t)
  | .or a b => mkT (orF (den C a).e (den C b).e) (tOrF (den C a).t (den C b).t)
  | .not a => mkT (notF (den C a).e) (tNotF (den C a).t)
  | .ife c a b => mkE (ifF (den C c).t (den C a).e (den C b).e)
  | .sub a i => mkE (f2 ixF (den C a).e (den C i).e)
  | .slc a lo hi => mkE (slcF (den C a).e (den C lo).o (den C hi).o)
  | .call f es => mkE (callF (C.call f) (C.ar f) (den C es).es)
  | .callK f es np ks perm kes => mkE (callF (C.call f) (C.ar f) (kwF (den C es).es (den C kes).es np ks.length perm))
  | .bi b es => mkE (fA (biF b) (den C es).es)
  | .isi ts a => mkE (isiF ts (den C a).e)
  | .mi m o es => mkE (msF m (den C o).e (if m.nullary = true then aNil else (den C es).es))
  | .comp own t it c e => mkE (compF (den C it).s t (own.map (·.2)) (den C c).t (den C e).e)
  | .rng1 a => mkS (rngF1 (den C a).e)
  | .rng2 a b => mkS (rngF2 (den C a).e (den C b).e)
  | .enum a => mkS (enumF (den C a).e)
  | .eDead => mkT dead dead
  | .sDead => mkX deadS
  | .app o e => mkE (appF (den C o).e (den C e).e)
  | .lstC a => mkE (lstMF (den C a).e)
  | .lrg a => mkE (lrgF (den C a).e)
  | .dicC a => mkE (dicMF (den C a).e)
  | .dic0 => mkE dic0F
  | .sPar2 i j es => mkX (parF2 i j (den C es).es)
  | .sPar3 i j l es => mkX (parF3 i j l (den C es).es)
  | .sAsg t e => mkX (asgF t (den C e).e)
  | .sComp i own t it c e => mkX (asgF (.nm i) (compF (den C it).s t (own.map (·.2)) (den C c).t (den C e).e))
  | .sSub o i e => mkX (subF' (den C o).e (den C i).e (den C e).e)
  | .sAug i op e => mkX (augF i op (den C e).e)
  | .sIf c a b => mkX (ifS (den C c).t (den C a).x (den C b).x)
  | .sFor t it body => mkX (forF t (den C it).s (den C body).x)
  | .sWh n c body => mkX (whV (den C c).t (den C body).x n)
  | .sRet e => mkX (retF (den C e).e)
  | .sRetN => mkX retN
  | .sExp e => mkX (expF (den C e).e)
  | .sPass => mkX nilF
  | .sBrk => mkX brkF
  | .sCnt => mkX cntF
  | .sRaise c fl es => mkX (raiseF c fl (den C es).es)
  | .sTry b hs => mkX (tryF (den C b).x hs)
  | .sPutD o i e => mkX (putDF (den C o).e (den C i).e (den C e).e)

/-- what stands around: which defs there are and how they are called, the built-ins, the constants -/
structure Tb where
  fs : List Str
  kw : List (Str × Nat × List Str × List Nat)
  bs : List Str
  cs : List (Str × AV)
  xs : List (Str × List Str) := []
  xm : List (Str × Str × Bool) := []
  xc : List Str := []

structure Chk where
  e : Scope → Expr → Bool := fun _ _ => false
  es : Scope → List Expr → Bool := fun _ _ => false
  t : Scope → Expr → Bool := fun _ _ => false
  o : Scope → Option Expr → Bool := fun _ _ => false
  s : Scope → Expr → Expr → Bool := fun _ _ _ => false
  x : Scope → Stmt → Bool := fun _ _ => false
  xs : Scope → List Stmt → Bool := fun _ _ => false
  bo : Scope → BoolOp → List Expr → Bool := fun _ _ _ => false
  bt : Scope → BoolOp → List Expr → Bool := fun _ _ _ => false
  ks : Scope → List Keyword → Bool := fun _ _ => false
  ifs : Scope → List Expr → Bool := fun _ _ => false
def plainT : Expr → Bool | .UnaryOp .Not _ _ => false | .BoolOp .. => false | .IfExp .. => false | .Compare .. => false | _ => true
theorem plainT_of {e : Expr} (h : plainT e = true) (env : Env) (whole : Sem Value) : isTrue e env whole = (do let v ← whole; standAt e.pos; holding [v] (truthy v)) := by
  cases e with
  | UnaryOp op a pos => cases op <;> first | rfl | exact absurd h Bool.false_ne_true
  | _ => first | rfl | exact absurd h Bool.false_ne_true
def noSet : Expr → Bool | .Set .. => false | _ => true
theorem noSet_of {e : Expr} (h : noSet e = true) (env : Env) (x : Value) : foldedSetIterable e env x = pure x := by
  cases e <;> first | rfl | exact absurd h Bool.false_ne_true
def one (f : Scope → Expr → Bool) : Scope → List Expr → Bool := fun sc l => match l with | [x] => f sc x | _ => false
def ckT (f g : Scope → Expr → Bool) : Chk :=
  { e := f, t := g, o := fun sc o => match o with | some e => f sc e | none => false, s := fun sc _ e => noSet e && f sc e, bo := fun sc _ l => one f sc l, bt := fun sc _ l => one g sc l, ifs := one g }
def ckE (f : Scope → Expr → Bool) : Chk := ckT f fun sc e => plainT e && f sc e
def ckX (f : Scope → Stmt → Bool) : Chk := { x := f }
def ckS (f : Scope → Expr → Expr → Bool) : Chk := { s := f }
def okNm (N : List Str) (sc : Scope) (i : Nat) (x : Str) : Bool := decide (N[i]? = some x) && isVis sc x && !(x == ("__debug__" : Str)) && !(x == ("__classdict__" : Str))
mutual
def ckTP (N : List Str) (sc : Scope) : TP → Expr → Bool
  | .nm i, .Name x _ => decide (N[i]? = some x) && isLoc sc x
  | .tp l, .Tuple es _ _ => es.all notSt && ckTPs N sc l es
  | _, _ => false
def ckTPs (N : List Str) (sc : Scope) : List TP → List Expr → Bool
  | [], [] => true
  | t :: l, e :: es => notSt e && ckTP N sc t e && ckTPs N sc l es
  | _, _ => false
end
def ckComp (N : List Str) (sc : Scope) (own : List (Str × Nat)) (t : TP) (it c e : Chk) : Expr → Bool
  | .ListComp elt [⟨tg, iter, ifs, 0⟩] scope _ => blkC N sc scope own && t.slots.all (fun i => (own.map (·.2)).contains i) && noSet iter && it.s sc tg iter && ckTP N scope t tg && c.ifs scope ifs && e.e scope elt
  | _ => false
def okEr (N : List Str) (sc : Scope) (i : Option Nat) (n : Str) : Bool := match i with | some j => okNm N sc j n | none => false
def ckIt (tb : Tb) (N : List Str) (sc : Scope) (i : Option Nat) : SI → Expr → Bool
  | .str z, .Constant (.str y) _ _ => decide (y = z)
  | .non, .Constant .none _ _ => true
  | .bl b, .Constant (.bool c) _ _ => decide (c = b)
  | .int n, .Constant (.int m) _ _ => decide (m = n)
  | .fld f cs, .Attribute (.Name n _) g _ => decide (g = f) && okEr N sc i n && cs.all fun c => match tb.xs.lookup c with | some fl => fl.contains f | none => false
  | .isx c yes no, .Call (.Name q _) [.Name n _, .Name c' _] [] _ => decide (q = "isinstance") && decide (c' = c) && isGl sc q && isGl sc c && tb.bs.contains q && !(c == ("__debug__" : Str)) && okEr N sc i n && (yes ++ no).all (fun y => (tb.xs.lookup y).isSome) &&
    yes.all (fun y => tb.xm.contains (y, c, true)) && no.all (fun y => tb.xm.contains (y, c, false))
  | _, _ => false
def ckIts (tb : Tb) (N : List Str) (sc : Scope) (i : Option Nat) : List SI → List Expr → Bool
  | [], [] => true
  | it :: l, e :: es => notSt e && ckIt tb N sc i it e && ckIts tb N sc i l es
  | _, _ => false
def ckSf (tb : Tb) (N : List Str) (sc : Scope) (i : Option Nat) : SF → Expr → Bool
  | .retL _ l, .List es _ => ckIts tb N sc i l es
  | .ret1 it, e => ckIt tb N sc i it e
  | _, _ => false
def ckCn (N : List Str) (sc : Scope) : Option Str → Option Nat → Bool
  | none, none => true
  | some n, some i => decide (N[i]? = some n) && isLo sc n
  | _, _ => false
def ckHds (tb : Tb) (N : List Str) (sc : Scope) : List Hd → List ExceptHandler → Bool
  | [], [] => true
  | h :: hs, .ExceptHandler (some (.Name x _)) o [.Return (some e) _] _ :: r => decide (x = h.c) && isGl sc x && !(x == ("__debug__" : Str)) && tb.xc.contains x && ckCn N sc o h.i && h.yes.all (fun y => tb.xm.contains (y, h.c, true)) && h.no.all (fun y => tb.xm.contains (y, h.c, false)) &&
    ckSf tb N sc h.i h.s e && ckHds tb N sc hs r
  | _, _ => false
def chk (tb : Tb) (N : List Str) : T → Chk
  | .nil => { es := fun _ l => l.isEmpty, o := fun _ o => o.isNone, xs := fun _ l => l.isEmpty, ks := fun _ l => l.isEmpty, ifs := fun _ l => l.isEmpty }
  | .cons a b => { es := fun sc l => match l with | e :: es => notSt e && (chk tb N a).e sc e && (chk tb N b).es sc es | [] => false,
                   xs := fun sc l => match l with | s :: ss => (chk tb N a).x sc s && (chk tb N b).xs sc ss | [] => false,
                   ks := fun sc l => match l with | ⟨_, e, _⟩ :: r => (chk tb N a).e sc e && (chk tb N b).ks sc r | [] => false }
  | .var i => ckE fun sc e => match e with | .Name x _ => okNm N sc i x | _ => false
  | .cI n => ckE fun _ e => match e with | .Constant (.int m) _ _ => decide (m = n) | _ => false
  | .cS z => ckE fun _ e => match e with | .Constant (.str y) _ _ => decide (y = z) | _ => false
  | .cB b => ckE fun _ e => match e with | .Constant (.bool c) _ _ => decide (c = b) | _ => false
  | .cN => ckE fun _ e => match e with | .Constant .none _ _ => true | _ => false
  | .gl x v => ckE fun sc e => match e with | .Name y _ => decide (y = x) && isGl sc x && !(x == ("__debug__" : Str)) && (match tb.cs.lookup x with | some u => u.bq v | none => false) | _ => false
  | .tup es => ckE fun sc e => match e with | .Tuple l _ _ => (chk tb N es).es sc l | _ => false
  | .lst es => ckE fun sc e => match e with | .List l _ => (chk tb N es).es sc l | _ => false
  | .lstM es => ckE fun sc e => match e with | .List l _ => (chk tb N es).es sc l | _ => false
  | .bin op a b => ckE fun sc e => match e with | .BinOp x o y _ => decide (o = op) && (chk tb N a).e sc x && (chk tb N b).e sc y | _ => false
  | .neg a => ckE fun sc e => match e with | .UnaryOp .USub x _ => (chk tb N a).e sc x | _ => false
  | .cmp op a b => let f := fun sc (e : Expr) => match e with | .Compare x [o] [y] _ => decide (o = op) && noSet y && (chk tb N a).e sc x && (chk tb N b).e sc y | _ => false
    ckT f f
  | .cmp2 o1 o2 a b c => let f := fun sc (e : Expr) => match e with | .Compare x [p1, p2] [y, z] _ => decide (p1 = o1) && decide (p2 = o2) && noSet z && (chk tb N a).e sc x && (chk tb N b).e sc y && (chk tb N c).e sc z | _ => false
    ckT f f
  | .and a b => { ckT (fun sc e => match e with | .BoolOp .And (x :: y :: r) _ => (chk tb N a).e sc x && (chk tb N b).bo sc .And (y :: r) | _ => false) (fun sc e => match e with | .BoolOp .And (x :: y :: r) _ => (chk tb N a).t sc x && (chk tb N b).bt sc .And (y :: r) | _ => false) with
      bo := fun sc op l => match op, l with | .And, x :: y :: r => (chk tb N a).e sc x && (chk tb N b).bo sc .And (y :: r) | _, [.BoolOp .And (x :: y :: r) _] => (chk tb N a).e sc x && (chk tb N b).bo sc .And (y :: r) | _, _ => false,
      bt := fun sc op l => match op, l with | .And, x :: y :: r => (chk tb N a).t sc x && (chk tb N b).bt sc .And (y :: r) | _, [.BoolOp .And (x :: y :: r) _] => (chk tb N a).t sc x && (chk tb N b).bt sc .And (y :: r) | _, _ => false }
  | .or a b => { ckT (fun sc e => match e with | .BoolOp .Or (x :: y :: r) _ => (chk tb N a).e sc x && (chk tb N b).bo sc .Or (y :: r) | _ => false) (fun sc e => match e with | .BoolOp .Or (x :: y :: r) _ => (chk tb N a).t sc x && (chk tb N b).bt sc .Or (y :: r) | _ => false) with
      bo := fun sc op l => match op, l with | .Or, x :: y :: r => (chk tb N a).e sc x && (chk tb N b).bo sc .Or (y :: r) | _, [.BoolOp .Or (x :: y :: r) _] => (chk tb N a).e sc x && (chk tb N b).bo sc .Or (y :: r) | _, _ => false,
      bt := fun sc op l => match op, l with | .Or, x :: y :: r => (chk tb N a).t sc x && (chk tb N b).bt sc .Or (y :: r) | _, [.BoolOp .Or (x :: y :: r) _] => (chk tb N a).t sc x && (chk tb N b).bt sc .Or (y :: r) | _, _ => false }
  | .not a => ckT (fun sc e => match e with | .UnaryOp .Not x _ => (chk tb N a).e sc x | _ => false) (fun sc e => match e with | .UnaryOp .Not x _ => (chk tb N a).t sc x | _ => false)
  | .ife c a b => ckE fun sc e => match e with | .IfExp t x y _ => (chk tb N c).t sc t && (chk tb N a).e sc x && (chk tb N b).e sc y | _ => false
  | .sub a i => ckE fun sc e => match e with | .Subscript x y _ => noSlice y && (chk tb N a).e sc x && (chk tb N i).e sc y | _ => false
  | .slc a lo hi => ckE fun sc e => match e with | .Subscript x (.Slice l h none _) _ => (chk tb N a).e sc x && (chk tb N lo).o sc l && (chk tb N hi).o sc h | _ => false
  | .call f es => ckE fun sc e => match e with | .Call (.Name x _) l [] _ => decide (x = f) && isGl sc x && tb.fs.contains x && !(x == ("__debug__" : Str)) && l.all notSt && (!l.isEmpty || es.isNil) && (chk tb N es).es sc l | _ => false
  | .callK f es np ks perm kes => ckE fun sc e => match e with | .Call (.Name x _) l kws _ => decide (x = f) && isGl sc x && tb.fs.contains x && !(x == ("__debug__" : Str)) && l.all notSt && tb.kw.contains (f, np, ks, perm) && decide (kwNames kws = some ks) && (!l.isEmpty || es.isNil) && (chk tb N es).es sc l && (chk tb N kes).ks sc kws | _ => false
  | .bi b es => ckE fun sc e => match e with | .Call (.Name x _) (e :: l) [] _ => decide (x = b.name) && isGl sc x && tb.bs.contains x && (e :: l).all notSt && (chk tb N es).es sc (e :: l) | _ => false
  | .isi ts a => ckE fun sc e => match e with
    | .Call (.Name x _) [y, .Name t _] [] _ => (match ts with | [u] => decide (x = "isinstance") && decide (t = u.name) && isGl sc x && isGl sc t && tb.bs.contains x && tb.bs.contains t && notSt y && (chk tb N a).e sc y | _ => false)
    | .Call (.Name x _) [y, .Tuple [.Name t _, .Name t' _] _ _] [] _ => (match ts with | [u, u'] => decide (x = "isinstance") && decide (t = u.name) && decide (t' = u'.name) && isGl sc x && isGl sc t && isGl sc t' && tb.bs.contains x && tb.bs.contains t && tb.bs.contains t' && notSt y && (chk tb N a).e sc y | _ => false)
    | _ => false
  | .mi m o es => ckE fun sc e => match e with
    | .Call (.Attribute x n ap) l [] cp => decide (n = m.name) && plainBase x && (ap.endLine == cp.line) && l.all notSt && decide (l.length < 30) && (m.nullary == l.isEmpty) && (chk tb N o).e sc x && (chk tb N es).es sc l
    | _ => false
  | .comp own t it c e => ckE fun sc x => ckComp N sc own t (chk tb N it) (chk tb N c) (chk tb N e) x
  | .rng1 a => ckS fun sc _ e => match e with | .Call (.Name x _) [y] [] _ => decide (x = "range") && isGl sc x && tb.bs.contains x && notSt y && (chk tb N a).e sc y | _ => false
  | .rng2 a b => ckS fun sc _ e => match e with | .Call (.Name x _) [y, z] [] _ => decide (x = "range") && isGl sc x && tb.bs.contains x && notSt y && notSt z && (chk tb N a).e sc y && (chk tb N b).e sc z | _ => false
  | .enum a => ckS fun sc tg e => match tg, e with | .Tuple _ _ _, .Call (.Name x _) [y] [] _ => decide (x = "enumerate") && isGl sc x && tb.bs.contains x && notSt y && (chk tb N a).e sc y | _, _ => false
  | .eDead => ckT (fun _ _ => true) (fun _ _ => true)
  | .sDead => ckX fun _ _ => true
  | .app o a => ckE fun sc e => match e with | .Call (.Attribute x n ap) [y] [] cp => decide (n = "append") && plainBase x && (ap.endLine == cp.line) && notSt y && (chk tb N o).e sc x && (chk tb N a).e sc y | _ => false
  | .lstC a => ckE fun sc e => match e with | .Call (.Name x _) [y] [] _ => decide (x = "list") && isGl sc x && tb.bs.contains x && notSt y && (chk tb N a).e sc y | _ => false
  | .lrg a => ckE fun sc e => match e with | .Call (.Name x _) [.Call (.Name z _) [y] [] _] [] _ => decide (x = "list") && decide (z = "range") && isGl sc x && isGl sc z && tb.bs.contains x && tb.bs.contains z && notSt y && (chk tb N a).e sc y | _ => false
  | .dicC a => ckE fun sc e => match e with | .Call (.Name x _) [y] [] _ => decide (x = "dict") && isGl sc x && tb.bs.contains x && notSt y && (chk tb N a).e sc y | _ => false
  | .dic0 => ckE fun _ e => match e with | .Dict [] [] _ => true | _ => false
  | .sPar2 i j es => ckX fun sc s => match s with
    | .Assign [.Tuple [.Name x p1, .Name y p2] _ _] (.Tuple [a, b] _ _) _ => decide (N[i]? = some x) && decide (N[j]? = some y) && decide (i ≠ j) && isLo sc x && isLo sc y && isSwap sc [.Name x p1, .Name y p2] [a, b] [x, y] && (chk tb N es).es sc [a, b]
    | _ => false
  | .sPar3 i j l es => ckX fun sc s => match s with
    | .Assign [.Tuple [.Name x p1, .Name y p2, .Name z p3] _ _] (.Tuple [a, b, c] _ _) _ => decide (N[i]? = some x) && decide (N[j]? = some y) && decide (N[l]? = some z) && decide (i ≠ j) && decide (i ≠ l) && decide (j ≠ l) && isLo sc x && isLo sc y && isLo sc z && isSwap sc [.Name x p1, .Name y p2, .Name z p3] [a, b, c] [x, y, z] && (chk tb N es).es sc [a, b, c]
    | _ => false
  | .sAsg t e => ckX fun sc s => match s with | .Assign [tg] v _ => notLC v && notSt tg && noSwap sc tg v && ckTP N sc t tg && (chk tb N e).e sc v | _ => false
  | .sComp i own t it c e => ckX fun sc s => match s with
    | .Assign [.Name y py] (.ListComp elt gs scope pos) _ => decide (N[i]? = some y) && isLo sc y && (py.line == pos.line) && !(scope.names.any fun (n, k) => n == y && (k == .local || k == .cell)) && ckComp N sc own t (chk tb N it) (chk tb N c) (chk tb N e) (.ListComp elt gs scope pos)
    | _ => false
  | .sSub o i e => ckX fun sc s => match s with | .Assign [.Subscript x y _] v _ => notLC v && noSlice y && (chk tb N o).e sc x && (chk tb N i).e sc y && (chk tb N e).e sc v | _ => false
  | .sPutD o i e => ckX fun sc s => match s with | .Assign [.Subscript x y _] v _ => notLC v && noSlice y && (chk tb N o).e sc x && (chk tb N i).e sc y && (chk tb N e).e sc v | _ => false
  | .sAug i op e => ckX fun sc s => match s with | .AugAssign (.Name x _) o v _ => decide (o = op) && decide (N[i]? = some x) && isLoc sc x && (chk tb N e).e sc v | _ => false
  | .sIf c a b => ckX fun sc s => match s with | .If t x y _ => (chk tb N c).t sc t && (chk tb N a).xs sc x && (chk tb N b).xs sc y | _ => false
  | .sFor t it body => ckX fun sc s => match s with | .For tg iter b [] _ => noSet iter && ckTP N sc t tg && (chk tb N it).s sc tg iter && (chk tb N body).xs sc b | _ => false
  | .sWh _ c body => ckX fun sc s => match s with | .While t b [] _ => (chk tb N c).t sc t && (chk tb N body).xs sc b | _ => false
  | .sRet e => ckX fun sc s => match s with | .Return (some v) _ => (chk tb N e).e sc v | _ => false
  | .sRetN => ckX fun _ s => match s with | .Return none _ => true | _ => false
  | .sExp e => ckX fun sc s => match s with | .Expr v _ => notLC v && (chk tb N e).e sc v | _ => false
  | .sPass => ckX fun _ s => match s with | .Pass _ => true | _ => false
  | .sBrk => ckX fun _ s => match s with | .Break _ => true | _ => false
  | .sCnt => ckX fun _ s => match s with | .Continue _ => true | _ => false
  | .sRaise c fl es => ckX fun sc s => match s with | .Raise (some (.Call (.Name x _) (e :: l) [] _)) none _ => decide (x = c) && isGl sc x && !(x == ("__debug__" : Str)) && (e :: l).all notSt && decide (tb.xs.lookup c = some fl) && (chk tb N es).es sc (e :: l) | _ => false
  | .sTry b hs => ckX fun sc s => match s with | .Try body (h0 :: hds) [] [] _ => (chk tb N b).xs sc body && ckHds tb N sc hs (h0 :: hds) | _ => false
end Ko

/-! Ko, part O: the tree is the text's: it does what it means. -/
namespace Ko
open PySem L2
def glV (K : PySem.W.Frag) (mg : Str → Option Value) (x : Str) (v : AV) : Prop := ∃ u, mg x = some u ∧ ∃ w, RelV w u ∧ ∀ W : Wd, W.RV K v w
/-- what stands around is so -/
structure TbOk (P : Program) (w : World) (K : PySem.W.Frag) (mg : Str → Option Value) (base : Heap) (nm : Nm) (k : Nat) (tb : Tb) (C : Ops) : Prop where
  fs : ∀ f, tb.fs.contains f = true → ∃ fa fd ps, mg f = some (.ref fa) ∧ PySem.W.keepIn K (.ref fa) = true ∧ Binds K fd ps [] ∧ ps.length = C.ar f ∧ FnG P w K mg base nm k fa fd ps (C.call f) ∧
    ∀ np ks perm, tb.kw.contains (f, np, ks, perm) = true → KwB K fd ps ks np perm
  bs : ∀ x, tb.bs.contains x = true → mg x = none
  cs : ∀ x v, tb.cs.lookup x = some v → glV K mg x v
  xs : ∀ c fl, tb.xs.lookup c = some fl → XMk P w K mg base nm c fl ∧ XRd K nm c fl
  xm : ∀ y c b, tb.xm.contains (y, c, b) = true → XIn K nm mg y c b
  xc : ∀ c, tb.xc.contains c = true → ∃ D, mg c = some (.ref D)
/-- a def's own frame -/
structure Sco (X : Cx) (sc : Scope) : Prop where
  sc : X.env.scope = sc
  stk : X.stack = X.env :: X.outer
  fr : X.env.frame = some X.env.locals
section
variable {nm : Nm} {k : Nat} {tb : Tb} {C : Ops}
abbrev At (nm : Nm) (k : Nat) (tb : Tb) (C : Ops) (X : Cx) : Prop := TbOk X.prog X.w X.K X.mg X.base nm k tb C
/-- the tree does what it means -/
structure Ok (nm : Nm) (k : Nat) (tb : Tb) (C : Ops) (r : T) : Prop where
  e : ∀ (X : Cx) (sc : Scope) (Wx : WX), At nm k tb C X → Ctx (k + 1) sc X Wx → ∀ e : Expr, (chk tb X.N r).e sc e = true → EV nm X Wx e (den C r).e
  es : ∀ (X : Cx) (sc : Scope) (Wx : WX), At nm k tb C X → Ctx (k + 1) sc X Wx → ∀ e : List Expr, (chk tb X.N r).es sc e = true → EA nm X Wx e (den C r).es
  t : ∀ (X : Cx) (sc : Scope) (Wx : WX), At nm k tb C X → Ctx (k + 1) sc X Wx → ∀ e : Expr, (chk tb X.N r).t sc e = true → ET nm X Wx e (den C r).t
  o : ∀ (X : Cx) (sc : Scope) (Wx : WX), At nm k tb C X → Ctx (k + 1) sc X Wx → ∀ e : Option Expr, (chk tb X.N r).o sc e = true → EO nm X Wx e (den C r).o
  s : ∀ (X : Cx) (sc : Scope) (Wx : WX), At nm k tb C X → Ctx (k + 1) sc X Wx → ∀ tg e : Expr, (chk tb X.N r).s sc tg e = true → EI nm X Wx tg e (den C r).s
  x : ∀ (X : Cx) (sc : Scope) (Wx : WX), At nm k tb C X → Ctx (k + 1) sc X Wx → Sco X sc → ∀ e : Stmt, (chk tb X.N r).x sc e = true → ES nm X Wx e (den C r).x
  xs : ∀ (X : Cx) (sc : Scope) (Wx : WX), At nm k tb C X → Ctx (k + 1) sc X Wx → Sco X sc → ∀ e : List Stmt, (chk tb X.N r).xs sc e = true → ESs nm X Wx e (den C r).x
  bo : ∀ (X : Cx) (sc : Scope) (Wx : WX), At nm k tb C X → Ctx (k + 1) sc X Wx → ∀ (op : BoolOp) (l : List Expr) (pos : Pos), (chk tb X.N r).bo sc op l = true → EV nm X Wx (.BoolOp op l pos) (den C r).e
  bt : ∀ (X : Cx) (sc : Scope) (Wx : WX), At nm k tb C X → Ctx (k + 1) sc X Wx → ∀ (op : BoolOp) (l : List Expr) (pos : Pos), (chk tb X.N r).bt sc op l = true → EW nm X Wx (.BoolOp op l pos) (den C r).t
  ks : ∀ (X : Cx) (sc : Scope) (Wx : WX), At nm k tb C X → Ctx (k + 1) sc X Wx → ∀ e : List Keyword, (chk tb X.N r).ks sc e = true → EK nm X Wx e (den C r).es
  ifs : ∀ (X : Cx) (sc : Scope) (Wx : WX), At nm k tb C X → Ctx (k + 1) sc X Wx → ∀ e : List Expr, (chk tb X.N r).ifs sc e = true → PTs X e (TrT nm X.K Wx (den C r).t)
theorem one_of {f : Scope → Expr → Bool} {sc : Scope} {l : List Expr} (h : one f sc l = true) : ∃ x, l = [x] ∧ f sc x = true := by
  unfold one at h
  split at h
  · exact ⟨_, rfl, h⟩
  · cases h
theorem okT {t : T} {F : Rho → AH → Ot AV} {G : Rho → AH → Ot Bool} {f g : List Str → Scope → Expr → Bool} (hc : ∀ N, chk tb N t = ckT (f N) (g N)) (hd : den C t = mkT F G)
    (he : ∀ (X : Cx) (sc : Scope) (Wx : WX), At nm k tb C X → Ctx (k + 1) sc X Wx → ∀ e : Expr, f X.N sc e = true → EV nm X Wx e F)
    (ht : ∀ (X : Cx) (sc : Scope) (Wx : WX), At nm k tb C X → Ctx (k + 1) sc X Wx → ∀ e : Expr, g X.N sc e = true → ET nm X Wx e G) : Ok nm k tb C t where
  e := fun X sc Wx D c e h => by rw [hc] at h; rw [hd]; exact he X sc Wx D c e h
  es := fun X sc Wx D c e h => by rw [hc] at h; cases h
  t := fun X sc Wx D c e h => by rw [hc] at h; rw [hd]; exact ht X sc Wx D c e h
  o := fun X sc Wx D c e h => by
    rw [hc] at h; rw [hd]
    cases e with
    | none => cases h
    | some e => exact eo_some (he X sc Wx D c e h)
  s := fun X sc Wx D c tg e h => by
    rw [hc] at h; rw [hd]
    have h : (noSet e && f X.N sc e) = true := h
    rw [Bool.and_eq_true] at h
    exact ei_seq (he X sc Wx D c e h.2)
  x := fun X sc Wx D c i e h => by rw [hc] at h; cases h
  xs := fun X sc Wx D c i e h => by rw [hc] at h; cases h
  bo := fun X sc Wx D c op l pos h => by
    rw [hc] at h; rw [hd]
    obtain ⟨x, rfl, h⟩ := one_of h
    exact ev_one (he X sc Wx D c x h)
  bt := fun X sc Wx D c op l pos h => by
    rw [hc] at h; rw [hd]
    obtain ⟨x, rfl, h⟩ := one_of h
    exact ew_one (ht X sc Wx D c x h)
  ks := fun X sc Wx D c e h => by rw [hc] at h; cases h
  ifs := fun X sc Wx D c l h => by
    rw [hc] at h; rw [hd]
    obtain ⟨x, rfl, h⟩ := one_of h
    exact pts_one (ht X sc Wx D c x h)
theorem okE {t : T} {F : Rho → AH → Ot AV} {f : List Str → Scope → Expr → Bool} (hc : ∀ N, chk tb N t = ckE (f N)) (hd : den C t = mkE F)
    (he : ∀ (X : Cx) (sc : Scope) (Wx : WX), At nm k tb C X → Ctx (k + 1) sc X Wx → ∀ e : Expr, f X.N sc e = true → EV nm X Wx e F) : Ok nm k tb C t :=
  okT (F := F) (G := tF F) (f := f) (g := fun N sc e => plainT e && f N sc e) hc hd he fun X sc Wx D c e h => by
    have h : (plainT e && f X.N sc e) = true := h
    rw [Bool.and_eq_true] at h
    exact et_truth (he X sc Wx D c e h.2) fun whole => plainT_of h.1 X.env whole
theorem okX {t : T} {F : Rho → AH → SR} {f : List Str → Scope → Stmt → Bool} (hc : ∀ N, chk tb N t = ckX (f N)) (hd : den C t = mkX F)
    (hx : ∀ (X : Cx) (sc : Scope) (Wx : WX), At nm k tb C X → Ctx (k + 1) sc X Wx → Sco X sc → ∀ e : Stmt, f X.N sc e = true → ES nm X Wx e F) : Ok nm k tb C t where
  e := fun X sc Wx D c e h => by rw [hc] at h; cases h
  es := fun X sc Wx D c e h => by rw [hc] at h; cases h
  t := fun X sc Wx D c e h => by rw [hc] at h; cases h
  o := fun X sc Wx D c e h => by rw [hc] at h; cases h
  s := fun X sc Wx D c tg e h => by rw [hc] at h; cases h
  x := fun X sc Wx D c i e h => by rw [hc] at h; rw [hd]; exact hx X sc Wx D c i e h
  xs := fun X sc Wx D c i e h => by rw [hc] at h; cases h
  bo := fun X sc Wx D c op l pos h => by rw [hc] at h; cases h
  bt := fun X sc Wx D c op l pos h => by rw [hc] at h; cases h
  ks := fun X sc Wx D c e h => by rw [hc] at h; cases h
  ifs := fun X sc Wx D c e h => by rw [hc] at h; cases h
theorem okS {t : T} {F : Rho → AH → Ot Sr} {f : List Str → Scope → Expr → Expr → Bool} (hc : ∀ N, chk tb N t = ckS (f N)) (hd : den C t = mkS F)
    (hs : ∀ (X : Cx) (sc : Scope) (Wx : WX), At nm k tb C X → Ctx (k + 1) sc X Wx → ∀ tg e : Expr, f X.N sc tg e = true → EI nm X Wx tg e F) : Ok nm k tb C t where
  e := fun X sc Wx D c e h => by rw [hc] at h; cases h
  es := fun X sc Wx D c e h => by rw [hc] at h; cases h
  t := fun X sc Wx D c e h => by rw [hc] at h; cases h
  o := fun X sc Wx D c e h => by rw [hc] at h; cases h
  s := fun X sc Wx D c tg e h => by rw [hc] at h; rw [hd]; exact hs X sc Wx D c tg e h
  x := fun X sc Wx D c i e h => by rw [hc] at h; cases h
  xs := fun X sc Wx D c i e h => by rw [hc] at h; cases h
  bo := fun X sc Wx D c op l pos h => by rw [hc] at h; cases h
  bt := fun X sc Wx D c op l pos h => by rw [hc] at h; cases h
  ks := fun X sc Wx D c e h => by rw [hc] at h; cases h
  ifs := fun X sc Wx D c e h => by rw [hc] at h; cases h
theorem noSet_behind {op : CmpOp} {e : Expr} (h : noSet e = true) : behindInMarks op e = false := by
  cases e <;> first | rfl | exact absurd h Bool.false_ne_true
theorem eg_len {N : List Str} {sc : Scope} : ∀ (t : List TP) (e : List Expr), ckTPs N sc t e = true → e.length = t.length
  | [], [], _ => rfl
  | t :: l, e :: es, h => by
    unfold ckTPs at h
    simp only [Bool.and_eq_true] at h
    simp [eg_len l es h.2]
  | [], _ :: _, h => by unfold ckTPs at h; cases h
  | _ :: _, [], h => by unfold ckTPs at h; cases h
mutual
theorem eg_tp {X : Cx} {sc : Scope} {Wx : WX} (c : Ctx k sc X Wx) : ∀ (t : TP) (e : Expr), ckTP X.N sc t e = true → PG X e (TrG nm X.K t)
  | .nm i, e, h => by
    cases e with
    | Name x p =>
      simp only [ckTP, Bool.and_eq_true, decide_eq_true_eq] at h
      obtain ⟨h2, h3⟩ := c.loc _ h.2
      exact eg_name c.nd h.1 h2 h3
    | _ => simp [ckTP] at h
  | .tp l, e, h => by
    cases e with
    | Tuple es kk p =>
      simp only [ckTP, Bool.and_eq_true] at h
      exact eg_tup c.calm (eg_tps c l _ h.2) h.1 (eg_len l _ h.2)
    | _ => simp [ckTP] at h
theorem eg_tps {X : Cx} {sc : Scope} {Wx : WX} (c : Ctx k sc X Wx) : ∀ (t : List TP) (e : List Expr), ckTPs X.N sc t e = true → PGs X e (TrGs nm X.K t)
  | [], [], _ => egs_nil
  | t :: l, e :: es, h => by
    unfold ckTPs at h
    simp only [Bool.and_eq_true] at h
    exact egs_cons (eg_tp c t e h.1.2) (eg_tps c l es h.2) h.1.1
  | [], _ :: _, h => by unfold ckTPs at h; cases h
  | _ :: _, [], h => by unfold ckTPs at h; cases h
end
end
end Ko

/-! Ko, part P: the tree is the text's: it does what it means (all trees). -/
namespace Ko
open PySem L2
section
variable {nm : Nm} {k : Nat} {tb : Tb} {C : Ops}
theorem o_nil : Ok nm k tb C .nil where
  e := fun X sc Wx D c e h => by cases h
  es := fun X sc Wx D c e h => by
    cases e with
    | nil => exact ea_nil
    | cons => cases h
  t := fun X sc Wx D c e h => by cases h
  o := fun X sc Wx D c e h => by
    cases e with
    | none => exact eo_none
    | some => cases h
  s := fun X sc Wx D c tg e h => by cases h
  x := fun X sc Wx D c i e h => by cases h
  xs := fun X sc Wx D c i e h => by
    cases e with
    | nil => exact es_nil
    | cons => cases h
  bo := fun X sc Wx D c op l pos h => by cases h
  bt := fun X sc Wx D c op l pos h => by cases h
  ks := fun X sc Wx D c e h => by
    cases e with
    | nil => exact ek_nil
    | cons => cases h
  ifs := fun X sc Wx D c e h => by
    cases e with
    | nil => exact ⟨fun pins s σ H Q I h => pts_nil.run pins s σ H Q I (by
        obtain ⟨W, ρ, ah, rh, rs, p⟩ := h
        exact p W H (Step.refl _ _) rh)⟩
    | cons => cases h
theorem o_cons {a b : T} (ia : Ok nm k tb C a) (ib : Ok nm k tb C b) : Ok nm k tb C (.cons a b) where
  e := fun X sc Wx D c e h => by cases h
  es := fun X sc Wx D c e h => by
    cases e with
    | nil => cases h
    | cons e es =>
      have h : (notSt e && (chk tb X.N a).e sc e && (chk tb X.N b).es sc es) = true := h
      simp only [Bool.and_eq_true, decide_eq_true_eq, Bool.not_eq_true', okNm] at h
      exact ea_cons (ia.e X sc Wx D c e h.1.2) (ib.es X sc Wx D c es h.2) (star_cons h.1.1)
  t := fun X sc Wx D c e h => by cases h
  o := fun X sc Wx D c e h => by cases h
  s := fun X sc Wx D c tg e h => by cases h
  x := fun X sc Wx D c i e h => by cases h
  xs := fun X sc Wx D c i e h => by
    cases e with
    | nil => cases h
    | cons e es =>
      have h : ((chk tb X.N a).x sc e && (chk tb X.N b).xs sc es) = true := h
      simp only [Bool.and_eq_true, decide_eq_true_eq, Bool.not_eq_true', okNm] at h
      exact es_cons (ia.x X sc Wx D c i e h.1) (ib.xs X sc Wx D c i es h.2)
  bo := fun X sc Wx D c op l pos h => by cases h
  bt := fun X sc Wx D c op l pos h => by cases h
  ks := fun X sc Wx D c e h => by
    cases e with
    | nil => cases h
    | cons e es =>
      obtain ⟨n, e, p⟩ := e
      have h : ((chk tb X.N a).e sc e && (chk tb X.N b).ks sc es) = true := h
      simp only [Bool.and_eq_true, decide_eq_true_eq, Bool.not_eq_true', okNm] at h
      exact ek_cons (ia.e X sc Wx D c e h.1) (ib.ks X sc Wx D c es h.2)
  ifs := fun X sc Wx D c e h => by cases h
theorem o_var {i : Nat} : Ok nm k tb C (.var i) := okE (fun _ => rfl) rfl fun X sc Wx D c e h => by
  split at h
  · simp only [Bool.and_eq_true, decide_eq_true_eq, Bool.not_eq_true', okNm] at h; exact ev_var h.1.1.1 (c.vis _ h.1.1.2) h.1.2 h.2
  · cases h
theorem o_cI {n : Int} : Ok nm k tb C (.cI n) := okE (fun _ => rfl) rfl fun X sc Wx D c e h => by
  split at h
  · simp only [Bool.and_eq_true, decide_eq_true_eq, Bool.not_eq_true', okNm] at h; subst h; exact ev_int
  · cases h
theorem o_cS {n : Str} : Ok nm k tb C (.cS n) := okE (fun _ => rfl) rfl fun X sc Wx D c e h => by
  split at h
  · simp only [Bool.and_eq_true, decide_eq_true_eq, Bool.not_eq_true', okNm] at h; subst h; exact ev_str
  · cases h
theorem o_cB {n : Bool} : Ok nm k tb C (.cB n) := okE (fun _ => rfl) rfl fun X sc Wx D c e h => by
  split at h
  · simp only [Bool.and_eq_true, decide_eq_true_eq, Bool.not_eq_true', okNm] at h; subst h; exact ev_bl
  · cases h
theorem o_cN : Ok nm k tb C .cN := okE (fun _ => rfl) rfl fun X sc Wx D c e h => by
  split at h
  · exact ev_non
  · cases h
theorem o_dic0 : Ok nm k tb C .dic0 := okE (fun _ => rfl) rfl fun X sc Wx D c e h => by
  split at h
  · exact ev_dic0
  · cases h
theorem o_eDead : Ok nm k tb C .eDead := okT (f := fun _ _ _ => true) (g := fun _ _ _ => true) (fun _ => rfl) rfl (fun X sc Wx D c e h => ev_dead) fun X sc Wx D c e h => et_dead
theorem o_sDead : Ok nm k tb C .sDead := okX (f := fun _ _ _ => true) (fun _ => rfl) rfl fun X sc Wx D c hi e h => es_dead
theorem o_app {a b : T} (ia : Ok nm k tb C a) (ib : Ok nm k tb C b) : Ok nm k tb C (.app a b) := okE (fun _ => rfl) rfl fun X sc Wx D c e h => by
  split at h
  · simp only [Bool.and_eq_true, decide_eq_true_eq] at h
    obtain ⟨⟨⟨⟨⟨rfl, h1⟩, h2⟩, h3⟩, h4⟩, h5⟩ := h
    exact ev_app (ia.e X sc Wx D c _ h4) (ib.e X sc Wx D c _ h5) h1 h2 h3
  · cases h
theorem o_lstC {a : T} (ia : Ok nm k tb C a) : Ok nm k tb C (.lstC a) := okE (fun _ => rfl) rfl fun X sc Wx D c e h => by
  split at h
  · simp only [Bool.and_eq_true, decide_eq_true_eq] at h
    obtain ⟨⟨⟨⟨rfl, h2⟩, h3⟩, h4⟩, h5⟩ := h
    exact ev_lstMF (c.gl _ h2) (D.bs _ h3) (ia.e X sc Wx D c _ h5) h4
  · cases h
theorem o_dicC {a : T} (ia : Ok nm k tb C a) : Ok nm k tb C (.dicC a) := okE (fun _ => rfl) rfl fun X sc Wx D c e h => by
  split at h
  · simp only [Bool.and_eq_true, decide_eq_true_eq] at h
    obtain ⟨⟨⟨⟨rfl, h2⟩, h3⟩, h4⟩, h5⟩ := h
    exact ev_dicM c.calm (c.gl _ h2) (D.bs _ h3) (ia.e X sc Wx D c _ h5) h4
  · cases h
theorem o_lrg {a : T} (ia : Ok nm k tb C a) : Ok nm k tb C (.lrg a) := okE (fun _ => rfl) rfl fun X sc Wx D c e h => by
  split at h
  · simp only [Bool.and_eq_true, decide_eq_true_eq] at h
    obtain ⟨⟨⟨⟨⟨⟨⟨rfl, rfl⟩, h1⟩, h2⟩, h3⟩, h4⟩, h5⟩, h6⟩ := h
    exact ev_lrg c.calm (c.gl _ h1) (D.bs _ h3) (c.gl _ h2) (D.bs _ h4) (ia.e X sc Wx D c _ h6) h5
  · cases h
theorem o_gl {x : Str} {v : AV} : Ok nm k tb C (.gl x v) := okE (fun _ => rfl) rfl fun X sc Wx D c e h => by
  split at h
  · simp only [Bool.and_eq_true, decide_eq_true_eq, Bool.not_eq_true'] at h
    obtain ⟨⟨⟨rfl, h2⟩, h3⟩, h4⟩ := h
    split at h4
    · rename_i u' eu
      have := AV.bq_eq h4
      subst this
      obtain ⟨u, hu, w, hw, hr⟩ := D.cs _ _ eu
      exact ev_of (pe_glob (c.gl _ h2) hu hw h3) hr
    · cases h4
  · cases h
theorem o_tup {a : T} (ia : Ok nm k tb C a) : Ok nm k tb C (.tup a) := okE (fun _ => rfl) rfl fun X sc Wx D c e h => by
  split at h
  · exact ev_tup (ia.es X sc Wx D c _ h)
  · cases h
theorem o_lst {a : T} (ia : Ok nm k tb C a) : Ok nm k tb C (.lst a) := okE (fun _ => rfl) rfl fun X sc Wx D c e h => by
  split at h
  · exact ev_lst (ia.es X sc Wx D c _ h)
  · cases h
theorem o_lstM {a : T} (ia : Ok nm k tb C a) : Ok nm k tb C (.lstM a) := okE (fun _ => rfl) rfl fun X sc Wx D c e h => by
  split at h
  · exact ev_lstM (ia.es X sc Wx D c _ h)
  · cases h
theorem o_bin {op : Operator} {a b : T} (ia : Ok nm k tb C a) (ib : Ok nm k tb C b) : Ok nm k tb C (.bin op a b) := okE (fun _ => rfl) rfl fun X sc Wx D c e h => by
  split at h
  · simp only [Bool.and_eq_true, decide_eq_true_eq, Bool.not_eq_true', okNm] at h; obtain ⟨⟨rfl, h1⟩, h2⟩ := h
    exact ev_bin (op_binF _) (ia.e X sc Wx D c _ h1) (ib.e X sc Wx D c _ h2)
  · cases h
theorem o_neg {a : T} (ia : Ok nm k tb C a) : Ok nm k tb C (.neg a) := okE (fun _ => rfl) rfl fun X sc Wx D c e h => by
  split at h
  · exact ev_un un_negF (ia.e X sc Wx D c _ h)
  · cases h
theorem o_cmp {op : CmpOp} {a b : T} (ia : Ok nm k tb C a) (ib : Ok nm k tb C b) : Ok nm k tb C (.cmp op a b) := okT (fun _ => rfl) rfl (fun X sc Wx D c e h => by
  split at h
  · simp only [Bool.and_eq_true, decide_eq_true_eq, Bool.not_eq_true', okNm] at h; obtain ⟨⟨⟨rfl, h0⟩, h1⟩, h2⟩ := h
    exact ev_cmp (op_cmpF c.sm c.room.units _) (ia.e X sc Wx D c _ h1) (ib.e X sc Wx D c _ h2) (noSet_behind h0)
  · cases h) fun X sc Wx D c e h => by
  split at h
  · simp only [Bool.and_eq_true, decide_eq_true_eq, Bool.not_eq_true', okNm] at h; obtain ⟨⟨⟨rfl, h0⟩, h1⟩, h2⟩ := h
    exact et_cmp (op_cmpF c.sm c.room.units _) (ia.e X sc Wx D c _ h1) (ib.e X sc Wx D c _ h2) (noSet_behind h0)
  · cases h
theorem o_cmp2 {o1 o2 : CmpOp} {a b d : T} (ia : Ok nm k tb C a) (ib : Ok nm k tb C b) (id : Ok nm k tb C d) : Ok nm k tb C (.cmp2 o1 o2 a b d) := okT (fun _ => rfl) rfl (fun X sc Wx D c e h => by
  split at h
  · simp only [Bool.and_eq_true, decide_eq_true_eq, Bool.not_eq_true', okNm] at h; obtain ⟨⟨⟨⟨⟨rfl, rfl⟩, h0⟩, h1⟩, h2⟩, h3⟩ := h
    exact ev_chain (op_cmpF c.sm c.room.units _) (op_cmpF c.sm c.room.units _) (ia.e X sc Wx D c _ h1) (ib.e X sc Wx D c _ h2) (id.e X sc Wx D c _ h3) (noSet_behind h0)
  · cases h) fun X sc Wx D c e h => by
  split at h
  · simp only [Bool.and_eq_true, decide_eq_true_eq, Bool.not_eq_true', okNm] at h; obtain ⟨⟨⟨⟨⟨rfl, rfl⟩, h0⟩, h1⟩, h2⟩, h3⟩ := h
    exact et_chain (op_cmpF c.sm c.room.units _) (op_cmpF c.sm c.room.units _) (ia.e X sc Wx D c _ h1) (ib.e X sc Wx D c _ h2) (id.e X sc Wx D c _ h3) (noSet_behind h0)
  · cases h
theorem o_ife {a b d : T} (id : Ok nm k tb C d) (ia : Ok nm k tb C a) (ib : Ok nm k tb C b) : Ok nm k tb C (.ife d a b) := okE (fun _ => rfl) rfl fun X sc Wx D c e h => by
  split at h
  · simp only [Bool.and_eq_true, decide_eq_true_eq, Bool.not_eq_true', okNm] at h
    exact ev_if (id.t X sc Wx D c _ h.1.1) (ia.e X sc Wx D c _ h.1.2) (ib.e X sc Wx D c _ h.2)
  · cases h
theorem o_sub {a b : T} (ia : Ok nm k tb C a) (ib : Ok nm k tb C b) : Ok nm k tb C (.sub a b) := okE (fun _ => rfl) rfl fun X sc Wx D c e h => by
  split at h
  · simp only [Bool.and_eq_true, decide_eq_true_eq, Bool.not_eq_true', okNm] at h
    exact ev_sub (ia.e X sc Wx D c _ h.1.2) (ib.e X sc Wx D c _ h.2) h.1.1
  · cases h
theorem o_slc {a b d : T} (ia : Ok nm k tb C a) (ib : Ok nm k tb C b) (id : Ok nm k tb C d) : Ok nm k tb C (.slc a b d) := okE (fun _ => rfl) rfl fun X sc Wx D c e h => by
  split at h
  · simp only [Bool.and_eq_true, decide_eq_true_eq, Bool.not_eq_true', okNm] at h
    exact ev_slc (ia.e X sc Wx D c _ h.1.1) (ib.o X sc Wx D c _ h.1.2) (id.o X sc Wx D c _ h.2)
  · cases h
theorem o_bi {b : BI} {a : T} (ia : Ok nm k tb C a) : Ok nm k tb C (.bi b a) := okE (fun _ => rfl) rfl fun X sc Wx D c e h => by
  split at h
  · simp only [Bool.and_eq_true, decide_eq_true_eq, Bool.not_eq_true', okNm] at h
    obtain ⟨⟨⟨⟨rfl, h2⟩, h3⟩, h4⟩, h5⟩ := h
    rw [List.all_cons, Bool.and_eq_true] at h4
    exact ev_bi c.cal b (c.gl _ h2) (D.bs _ h3) (ia.es X sc Wx D c _ h5) (star_cons h4.1) (star_plain _ _ h4.2)
  · cases h
theorem o_isi {ts : List Ty} {a : T} (ia : Ok nm k tb C a) : Ok nm k tb C (.isi ts a) := okE (fun _ => rfl) rfl fun X sc Wx D c e h => by
  split at h
  · split at h
    · simp only [Bool.and_eq_true, decide_eq_true_eq, Bool.not_eq_true', okNm] at h
      obtain ⟨⟨⟨⟨⟨⟨⟨rfl, rfl⟩, h1⟩, h2⟩, h3⟩, h4⟩, h5⟩, h6⟩ := h
      exact ev_isi1 (c.gl _ h1) (D.bs _ h3) (c.gl _ h2) (D.bs _ h4) (ia.e X sc Wx D c _ h6) h5
    · cases h
  · split at h
    · simp only [Bool.and_eq_true, decide_eq_true_eq, Bool.not_eq_true', okNm] at h
      obtain ⟨⟨⟨⟨⟨⟨⟨⟨⟨⟨rfl, rfl⟩, rfl⟩, h1⟩, h2⟩, h2'⟩, h3⟩, h4⟩, h4'⟩, h5⟩, h6⟩ := h
      exact ev_isi2 (c.gl _ h1) (D.bs _ h3) (c.gl _ h2) (D.bs _ h4) (c.gl _ h2') (D.bs _ h4') (ia.e X sc Wx D c _ h6) h5
    · cases h
  · cases h
theorem o_mi {m : MI} {a b : T} (ia : Ok nm k tb C a) (ib : Ok nm k tb C b) : Ok nm k tb C (.mi m a b) := okE (fun _ => rfl) rfl fun X sc Wx D c e h => by
  split at h
  · rename_i x n ap l cp
    simp only [Bool.and_eq_true, decide_eq_true_eq] at h
    obtain ⟨⟨⟨⟨⟨⟨⟨rfl, h1⟩, h2⟩, h3⟩, h4⟩, h5⟩, h6⟩, h7⟩ := h
    have h5 := beq_iff_eq.mp h5
    cases l with
    | nil =>
      have h5 : m.nullary = true := h5
      rw [if_pos h5]
      exact ev_mi0 m (ia.e X sc Wx D c _ h6) h5 h1 h2
    | cons e es =>
      have h5 : m.nullary = false := h5
      rw [if_neg (by rw [h5]; exact Bool.false_ne_true)]
      exact ev_mi1 m (ia.e X sc Wx D c _ h6) (ib.es X sc Wx D c _ h7) h5 h1 h2 h3 h4
  · cases h
theorem o_and {a b : T} (ia : Ok nm k tb C a) (ib : Ok nm k tb C b) : Ok nm k tb C (.and a b) := by
  have he : ∀ (X : Cx) (sc : Scope) (Wx : WX), At nm k tb C X → Ctx (k + 1) sc X Wx → ∀ (x y : Expr) (r : List Expr) (pos : Pos), ((chk tb X.N a).e sc x && (chk tb X.N b).bo sc .And (y :: r)) = true → EV nm X Wx (.BoolOp .And (x :: y :: r) pos) (andF (den C a).e (den C b).e) := fun X sc Wx D c x y r pos h => by
    simp only [Bool.and_eq_true, decide_eq_true_eq, Bool.not_eq_true', okNm] at h
    exact ev_and (ia.e X sc Wx D c x h.1) (ib.bo X sc Wx D c .And (y :: r) pos h.2)
  have hw : ∀ (X : Cx) (sc : Scope) (Wx : WX), At nm k tb C X → Ctx (k + 1) sc X Wx → ∀ (x y : Expr) (r : List Expr) (pos : Pos), ((chk tb X.N a).t sc x && (chk tb X.N b).bt sc .And (y :: r)) = true → EW nm X Wx (.BoolOp .And (x :: y :: r) pos) (tAndF (den C a).t (den C b).t) := fun X sc Wx D c x y r pos h => by
    simp only [Bool.and_eq_true, decide_eq_true_eq, Bool.not_eq_true', okNm] at h
    exact ew_and (ia.t X sc Wx D c x h.1) (ib.bt X sc Wx D c .And (y :: r) pos h.2)
  have base : ∀ (X : Cx) (sc : Scope) (Wx : WX), At nm k tb C X → Ctx (k + 1) sc X Wx → ∀ e : Expr, (chk tb X.N (.and a b)).e sc e = true → EV nm X Wx e (den C (.and a b)).e := fun X sc Wx D c e h => by
    have h : (match (generalizing := false) e with | .BoolOp .And (x :: y :: r) _ => (chk tb X.N a).e sc x && (chk tb X.N b).bo sc .And (y :: r) | _ => false) = true := h
    split at h
    · exact he X sc Wx D c _ _ _ _ h
    · cases h
  have baseT : ∀ (X : Cx) (sc : Scope) (Wx : WX), At nm k tb C X → Ctx (k + 1) sc X Wx → ∀ e : Expr, (chk tb X.N (.and a b)).t sc e = true → ET nm X Wx e (den C (.and a b)).t := fun X sc Wx D c e h => by
    have h : (match (generalizing := false) e with | .BoolOp .And (x :: y :: r) _ => (chk tb X.N a).t sc x && (chk tb X.N b).bt sc .And (y :: r) | _ => false) = true := h
    split at h
    · exact (hw X sc Wx D c _ _ _ _ h).pt
    · cases h
  exact {
    e := base
    es := fun X sc Wx D c e h => by cases h
    t := baseT
    o := fun X sc Wx D c e h => by
      cases e with
      | none => cases h
      | some e => exact eo_some (base X sc Wx D c e h)
    s := fun X sc Wx D c tg e h => by
      have h : (noSet e && (chk tb X.N (.and a b)).e sc e) = true := h
      rw [Bool.and_eq_true] at h
      exact ei_seq (base X sc Wx D c e h.2)
    x := fun X sc Wx D c i e h => by cases h
    xs := fun X sc Wx D c i e h => by cases h
    bo := fun X sc Wx D c op l pos h => by
      have h : (match (generalizing := false) op, l with | .And, x :: y :: r => (chk tb X.N a).e sc x && (chk tb X.N b).bo sc .And (y :: r) | _, [.BoolOp .And (x :: y :: r) _] => (chk tb X.N a).e sc x && (chk tb X.N b).bo sc .And (y :: r) | _, _ => false) = true := h
      split at h
      · exact he X sc Wx D c _ _ _ _ h
      · exact ev_one (he X sc Wx D c _ _ _ _ h)
      · cases h
    bt := fun X sc Wx D c op l pos h => by
      have h : (match (generalizing := false) op, l with | .And, x :: y :: r => (chk tb X.N a).t sc x && (chk tb X.N b).bt sc .And (y :: r) | _, [.BoolOp .And (x :: y :: r) _] => (chk tb X.N a).t sc x && (chk tb X.N b).bt sc .And (y :: r) | _, _ => false) = true := h
      split at h
      · exact hw X sc Wx D c _ _ _ _ h
      · exact ew_one (hw X sc Wx D c _ _ _ _ h).pt
      · cases h
    ks := fun X sc Wx D c e h => by cases h
    ifs := fun X sc Wx D c l h => by
      have h : one (fun sc e => (chk tb X.N (.and a b)).t sc e) sc l = true := h
      obtain ⟨x, rfl, h⟩ := one_of h
      exact pts_one (baseT X sc Wx D c x h) }
theorem o_or {a b : T} (ia : Ok nm k tb C a) (ib : Ok nm k tb C b) : Ok nm k tb C (.or a b) := by
  have he : ∀ (X : Cx) (sc : Scope) (Wx : WX), At nm k tb C X → Ctx (k + 1) sc X Wx → ∀ (x y : Expr) (r : List Expr) (pos : Pos), ((chk tb X.N a).e sc x && (chk tb X.N b).bo sc .Or (y :: r)) = true → EV nm X Wx (.BoolOp .Or (x :: y :: r) pos) (orF (den C a).e (den C b).e) := fun X sc Wx D c x y r pos h => by
    simp only [Bool.and_eq_true, decide_eq_true_eq, Bool.not_eq_true', okNm] at h
    exact ev_or (ia.e X sc Wx D c x h.1) (ib.bo X sc Wx D c .Or (y :: r) pos h.2)
  have hw : ∀ (X : Cx) (sc : Scope) (Wx : WX), At nm k tb C X → Ctx (k + 1) sc X Wx → ∀ (x y : Expr) (r : List Expr) (pos : Pos), ((chk tb X.N a).t sc x && (chk tb X.N b).bt sc .Or (y :: r)) = true → EW nm X Wx (.BoolOp .Or (x :: y :: r) pos) (tOrF (den C a).t (den C b).t) := fun X sc Wx D c x y r pos h => by
    simp only [Bool.and_eq_true, decide_eq_true_eq, Bool.not_eq_true', okNm] at h
    exact ew_or (ia.t X sc Wx D c x h.1) (ib.bt X sc Wx D c .Or (y :: r) pos h.2)
  have base : ∀ (X : Cx) (sc : Scope) (Wx : WX), At nm k tb C X → Ctx (k + 1) sc X Wx → ∀ e : Expr, (chk tb X.N (.or a b)).e sc e = true → EV nm X Wx e (den C (.or a b)).e := fun X sc Wx D c e h => by
    have h : (match (generalizing := false) e with | .BoolOp .Or (x :: y :: r) _ => (chk tb X.N a).e sc x && (chk tb X.N b).bo sc .Or (y :: r) | _ => false) = true := h
    split at h
    · exact he X sc Wx D c _ _ _ _ h
    · cases h
  have baseT : ∀ (X : Cx) (sc : Scope) (Wx : WX), At nm k tb C X → Ctx (k + 1) sc X Wx → ∀ e : Expr, (chk tb X.N (.or a b)).t sc e = true → ET nm X Wx e (den C (.or a b)).t := fun X sc Wx D c e h => by
    have h : (match (generalizing := false) e with | .BoolOp .Or (x :: y :: r) _ => (chk tb X.N a).t sc x && (chk tb X.N b).bt sc .Or (y :: r) | _ => false) = true := h
    split at h
    · exact (hw X sc Wx D c _ _ _ _ h).pt
    · cases h
  exact {
    e := base
    es := fun X sc Wx D c e h => by cases h
    t := baseT
    o := fun X sc Wx D c e h => by
      cases e with
      | none => cases h
      | some e => exact eo_some (base X sc Wx D c e h)
    s := fun X sc Wx D c tg e h => by
      have h : (noSet e && (chk tb X.N (.or a b)).e sc e) = true := h
      rw [Bool.and_eq_true] at h
      exact ei_seq (base X sc Wx D c e h.2)
    x := fun X sc Wx D c i e h => by cases h
    xs := fun X sc Wx D c i e h => by cases h
    bo := fun X sc Wx D c op l pos h => by
      have h : (match (generalizing := false) op, l with | .Or, x :: y :: r => (chk tb X.N a).e sc x && (chk tb X.N b).bo sc .Or (y :: r) | _, [.BoolOp .Or (x :: y :: r) _] => (chk tb X.N a).e sc x && (chk tb X.N b).bo sc .Or (y :: r) | _, _ => false) = true := h
      split at h
      · exact he X sc Wx D c _ _ _ _ h
      · exact ev_one (he X sc Wx D c _ _ _ _ h)
      · cases h
    bt := fun X sc Wx D c op l pos h => by
      have h : (match (generalizing := false) op, l with | .Or, x :: y :: r => (chk tb X.N a).t sc x && (chk tb X.N b).bt sc .Or (y :: r) | _, [.BoolOp .Or (x :: y :: r) _] => (chk tb X.N a).t sc x && (chk tb X.N b).bt sc .Or (y :: r) | _, _ => false) = true := h
      split at h
      · exact hw X sc Wx D c _ _ _ _ h
      · exact ew_one (hw X sc Wx D c _ _ _ _ h).pt
      · cases h
    ks := fun X sc Wx D c e h => by cases h
    ifs := fun X sc Wx D c l h => by
      have h : one (fun sc e => (chk tb X.N (.or a b)).t sc e) sc l = true := h
      obtain ⟨x, rfl, h⟩ := one_of h
      exact pts_one (baseT X sc Wx D c x h) }
theorem o_not {a : T} (ia : Ok nm k tb C a) : Ok nm k tb C (.not a) := okT (fun _ => rfl) rfl (fun X sc Wx D c e h => by
  split at h
  · exact ev_not (ia.e X sc Wx D c _ h)
  · cases h) fun X sc Wx D c e h => by
  split at h
  · exact et_not (ia.t X sc Wx D c _ h)
  · cases h
theorem o_call {f : Str} {a : T} (ia : Ok nm k tb C a) : Ok nm k tb C (.call f a) := okE (fun _ => rfl) rfl fun X sc Wx D c e h => by
  split at h
  · rename_i x p l pos
    simp only [Bool.and_eq_true, decide_eq_true_eq, Bool.not_eq_true'] at h
    obtain ⟨⟨⟨⟨⟨⟨rfl, h1⟩, h2⟩, h3⟩, h4⟩, h6⟩, h5⟩ := h
    obtain ⟨fa, fd, ps, g1, g2, g3, g4, F, _⟩ := D.fs _ h2
    rw [← g4]
    cases l with
    | nil =>
      have h6 : a.isNil = true := h6
      cases T.isNil_eq h6
      exact ev_call0 (nm := nm) c F (c.gl _ h1) g1 g2 g3 h3
    | cons e es => exact ev_call c F (c.gl _ h1) g1 g2 g3 h3 (ia.es X sc Wx D c _ h5) h4
  · cases h
theorem o_callK {f : Str} {a d : T} {np : Nat} {ks : List Str} {perm : List Nat} (ia : Ok nm k tb C a) (id : Ok nm k tb C d) : Ok nm k tb C (.callK f a np ks perm d) := okE (fun _ => rfl) rfl fun X sc Wx D c e h => by
  split at h
  · rename_i x p l kws pos
    simp only [Bool.and_eq_true, decide_eq_true_eq, Bool.not_eq_true'] at h
    obtain ⟨⟨⟨⟨⟨⟨⟨⟨⟨rfl, h1⟩, h2⟩, h3⟩, h4⟩, h5⟩, h6⟩, h7⟩, h8⟩, h9⟩ := h
    obtain ⟨fa, fd, ps, g1, g2, g3, g4, F, g5⟩ := D.fs _ h2
    rw [← g4]
    refine ev_callK c F (c.gl _ h1) g1 g2 (g5 _ _ _ h5) h3 ?_ (id.ks X sc Wx D c _ h9) h6 h4
    cases l with
    | nil =>
      have h7 : a.isNil = true := h7
      cases T.isNil_eq h7
      exact .inl ⟨rfl, rfl⟩
    | cons e es => exact .inr ⟨List.cons_ne_nil _ _, ia.es X sc Wx D c _ h8⟩
  · cases h
theorem o_rng1 {a : T} (ia : Ok nm k tb C a) : Ok nm k tb C (.rng1 a) := okS (fun _ => rfl) rfl fun X sc Wx D c tg e h => by
  split at h
  · simp only [Bool.and_eq_true, decide_eq_true_eq, Bool.not_eq_true', okNm] at h
    obtain ⟨⟨⟨⟨rfl, h2⟩, h3⟩, h4⟩, h5⟩ := h
    exact ei_rng1 (c.gl _ h2) (D.bs _ h3) (ia.e X sc Wx D c _ h5) h4
  · cases h
theorem o_rng2 {a b : T} (ia : Ok nm k tb C a) (ib : Ok nm k tb C b) : Ok nm k tb C (.rng2 a b) := okS (fun _ => rfl) rfl fun X sc Wx D c tg e h => by
  split at h
  · simp only [Bool.and_eq_true, decide_eq_true_eq, Bool.not_eq_true', okNm] at h
    obtain ⟨⟨⟨⟨⟨⟨rfl, h2⟩, h3⟩, h4⟩, h4'⟩, h5⟩, h6⟩ := h
    exact ei_rng2 (c.gl _ h2) (D.bs _ h3) (ia.e X sc Wx D c _ h5) (ib.e X sc Wx D c _ h6) h4 h4'
  · cases h
theorem o_enum {a : T} (ia : Ok nm k tb C a) : Ok nm k tb C (.enum a) := okS (fun _ => rfl) rfl fun X sc Wx D c tg e h => by
  split at h
  · simp only [Bool.and_eq_true, decide_eq_true_eq, Bool.not_eq_true', okNm] at h
    obtain ⟨⟨⟨⟨rfl, h2⟩, h3⟩, h4⟩, h5⟩ := h
    exact ei_enum (c.gl _ h2) (D.bs _ h3) (ia.e X sc Wx D c _ h5) h4
  · cases h
theorem comp_parts {X : Cx} {sc : Scope} {Wx : WX} (D : At nm k tb C X) (c : Ctx (k + 1) sc X Wx) {own : List (Str × Nat)} {t : TP} {it cc el : T} (ii : Ok nm k tb C it) (ic : Ok nm k tb C cc) (ie : Ok nm k tb C el) {e : Expr}
    (h : ckComp X.N sc own t (chk tb X.N it) (chk tb X.N cc) (chk tb X.N el) e = true) : ∃ elt tg iter ifs scope pos, e = .ListComp elt [⟨tg, iter, ifs, 0⟩] scope pos ∧ BlkOk X.N X.env.scope scope own ∧ (∀ i ∈ t.slots, i ∈ own.map (·.2)) ∧ noSet iter = true ∧ EI nm X Wx tg iter (den C it).s ∧
      (∀ (s : Shared) (H : Hp) (C : Addr) (cl : List (Str × Addr)) (fp : List Addr), PG (X.blk s H scope (compEnvC scope cl C X.env) fp) tg (TrG nm X.K t)) ∧
      (∀ (s : Shared) (H : Hp) (A : Addr) (cl : List (Str × Addr)) (fp : List Addr), PTs (X.blk s H scope (compEnvC scope cl A X.env) fp) ifs (TrT nm X.K Wx0 (den C cc).t)) ∧
      (∀ (s : Shared) (H : Hp) (A : Addr) (cl : List (Str × Addr)) (fp : List Addr), PE (X.blk s H scope (compEnvC scope cl A X.env) fp) elt (TrE nm X.K Wx0 (den C el).e)) := by
  unfold ckComp at h
  split at h
  · rename_i elt tg iter ifs scope pos
    simp only [Bool.and_eq_true, List.all_eq_true] at h
    obtain ⟨⟨⟨⟨⟨⟨h1, h2⟩, h3⟩, h4⟩, h5⟩, h6⟩, h7⟩ := h
    have ok0 := blkOk_by h1
    have ok : BlkOk X.N X.env.scope scope own := ⟨ok0.kind, ok0.uniq, ok0.ix, fun y hy e => c.up _ (ok0.free y hy e), ok0.own⟩
    refine ⟨elt, tg, iter, ifs, scope, pos, rfl, ok, fun i hi => by simpa using h2 i hi, h3, ii.s X sc Wx D c _ _ h4, fun s H C cl fp => ?_, fun s H A cl fp => ?_, fun s H A cl fp => ?_⟩
    · exact eg_tp (c.blk ok.kind s H C cl fp) t tg h5
    · exact ic.ifs (X.blk s H scope (compEnvC scope cl A X.env) fp) scope Wx0 D (c.blk ok.kind s H A cl fp) _ h6
    · exact ie.e (X.blk s H scope (compEnvC scope cl A X.env) fp) scope Wx0 D (c.blk ok.kind s H A cl fp) _ h7
  · cases h
theorem o_comp {own : List (Str × Nat)} {t : TP} {it cc el : T} (ii : Ok nm k tb C it) (ic : Ok nm k tb C cc) (ie : Ok nm k tb C el) : Ok nm k tb C (.comp own t it cc el) := okE (f := fun N sc x => ckComp N sc own t (chk tb N it) (chk tb N cc) (chk tb N el) x) (fun _ => rfl) rfl fun X sc Wx D c e h => by
  obtain ⟨elt, tg, iter, ifs, scope, pos, rfl, ok, h2, h3, h4, h5, h6, h7⟩ := comp_parts D c ii ic ie h
  exact ev_comp c.calm c.nd h4 ok h2 h5 h6 h7 fun x => noSet_of h3 X.env x
theorem o_sComp {i : Nat} {own : List (Str × Nat)} {t : TP} {it cc el : T} (ii : Ok nm k tb C it) (ic : Ok nm k tb C cc) (ie : Ok nm k tb C el) : Ok nm k tb C (.sComp i own t it cc el) := okX (fun _ => rfl) rfl fun X sc Wx D c hi e h => by
  split at h
  · simp only [Bool.and_eq_true, decide_eq_true_eq, Bool.not_eq_true'] at h
    obtain ⟨⟨⟨⟨h1, h2⟩, h3⟩, h4⟩, h5⟩ := h
    obtain ⟨elt, tg, iter, ifs, scope, pos, he, ok, g2, g3, g4, g5, g6, g7⟩ := comp_parts D c ii ic ie h5
    cases he
    exact es_comp c.calm c.nd h1 (c.lo _ h2) c.kind h3 h4 g4 ok g2 g5 g6 g7 fun x => noSet_of g3 X.env x
  · cases h
theorem o_sAsg {t : TP} {a : T} (ia : Ok nm k tb C a) : Ok nm k tb C (.sAsg t a) := okX (fun _ => rfl) rfl fun X sc Wx D c hi e h => by
  split at h
  · simp only [Bool.and_eq_true, decide_eq_true_eq, Bool.not_eq_true', okNm] at h
    obtain ⟨⟨⟨⟨h1, h2⟩, h3⟩, h4⟩, h5⟩ := h
    exact es_asg (ia.e X sc Wx D c _ h5) (eg_tp c t _ h4) h1 h2 (swaps_none c.kind (by rw [hi.sc]; exact h3))
  · cases h
theorem o_sPar2 {i j : Nat} {a : T} (ia : Ok nm k tb C a) : Ok nm k tb C (.sPar2 i j a) := okX (fun _ => rfl) rfl fun X sc Wx D c hi e h => by
  split at h
  · simp only [Bool.and_eq_true, decide_eq_true_eq] at h
    obtain ⟨⟨⟨⟨⟨⟨h1, h2⟩, h3⟩, h4⟩, h5⟩, h6⟩, h7⟩ := h
    exact es_par2 c.calm c.nd h1 h2 h3 (c.lo _ h4) (c.lo _ h5) (ia.es X sc Wx D c _ h7) c.kind (by rw [hi.sc]; exact h6)
  · cases h
theorem o_sPar3 {i j l : Nat} {a : T} (ia : Ok nm k tb C a) : Ok nm k tb C (.sPar3 i j l a) := okX (fun _ => rfl) rfl fun X sc Wx D c hi e h => by
  split at h
  · simp only [Bool.and_eq_true, decide_eq_true_eq] at h
    obtain ⟨⟨⟨⟨⟨⟨⟨⟨⟨⟨h1, h2⟩, h3⟩, h4⟩, h5⟩, h6⟩, h7⟩, h8⟩, h9⟩, h10⟩, h11⟩ := h
    exact es_par3 c.calm c.nd h1 h2 h3 h4 h5 h6 (c.lo _ h7) (c.lo _ h8) (c.lo _ h9) (ia.es X sc Wx D c _ h11) c.kind (by rw [hi.sc]; exact h10)
  · cases h
theorem o_sSub {a b d : T} (ia : Ok nm k tb C a) (ib : Ok nm k tb C b) (id : Ok nm k tb C d) : Ok nm k tb C (.sSub a b d) := okX (fun _ => rfl) rfl fun X sc Wx D c hi e h => by
  split at h
  · simp only [Bool.and_eq_true, decide_eq_true_eq, Bool.not_eq_true', okNm] at h
    obtain ⟨⟨⟨⟨h1, h2⟩, h3⟩, h4⟩, h5⟩ := h
    exact es_sub (ia.e X sc Wx D c _ h3) (ib.e X sc Wx D c _ h4) (id.e X sc Wx D c _ h5) h1 h2
  · cases h
theorem o_sPutD {a b d : T} (ia : Ok nm k tb C a) (ib : Ok nm k tb C b) (id : Ok nm k tb C d) : Ok nm k tb C (.sPutD a b d) := okX (fun _ => rfl) rfl fun X sc Wx D c hi e h => by
  split at h
  · simp only [Bool.and_eq_true, decide_eq_true_eq, Bool.not_eq_true', okNm] at h
    obtain ⟨⟨⟨⟨h1, h2⟩, h3⟩, h4⟩, h5⟩ := h
    exact es_putD (by have := c.room.units; omega) (ia.e X sc Wx D c _ h3) (ib.e X sc Wx D c _ h4) (id.e X sc Wx D c _ h5) h1 h2
  · cases h
theorem o_sAug {i : Nat} {op : Operator} {a : T} (ia : Ok nm k tb C a) : Ok nm k tb C (.sAug i op a) := okX (fun _ => rfl) rfl fun X sc Wx D c hi e h => by
  split at h
  · simp only [Bool.and_eq_true, decide_eq_true_eq, Bool.not_eq_true', okNm] at h
    obtain ⟨⟨⟨rfl, h2⟩, h3⟩, h4⟩ := h
    exact es_aug c.nd h2 (c.loc _ h3).1 (c.loc _ h3).2 (ia.e X sc Wx D c _ h4)
  · cases h
theorem o_sIf {a b d : T} (id : Ok nm k tb C d) (ia : Ok nm k tb C a) (ib : Ok nm k tb C b) : Ok nm k tb C (.sIf d a b) := okX (fun _ => rfl) rfl fun X sc Wx D c hi e h => by
  split at h
  · simp only [Bool.and_eq_true, decide_eq_true_eq, Bool.not_eq_true', okNm] at h
    exact es_if (id.t X sc Wx D c _ h.1.1) (ia.xs X sc Wx D c hi _ h.1.2) (ib.xs X sc Wx D c hi _ h.2)
  · cases h
theorem o_sFor {t : TP} {a b : T} (ia : Ok nm k tb C a) (ib : Ok nm k tb C b) : Ok nm k tb C (.sFor t a b) := okX (fun _ => rfl) rfl fun X sc Wx D c hi e h => by
  split at h
  · simp only [Bool.and_eq_true, decide_eq_true_eq, Bool.not_eq_true', okNm] at h
    exact es_for c.po c.calm (ia.s X sc Wx D c _ _ h.1.2) (eg_tp c t _ h.1.1.2) (ib.xs X sc Wx D c hi _ h.2) fun x => noSet_of h.1.1.1 X.env x
  · cases h
theorem o_sWh {n : Nat} {a b : T} (ia : Ok nm k tb C a) (ib : Ok nm k tb C b) : Ok nm k tb C (.sWh n a b) := okX (fun _ => rfl) rfl fun X sc Wx D c hi e h => by
  split at h
  · simp only [Bool.and_eq_true, decide_eq_true_eq, Bool.not_eq_true', okNm] at h
    exact es_while c.po (ia.t X sc Wx D c _ h.1) (ib.xs X sc Wx D c hi _ h.2)
  · cases h
theorem o_sRet {a : T} (ia : Ok nm k tb C a) : Ok nm k tb C (.sRet a) := okX (fun _ => rfl) rfl fun X sc Wx D c hi e h => by
  split at h
  · exact es_ret (ia.e X sc Wx D c _ h)
  · cases h
theorem o_sRetN : Ok nm k tb C .sRetN := okX (fun _ => rfl) rfl fun X sc Wx D c hi e h => by
  split at h
  · exact es_retN
  · cases h
theorem o_sExp {a : T} (ia : Ok nm k tb C a) : Ok nm k tb C (.sExp a) := okX (fun _ => rfl) rfl fun X sc Wx D c hi e h => by
  split at h
  · simp only [Bool.and_eq_true, decide_eq_true_eq, Bool.not_eq_true', okNm] at h
    exact es_exp (ia.e X sc Wx D c _ h.2) h.1
  · cases h
theorem o_sPass : Ok nm k tb C .sPass := okX (fun _ => rfl) rfl fun X sc Wx D c hi e h => by
  split at h
  · exact es_pass
  · cases h
theorem o_sBrk : Ok nm k tb C .sBrk := okX (fun _ => rfl) rfl fun X sc Wx D c hi e h => by
  split at h
  · exact es_brk
  · cases h
theorem o_sCnt : Ok nm k tb C .sCnt := okX (fun _ => rfl) rfl fun X sc Wx D c hi e h => by
  split at h
  · exact es_cnt
  · cases h
theorem o_sRaise {c : Str} {fl : List Str} {es : T} (ia : Ok nm k tb C es) : Ok nm k tb C (.sRaise c fl es) := okX (fun _ => rfl) rfl fun X sc Wx D q hi e h => by
  split at h
  · simp only [Bool.and_eq_true, decide_eq_true_eq, Bool.not_eq_true'] at h
    obtain ⟨⟨⟨⟨⟨rfl, h2⟩, h3⟩, h4⟩, h5⟩, h6⟩ := h
    exact es_raise (D.xs _ _ h5).1 q.calm q.tk (q.room.mono (by unfold rm; omega)) (q.gl _ h2) h3 (ia.es X sc Wx D q _ h6) h4
  · cases h
theorem er_of {X : Cx} {sc : Scope} {Wx : WX} {i : Option Nat} {n : Str} (q : Ctx (k + 1) sc X Wx) (h : okEr X.N sc i n = true) : ∃ j, i = some j ∧ X.N[j]? = some n ∧ Vis X.env.scope n ∧ (n == ("__debug__" : Str)) = false ∧ (n == ("__classdict__" : Str)) = false := by
  unfold okEr at h
  split at h
  · rename_i j
    simp only [okNm, Bool.and_eq_true, decide_eq_true_eq, Bool.not_eq_true'] at h
    exact ⟨j, rfl, h.1.1.1, q.vis _ h.1.1.2, h.1.2, h.2⟩
  · cases h
theorem it_of {X : Cx} {sc : Scope} {Wx : WX} {i : Option Nat} (D : At nm k tb C X) (q : Ctx (k + 1) sc X Wx) {a : Addr} {oe : Obj} {cls : Value} {d : Option Addr} {pn : List (Addr × Obj)} (hz : Zc cls d oe) (hf : ∃ vs, oe.data = .fields vs) :
    ∀ (it : SI) (e : Expr), ckIt tb X.N sc i it e = true → PE (X.suite a ((a, oe) :: pn)) e (tIt X.K nm i a cls d it) := fun it e h => by
  unfold ckIt at h
  split at h
  · cases of_decide_eq_true h
    exact it_str (X := X.suite a ((a, oe) :: pn))
  · exact PE.weak pe_non fun σ H Q ⟨W, ah, x, v, _, _, _, e, k⟩ => by cases e; exact k _ .non
  · cases of_decide_eq_true h
    exact PE.weak pe_bl fun σ H Q ⟨W, ah, x, v, _, _, _, e, k⟩ => by cases e; exact k _ (.bl _)
  · cases of_decide_eq_true h
    exact PE.weak pe_int fun σ H Q ⟨W, ah, x, v, _, _, _, e, k⟩ => by cases e; exact k _ (.int _)
  · rename_i f cs n _ g _
    simp only [Bool.and_eq_true, decide_eq_true_eq, List.all_eq_true] at h
    obtain ⟨⟨rfl, h2⟩, h3⟩ := h
    obtain ⟨j, rfl, h4, h5, h6, h7⟩ := er_of q h2
    refine it_fld h4 h5 h6 h7 hz hf fun c hc => ?_
    have := h3 c hc
    split at this
    · rename_i fl e
      exact ⟨fl, (D.xs _ _ e).2, List.contains_iff_mem.mp this⟩
    · cases this
  · simp only [Bool.and_eq_true, decide_eq_true_eq, List.all_eq_true, Bool.not_eq_true', List.mem_append] at h
    obtain ⟨⟨⟨⟨⟨⟨⟨⟨⟨rfl, rfl⟩, h3⟩, h4⟩, h5⟩, h6⟩, h7⟩, h8⟩, h9⟩, h10⟩ := h
    obtain ⟨j, rfl, e4, e5, e6, e7⟩ := er_of q h7
    refine it_isx e4 e5 e6 e7 hz hf (q.gl _ h3) (D.bs _ h5) (q.gl _ h4) h6 (fun y hy => ?_) (fun y hy => D.xm _ _ _ (h9 y hy)) fun y hy => D.xm _ _ _ (h10 y hy)
    obtain ⟨fl, e⟩ := Option.isSome_iff_exists.mp (h8 y hy)
    exact ⟨fl, (D.xs _ _ e).2⟩
  · cases h
theorem its_of {X : Cx} {sc : Scope} {Wx : WX} {i : Option Nat} (D : At nm k tb C X) (q : Ctx (k + 1) sc X Wx) {a : Addr} {oe : Obj} {cls : Value} {d : Option Addr} {pn : List (Addr × Obj)} (hz : Zc cls d oe) (hf : ∃ vs, oe.data = .fields vs) :
    ∀ (its : List SI) (es : List Expr), ckIts tb X.N sc i its es = true → PA (X.suite a ((a, oe) :: pn)) es (tIts X.K nm i a cls d its)
  | [], [], _ => its_nil
  | it :: l, e :: es, h => by
    unfold ckIts at h
    simp only [Bool.and_eq_true] at h
    exact its_cons (it_of D q hz hf it e h.1.2) (its_of D q hz hf l es h.2) h.1.1
  | [], _ :: _, h => by unfold ckIts at h; cases h
  | _ :: _, [], h => by unfold ckIts at h; cases h
theorem hds_of {X : Cx} {sc : Scope} {Wx : WX} (D : At nm k tb C X) (q : Ctx (k + 1) sc X Wx) : ∀ (hs : List Hd) (r : List ExceptHandler), ckHds tb X.N sc hs r = true → HdOk nm X hs r
  | [], [], _ => .nil
  | h :: hs, r, g => by
    unfold ckHds at g
    split at g
    · cases ‹_ :: _ = []›
    · rename_i h' hs' x _ o e _ _ r' eq1
      cases eq1
      simp only [Bool.and_eq_true, decide_eq_true_eq, Bool.not_eq_true', List.all_eq_true] at g
      obtain ⟨⟨⟨⟨⟨⟨⟨⟨rfl, g2⟩, g3⟩, g4⟩, g5⟩, g6⟩, g7⟩, g8⟩, g9⟩ := g
      obtain ⟨E, hE⟩ := D.xc _ g4
      refine .cons (q.gl _ g2) g3 hE ?_ (fun y hy => D.xm _ _ _ (g6 y hy)) (fun y hy => D.xm _ _ _ (g7 y hy)) ?_ (hds_of D q hs r' g9)
      · unfold ckCn at g5
        split at g5
        · rename_i e1; rw [e1]; trivial
        · rename_i n i e1
          simp only [Bool.and_eq_true, decide_eq_true_eq] at g5
          rw [e1]
          exact ⟨g5.1, q.lo _ g5.2⟩
        · cases g5
      · unfold ckSf at g8
        split at g8
        · rename_i m l es _ e1
          rw [e1]
          exact sf_list fun a oe cls d pn hz hf => its_of D q hz hf l es g8
        · rename_i it e1
          rw [e1]
          exact fun a oe cls d pn hz hf => it_of D q hz hf it _ g8
        · cases g8
    · cases g
  | [], _ :: _, g => by unfold ckHds at g; cases g
theorem o_sTry {b : T} {hs : List Hd} (ib : Ok nm k tb C b) : Ok nm k tb C (.sTry b hs) := okX (fun _ => rfl) rfl fun X sc Wx D q hi e h => by
  split at h
  · simp only [Bool.and_eq_true] at h
    refine es_try hi.stk hi.fr q.nd q.tk (fun W pn xe tk po => ib.xs (X.tr pn xe) sc W D ?_ ⟨hi.sc, hi.stk, hi.fr⟩ _ h.1) (hds_of D q hs _ h.2)
    exact ⟨q.sm, q.gd, q.room, q.calm, q.nd, po, tk, q.vis, q.loc, q.lo, q.gl, q.up, q.kind⟩
  · cases h
theorem ok_all : ∀ t : T, Ok nm k tb C t
  | .nil => o_nil
  | .cons a b => o_cons (ok_all a) (ok_all b)
  | .var i => o_var
  | .cI n => o_cI
  | .cS z => o_cS
  | .cB b => o_cB
  | .cN => o_cN
  | .gl _ v => o_gl
  | .tup es => o_tup (ok_all es)
  | .lst es => o_lst (ok_all es)
  | .lstM es => o_lstM (ok_all es)
  | .bin op a b => o_bin (ok_all a) (ok_all b)
  | .neg a => o_neg (ok_all a)
  | .cmp op a b => o_cmp (ok_all a) (ok_all b)
  | .cmp2 o1 o2 a b c => o_cmp2 (ok_all a) (ok_all b) (ok_all c)
  | .and a b => o_and (ok_all a) (ok_all b)
  | .or a b => o_or (ok_all a) (ok_all b)
  | .not a => o_not (ok_all a)
  | .ife c a b => o_ife (ok_all c) (ok_all a) (ok_all b)
  | .sub a i => o_sub (ok_all a) (ok_all i)
  | .slc a lo hi => o_slc (ok_all a) (ok_all lo) (ok_all hi)
  | .call f es => o_call (ok_all es)
  | .callK f es np ks perm kes => o_callK (ok_all es) (ok_all kes)
  | .bi b es => o_bi (ok_all es)
  | .isi ts a => o_isi (ok_all a)
  | .mi m o es => o_mi (ok_all o) (ok_all es)
  | .comp own t it c e => o_comp (ok_all it) (ok_all c) (ok_all e)
  | .rng1 a => o_rng1 (ok_all a)
  | .rng2 a b => o_rng2 (ok_all a) (ok_all b)
  | .enum a => o_enum (ok_all a)
  | .eDead => o_eDead
  | .sDead => o_sDead
  | .app o e => o_app (ok_all o) (ok_all e)
  | .lstC a => o_lstC (ok_all a)
  | .lrg a => o_lrg (ok_all a)
  | .dicC a => o_dicC (ok_all a)
  | .dic0 => o_dic0
  | .sPar2 i j es => o_sPar2 (ok_all es)
  | .sPar3 i j l es => o_sPar3 (ok_all es)
  | .sAsg t e => o_sAsg (ok_all e)
  | .sComp i own t it c e => o_sComp (ok_all it) (ok_all c) (ok_all e)
  | .sSub o i e => o_sSub (ok_all o) (ok_all i) (ok_all e)
  | .sAug i op e => o_sAug (ok_all e)
  | .sIf c a b => o_sIf (ok_all c) (ok_all a) (ok_all b)
  | .sFor t it body => o_sFor (ok_all it) (ok_all body)
  | .sWh n c body => o_sWh (ok_all c) (ok_all body)
  | .sRet e => o_sRet (ok_all e)
  | .sRetN => o_sRetN
  | .sExp e => o_sExp (ok_all e)
  | .sPass => o_sPass
  | .sBrk => o_sBrk
  | .sCnt => o_sCnt
  | .sRaise c fl es => o_sRaise (ok_all es)
  | .sTry b hs => o_sTry (ok_all b)
  | .sPutD o i e => o_sPutD (ok_all o) (ok_all i) (ok_all e)
end
end Ko

/-! Ko, part Q: all defs of a text, by depth; the law's call. -/
namespace Ko
open PySem L2
/-- a def of the text: its name, where it stands, its slots, its parameters, its tree -/
structure Df where
  x : Str
  st : Stmt
  N : List Str
  ps : List Str
  t : T
  kw : List (Nat × List Str × List Nat) := []
def findD (ds : List Df) (f : Str) : Option Df := ds.find? fun d => d.x == f
def arD (ds : List Df) (f : Str) : Nat := match findD ds f with | some d => d.ps.length | none => 0
def semD (C : Ops) (d : Df) : List AV → AH → Ot AV := fun xs ah => ((den C d.t).x (startA d.N xs) ah).fin
def ops (ds : List Df) : Nat → Ops
  | 0 => { call := fun _ _ _ => .st, ar := arD ds }
  | k + 1 => { call := fun f xs ah => match findD ds f with | some d => semD (ops ds k) d xs ah | none => .st, ar := arD ds }
def scOk (N ps : List Str) (sc : Scope) : Bool :=
  (match sc.kind with | .function => true | _ => false) && !sc.isCoroutine && !sc.isGenerator && decide N.Nodup && decide (N.take ps.length = ps) &&
    ps.all (fun x => match sc.names.lookup x with | some .local => true | some .cell => true | _ => false) && sc.names.all (fun y => match y.2 with | .free => false | _ => true)
theorem scOk_of {N ps : List Str} {sc : Scope} (h : scOk N ps sc = true) : FnScope N ps sc := by
  unfold scOk at h
  simp only [Bool.and_eq_true, decide_eq_true_eq, Bool.not_eq_true', List.all_eq_true] at h
  obtain ⟨⟨⟨⟨⟨⟨h1, h2⟩, h3⟩, h4⟩, h5⟩, h6⟩, h7⟩ := h
  refine ⟨?_, h2, h3, h4, h5, fun x hx => ?_, fun y hy e => ?_⟩
  · split at h1
    · assumption
    · cases h1
  · have q := h6 x hx
    split at q
    · rename_i e; exact .inl e
    · rename_i e; exact .inr e
    · cases q
  · have q := h7 y hy
    rw [e] at q
    cases q
def dfOk (tb : Tb) (d : Df) : Bool := scOk d.N d.ps (defScope d.st) && (chk tb d.N d.t).xs (defScope d.st) (defBody d.st)
def kwOk (tb : Tb) (d : Df) : Bool := tb.kw.all fun e => !(e.1 == d.x) || d.kw.contains e.2
/-- what the top has written of a def -/
def DfF (K : PySem.W.Frag) (mg : Str → Option Value) (d : Df) : Prop := ∃ fa fd, mg d.x = some (.ref fa) ∧ PySem.W.keepIn K (.ref fa) = true ∧ (∀ us : List Value, us.length = d.ps.length → bindArgs fd ⟨us, []⟩ = pure (d.ps.zip us)) ∧ Fun K d.x d.x d.st fa fd ∧
  ∀ e ∈ d.kw, KwB K fd d.ps e.2.1 e.1 e.2.2
theorem dff_mk {K : PySem.W.Frag} {h : Heap} {mg : Str → Option Value} (X : K.In h) (G : h.Ns mainGlobals mg) {x : Str} {st : Stmt} {N ps : List Str} {t : T} {kw : List (Nat × List Str × List Nat)} {f : Addr} {oc : Value} {od an : Option Addr} {osl : Array (Option Value)} {kV doc pm cdv ct : Value}
    (a : PySem.W.nsIn K mainGlobals x = some (some (.ref f))) (l : K.lookup f = some ⟨oc, od, .func (PySem.W.fnOf x x (defArgs st) (defBody st) (defScope st) .none kV doc pm an cdv ct), osl⟩) (c : PySem.W.codeIn K cdv x = true) (k : PySem.W.keepIn K (.ref f) = true)
    (hb : ∀ (kV doc pm : Value) (an : Option Addr) (cdv ct : Value) (us : List Value), us.length = ps.length → bindArgs (PySem.W.fnOf x x (defArgs st) (defBody st) (defScope st) .none kV doc pm an cdv ct) ⟨us, []⟩ = pure (ps.zip us))
    (hk : ∀ (kV doc pm : Value) (an : Option Addr) (cdv ct : Value), ∀ e ∈ kw, ∀ us ws : List Value, us.length = e.1 → ws.length = e.2.1.length → bindArgs (PySem.W.fnOf x x (defArgs st) (defBody st) (defScope st) .none kV doc pm an cdv ct) ⟨us, e.2.1.zip ws⟩ = pure (ps.zip (us ++ e.2.2.map fun i => ws.getD i .none))) :
    DfF K mg ⟨x, st, N, ps, t, kw⟩ :=
  ⟨f, _, PySem.W.mg_of X G a, k, fun us hl => hb kV doc pm an cdv ct us hl, fun_mk (st := st) l c k, fun e he s us ws _ h1 h2 => .of_eq (hk kV doc pm an cdv ct e he us ws h1 h2)⟩
theorem findD_of {ds : List Df} {f : Str} (h : (ds.map (·.x)).contains f = true) : ∃ d, findD ds f = some d ∧ d ∈ ds ∧ d.x = f := by
  simp only [List.contains_iff_mem, List.mem_map] at h
  obtain ⟨d, hd, rfl⟩ := h
  unfold findD
  cases q : ds.find? (fun e => e.x == d.x) with
  | none =>
    have := List.find?_eq_none.mp q d hd
    simp at this
  | some e => exact ⟨e, rfl, List.mem_of_find?_eq_some q, by have := List.find?_some q; simpa using this⟩
section
variable {P : Program} {w : World} {K : PySem.W.Frag} {mg : Str → Option Value} {base : Heap} {nm : Nm}
theorem fn_st {k : Nat} {fa : Addr} {fd : FuncData} {ps : List Str} : FnG P w K mg base nm k fa fd ps fun _ _ => .st := ⟨fun A outer s H args us vs W xs ah Q E _ _ _ _ _ _ _ _ p => False.elim p⟩
theorem ops_ok {ds : List Df} {tb : Tb} (hf : tb.fs = ds.map (·.x)) (hF : ∀ d ∈ ds, DfF K mg d) (hc : ds.all (dfOk tb) = true) (hkw : ds.all (kwOk tb) = true) (hbs : ∀ x, tb.bs.contains x = true → mg x = none) (hcs : ∀ x v, tb.cs.lookup x = some v → glV K mg x v)
    (hsm : ∃ o es ep, base.get? sysModules = some o ∧ o.data = .dict es ep)
    (hxs : ∀ c fl, tb.xs.lookup c = some fl → XMk P w K mg base nm c fl ∧ XRd K nm c fl) (hxm : ∀ y c b, tb.xm.contains (y, c, b) = true → XIn K nm mg y c b) (hxc : ∀ c, tb.xc.contains c = true → ∃ D, mg c = some (.ref D)) : ∀ k, TbOk P w K mg base nm k tb (ops ds k) := by
  have shape : ∀ (k : Nat) (hS : ∀ d ∈ ds, findD ds d.x = some d → ∀ fa fd, Fun K d.x d.x d.st fa fd → FnG P w K mg base nm k fa fd d.ps ((ops ds k).call d.x)), TbOk P w K mg base nm k tb (ops ds k) := fun k hS => by
    refine ⟨fun f h => ?_, hbs, hcs, hxs, hxm, hxc⟩
    rw [hf] at h
    obtain ⟨d, e, hd, rfl⟩ := findD_of h
    obtain ⟨fa, fd, h1, h2, h3, h4, h5⟩ := hF d hd
    refine ⟨fa, fd, d.ps, h1, h2, .all h3, ?_, hS d hd e fa fd h4, fun np ks perm hm => ?_⟩
    case refine_2 =>
      have q := List.all_eq_true.mp hkw d hd
      unfold kwOk at q
      have q2 := List.all_eq_true.mp q (d.x, np, ks, perm) (by simpa using hm)
      simp only [Bool.or_eq_true, Bool.not_eq_true', beq_eq_false_iff_ne, ne_eq, not_true_eq_false, false_or] at q2
      exact h5 (np, ks, perm) (List.contains_iff_mem.mp q2)
    have : (ops ds k).ar = arD ds := by cases k <;> rfl
    rw [this]
    unfold arD
    rw [e]
  intro k
  induction k with
  | zero => exact shape 0 fun d hd e fa fd F => fn_st
  | succ k ih =>
    refine shape (k + 1) fun d hd e fa fd F => ?_
    have q := List.all_eq_true.mp hc d hd
    unfold dfOk at q
    rw [Bool.and_eq_true] at q
    have ec : (ops ds (k + 1)).call d.x = fun xs ah => ((den (ops ds k) d.t).x (startA d.N xs) ah).fin := by
      funext xs ah
      show (match findD ds d.x with | some d => semD (ops ds k) d xs ah | none => .st) = _
      rw [e]; rfl
    rw [ec]
    refine FnG.by F (scOk_of q.1) hsm fun cdv A outer s H E c => ?_
    exact (ok_all (nm := nm) (k := k) (tb := tb) (C := ops ds k) d.t).xs _ _ _ ih c ⟨rfl, rfl, rfl⟩ _ q.2
/-- the law's def keeps what it means -/
theorem law_F {ds : List Df} {tb : Tb} {x y : Str} {dl : Df} {fa : Addr} {k : Nat} (hf : tb.fs = ds.map (·.x)) (hF : ∀ d ∈ ds, DfF K mg d) (hc : ds.all (dfOk tb) = true) (hkw : ds.all (kwOk tb) = true) (hbs : ∀ x, tb.bs.contains x = true → mg x = none) (hcs : ∀ x v, tb.cs.lookup x = some v → glV K mg x v)
    (hxs : ∀ (base : Heap) (c : Str) (fl : List Str), tb.xs.lookup c = some fl → XMk P w K mg base nm c fl ∧ XRd K nm c fl) (hxm : ∀ y c b, tb.xm.contains (y, c, b) = true → XIn K nm mg y c b) (hxc : ∀ c, tb.xc.contains c = true → ∃ D, mg c = some (.ref D))
    (hl : findD ds y = some dl) (hp : dl.ps = [x]) (hy : dl.x = y) (hm : dl ∈ ds) (hfa : mg y = some (.ref fa)) : ∃ fd : FuncData, (∀ (s : Shared) (u : Value), BindsTo s fd ⟨[u], []⟩ [(x, u)]) ∧
        ∀ base : Heap, K.In base → base.Ns mainGlobals mg → (∃ o es ep, base.get? sysModules = some o ∧ o.data = .dict es ep) → FnG P w K mg base nm (k + 1) fa fd [x] ((ops ds (k + 1)).call y) := by
  obtain ⟨fb, fd, h1, h2, h3, h4, h5⟩ := hF dl hm
  rw [hy, hfa] at h1
  cases h1
  refine ⟨fd, fun s u => .of_eq ?_, fun base _ _ hsm => ?_⟩
  · have := h3 [u] (by rw [hp]; rfl)
    rw [hp] at this
    exact this
  · have ih := ops_ok (P := P) (w := w) (base := base) (nm := nm) hf hF hc hkw hbs hcs hsm (hxs base) hxm hxc k
    have q := List.all_eq_true.mp hc dl hm
    unfold dfOk at q
    rw [Bool.and_eq_true] at q
    have ec : (ops ds (k + 1)).call y = fun xs ah => ((den (ops ds k) dl.t).x (startA dl.N xs) ah).fin := by
      funext xs ah
      show (match findD ds y with | some d => semD (ops ds k) d xs ah | none => .st) = _
      rw [hl]; rfl
    rw [ec, ← hp]
    refine FnG.by h4 (scOk_of q.1) hsm fun cdv A outer s H E c => ?_
    exact (ok_all (nm := nm) (k := k) (tb := tb) (C := ops ds k) dl.t).xs _ _ _ ih c ⟨rfl, rfl, rfl⟩ _ q.2
theorem xs_nil {base : Heap} : ∀ c fl, ([] : List (Str × List Str)).lookup c = some fl → XMk P w K mg base nm c fl ∧ XRd K nm c fl := fun c fl e => by cases e
theorem xs_cons {base : Heap} {y : Str} {u : List Str} {l : List (Str × List Str)} (h : XMk P w K mg base nm y u ∧ XRd K nm y u) (t : ∀ c fl, l.lookup c = some fl → XMk P w K mg base nm c fl ∧ XRd K nm c fl) : ∀ c fl, ((y, u) :: l).lookup c = some fl → XMk P w K mg base nm c fl ∧ XRd K nm c fl := fun c fl e => by
  simp only [List.lookup] at e
  split at e
  · rename_i q
    cases e
    have := beq_iff_eq.mp q
    subst this
    exact h
  · exact t c fl e
theorem xm_of {l : List (Str × Str × Bool)} (h : ∀ q ∈ l, XIn K nm mg q.1 q.2.1 q.2.2) : ∀ y c b, l.contains (y, c, b) = true → XIn K nm mg y c b := fun y c b hq => h _ (List.contains_iff_mem.mp hq)
theorem xc_of {l : List Str} (h : ∀ q ∈ l, ∃ D, mg q = some (.ref D)) : ∀ c, l.contains c = true → ∃ D, mg c = some (.ref D) := fun c hq => h _ (List.contains_iff_mem.mp hq)
/-- class names by the text's own names -/
def nmOf (K : PySem.W.Frag) : Nm := ⟨fun c => match PySem.W.nsIn K mainGlobals c with | some (some (.ref C)) => some C | _ => none⟩
theorem nm_of {c : Str} {C : Addr} (a : PySem.W.nsIn K mainGlobals c = some (some (.ref C))) : (nmOf K).cls c = some C := by
  unfold nmOf
  dsimp only
  rw [a]
def initSt : Stmt → Stmt
  | .ClassDef _ _ _ body _ _ _ _ _ _ _ => body.getD 0 (.Pass ⟨0, 0, 0, 0⟩)
  | s => s
def xparB (K : PySem.W.Frag) (B : Addr) : Bool := PySem.W.readsIn K B (.type "type") && decide (PySem.W.specialIn K (.ref B) "__getattribute__" = some (some (.builtin "type.__getattribute__"))) && (match PySem.W.findCls K (.ref B) (.type "type") "__init__" with | some (.val (.builtin n)) => n == "Exception.__init__" | _ => false)
theorem xpar_of {K : PySem.W.Frag} {B : Addr} (h : xparB K B = true) : XPar K B := by
  unfold xparB at h
  simp only [Bool.and_eq_true, decide_eq_true_eq] at h
  obtain ⟨⟨h1, h2⟩, h3⟩ := h
  refine ⟨h1, h2, ?_⟩
  split at h3
  · rename_i n e
    rw [e, beq_iff_eq.mp h3]
  · cases h3
/-- an error's facts, by its own parts -/
def xAllB (K : PySem.W.Frag) (C B fI : Addr) (fl : List Str) : Bool := xclsB K C && xfB K C && xisB K C && xparB K B && fl.all (fun f => decide (PySem.W.findIn K (.ref C) f = some none)) && decide (PySem.W.typeIn K (.ref fI) = some (.type "function"))
theorem xs_mk {h : Heap} (X : K.In h) (G : h.Ns mainGlobals mg) {c B qual : Str} {fl N : List Str} {C BA fI : Addr} {st : Stmt} {oc : Value} {od an : Option Addr} {osl : Array (Option Value)} {kV doc pm cdv ct : Value}
    (a : PySem.W.nsIn K mainGlobals c = some (some (.ref C))) (b : PySem.W.nsIn K mainGlobals B = some (some (.ref BA))) (i : PySem.W.findIn K (.ref C) "__init__" = some (some (.ref fI)))
    (l : K.lookup fI = some ⟨oc, od, .func (PySem.W.fnOf "__init__" qual (defArgs st) (defBody st) (defScope st) .none kV doc pm an cdv ct), osl⟩) (cc : PySem.W.codeIn K cdv qual = true) (kk : PySem.W.keepIn K (.ref fI) = true) (q : xAllB K C BA fI fl = true)
    (hb : ∀ (kV doc pm : Value) (an : Option Addr) (cdv ct : Value) (us : List Value), us.length = N.length → bindArgs (PySem.W.fnOf "__init__" qual (defArgs st) (defBody st) (defScope st) .none kV doc pm an cdv ct) ⟨us, []⟩ = pure (N.zip us))
    (sc : scOk N N (defScope st) = true) (xb : xBody B N fl (defBody st) = true) (xs : xScope B N (defScope st) = true) (P : Program) (w : World) (base : Heap) : XMk P w K mg base (nmOf K) c fl ∧ XRd K (nmOf K) c fl := by
  unfold xAllB at q
  simp only [Bool.and_eq_true, decide_eq_true_eq, List.all_eq_true] at q
  obtain ⟨⟨⟨⟨⟨q1, q2⟩, q3⟩, q4⟩, q5⟩, q6⟩ := q
  exact ⟨⟨C, nm_of a, PySem.W.mg_of X G a, xcls_of q1, q5, fI, _, N, i, q6, .all fun us hl => hb kV doc pm an cdv ct us hl, x_init (fun_mk (st := st) l cc kk) (scOk_of sc) xb xs (xpar_of q4) (PySem.W.mg_of X G b)⟩, C, nm_of a, xfB_ok q2, xis_of q3, q5⟩
theorem xm_mk {h : Heap} (X : K.In h) (G : h.Ns mainGlobals mg) {y c : Str} {C D : Addr} {b : Bool} (a : PySem.W.nsIn K mainGlobals y = some (some (.ref C))) (d : PySem.W.nsIn K mainGlobals c = some (some (.ref D))) (e : PySem.W.exmOne K (.ref C) (.ref D) = some b) (f : PySem.W.kitOne K (.ref C) (.ref D) = some b) : XIn K (nmOf K) mg y c b :=
  ⟨C, D, nm_of a, PySem.W.mg_of X G d, e, f⟩
theorem xc_mk {h : Heap} (X : K.In h) (G : h.Ns mainGlobals mg) {c : Str} {D : Addr} (d : PySem.W.nsIn K mainGlobals c = some (some (.ref D))) : ∃ D, mg c = some (.ref D) := ⟨D, PySem.W.mg_of X G d⟩
theorem bs_of {l : List Str} (h : ∀ x ∈ l, mg x = none) : ∀ x, l.contains x = true → mg x = none := fun x hx => h x (List.contains_iff_mem.mp hx)
theorem gl_int {x : Str} {n : Int} {t : Nat} {h : Heap} (X : K.In h) (G : h.Ns mainGlobals mg) (e : PySem.W.nsIn K mainGlobals x = some (some (.int n t))) : glV K mg x (.int n) := ⟨_, PySem.W.mg_of X G e, .int n, ⟨_, rfl⟩, fun _ => .int n⟩
theorem gl_str {x : Str} {n : Str} {t : Nat} {h : Heap} (X : K.In h) (G : h.Ns mainGlobals mg) (e : PySem.W.nsIn K mainGlobals x = some (some (.str n t))) : glV K mg x (.str n) := ⟨_, PySem.W.mg_of X G e, .str n, ⟨_, rfl⟩, fun _ => .str n⟩
theorem cs_nil : ∀ x v, ([] : List (Str × AV)).lookup x = some v → glV K mg x v := fun x v e => by cases e
theorem cs_cons {y : Str} {u : AV} {l : List (Str × AV)} (h : glV K mg y u) (t : ∀ x v, l.lookup x = some v → glV K mg x v) : ∀ x v, ((y, u) :: l).lookup x = some v → glV K mg x v := fun x v e => by
  simp only [List.lookup] at e
  split at e
  · rename_i q
    cases e
    have := beq_iff_eq.mp q
    subst this
    exact h
  · exact t x v e
/-! ### the law's call -/
def noLists (K : PySem.W.Frag) : Bool := K.all fun p => match p.2.cls with | .type c => c != "list" | _ => true
theorem noLists_of {a : Addr} {o : Obj} : ∀ {K : PySem.W.Frag}, noLists K = true → K.lookup a = some o → o.cls ≠ .type "list"
  | [], _, e => by cases e
  | (b, u) :: r, h, e => by
    unfold noLists at h
    rw [List.all_cons, Bool.and_eq_true] at h
    simp only [List.lookup] at e
    split at e
    · cases e
      intro z
      have h := h.1
      simp only [z] at h
      exact absurd h (by decide)
    · exact noLists_of (K := r) h.2 e
theorem rvs_ints {W : Wd} : ∀ ns : List Int, W.RVs K (ns.map AV.int) (ns.map V.int)
  | [] => .nil
  | n :: r => .cons (.int n) (rvs_ints r)
open PySem.Spec PyProof.Rows in
theorem law_callG {mb : Str → Option Value} {k : Nat} {fa a : Addr} {fd : FuncData} {x : Str} {sem : List AV → AH → Ot AV} {s₁ : Shared} {vs : List Value} {ns : List Int}
    (KX : K.In s₁.heap) (nl : noLists K = true) (sy : ∃ o es ep, s₁.heap.get? sysModules = some o ∧ o.data = .dict es ep) (hns : s₁.heap.Ns mainGlobals mg) (hb : s₁.heap.Ns builtinsNs mb) (hbb : ∀ x : Str, x ≠ "__name__" → mb x = bootBuiltins x) (hlim : s₁.heap.NoLimit) (hg : s₁.gens = #[])
    (ha : s₁.heap.get? a = some { cls := .type "list", data := .seq vs.toArray }) (hi : IntsAre vs ns) (hl : ns.length ≤ sizeLine) (hr : Room (rm k + 1) callerA)
    (F : ∀ base : Heap, K.In base → base.Ns mainGlobals mg → (∃ o es ep, base.get? sysModules = some o ∧ o.data = .dict es ep) → FnG P w K mg base nm k fa fd [x] sem) (hbind : ∀ (s : Shared) (u : Value), BindsTo s fd ⟨[u], []⟩ [(x, u)])
    (hsem : ∃ ah', sem [.lst (ns.map .int)] [] = .ok (.bl true) ah') :
    codeAny (model P w) callerA (.call (.ref fa) ⟨[.ref a], []⟩) (fun r s' => r = .ok (.ret (.bool true)) ∧ OldK s₁.heap s'.heap ∧ s'.os = s₁.os ∧ AllBare s'.gens) s₁ := by
  have rv := vals_ints hi
  have lenV := hi.length
  have hk : K.lookup a = none := by
    cases e : K.lookup a with
    | none => rfl
    | some o =>
      have := KX a o e
      rw [ha] at this
      cases this
      exact absurd rfl (noLists_of nl e)
  obtain ⟨H, hH⟩ : ∃ H : Hp, H = fun b => if b = a then some (.frz { cls := .type "list", data := .seq vs.toArray } (.lst (ns.map V.int))) else none := ⟨_, rfl⟩
  have Ha : H a = some (.frz { cls := .type "list", data := .seq vs.toArray } (.lst (ns.map V.int))) := by rw [hH]; exact if_pos rfl
  have Hn : ∀ b, b ≠ a → H b = none := fun b hb => by rw [hH]; exact if_neg hb
  have Ho : ∀ b, H b ≠ none → b = a := fun b z => Decidable.byContradiction fun n => z (Hn b n)
  have hok : HOk P w H s₁.heap := fun b u z => by
    have e := Ho b (by rw [z]; simp)
    subst e
    rw [Ha] at z
    cases z
    exact ⟨ha, by rw [List.length_map]; exact hl, vs, _, rv, ha⟩
  have base_of : ∀ {b : Addr} {o : Obj}, s₁.heap.get? b = some o → H b = none → (hidT s₁.heap H).get? b = some o := fun e n => hidT_get e n
  have noA : ∀ {b : Addr} {o : Obj} {es : Array DictEntry} {ep : Nat}, s₁.heap.get? b = some o → o.data = .dict es ep → H b = none := fun {b o es ep} e d => by
    refine Hn b fun z => ?_
    subst z
    rw [ha] at e
    cases e
    cases d
  have nsK : ∀ {b : Addr} {m : Str → Option Value}, s₁.heap.Ns b m → (hidT s₁.heap H).Ns b m := fun {b m} ⟨o, es, ep, e, d, r⟩ => ⟨o, es, ep, base_of e (noA e d), d, r⟩
  have hKb : K.In (hidT s₁.heap H) := fun b o e => base_of (KX b o e) (Hn b fun z => by subst z; rw [hk] at e; cases e)
  have hM : Mod K mg (hidT s₁.heap H) := ⟨hKb, nsK hns, ⟨mb, nsK hb, hbb⟩, let ⟨mc, h1, h2⟩ := hlim; ⟨mc, nsK h1, h2⟩⟩
  have e0 : Env0 P w K mg (hidT s₁.heap H) callerA [] s₁ H := ⟨rfl, hM, fun b o e => of_hidT e, Nat.le_of_eq (hidT_size _ _), trivial, fun b hb => absurd (show b ∈ ([] : List Addr) from hb) (by simp), hok, .of_eq hg⟩
  have sy' : ∃ o es ep, (hidT s₁.heap H).get? sysModules = some o ∧ o.data = .dict es ep := let ⟨o, es, ep, e, d⟩ := sy; ⟨o, es, ep, base_of e (noA e d), d⟩
  have G := F _ hKb (nsK hns) sy'
  have R : RelH K nm ⟨H, []⟩ [] H := ⟨fun b o e => e, rfl, List.nodup_nil, fun b m => absurd m (by simp), fun i b o e => by simp at e⟩
  have rl : Wd.RV ⟨H, []⟩ K (.lst (ns.map .int)) (.ref a) := .lst (.inr ⟨_, Ha⟩) (rvs_ints (W := ⟨H, []⟩) ns)
  obtain ⟨ah', es⟩ := hsem
  refine codeAny_mono (G.run callerA [] s₁ H ⟨[.ref a], []⟩ [.ref a] [.ref a] ⟨H, []⟩ [.lst (ns.map .int)] [] (fun v _ => v = .bl true) (fun _ _ _ => False) hr rfl e0 (hbind s₁ (.ref a)) (.cons rfl .nil) R (.cons rl .nil) rfl (by
    rw [es]
    intro W' H' st R' w r
    cases r
    rfl)) fun r s' h => ?_
  cases r with
  | error e =>
    obtain ⟨_, _, _, _, _, _, _, _, _, _, _, _, z⟩ := (show L2.CX P w [] H s₁ (fun _ _ _ => False) e s' from h)
    exact z.elim
  | ok fl =>
    cases fl with
    | next => exact False.elim h
    | brk => exact False.elim h
    | cont => exact False.elim h
    | ret u =>
      obtain ⟨v, H', os, bare, un, hok', r', q⟩ := h
      have q' : v = .bl true := q
      subst q'
      obtain rfl : u = Value.bool true := r'
      refine ⟨rfl, OldK.of_keep fun b o e => ?_, os, bare⟩
      by_cases hb : b = a
      · subst hb
        have z2 := un.frzs b _ _ Ha
        obtain ⟨e2, _⟩ := hok' b _ z2
        rw [ha] at e
        cases e
        exact e2
      · exact un.keep b o e (Hn b hb) (by intro z; exact absurd (show b ∈ ([] : List Addr) from z) (by simp)) (by simp)
end
open PySem.Spec PyProof.Rows in
/-- the goal that the head leaves, from the law's meaning -/
theorem walkG {l : PySem.W.OpenLaw} {n k : Nat} {q : Program} {loose : List Str} {XP : (Str → Option Value) → Heap → Prop} {YP : World → Heap → Prop} {d : DefRec} {K : Params → PySem.W.Frag} {x : Str} {sem : List AV → AH → Ot AV}
    (hn : l.most = some n) (hn2 : n ≤ sizeLine) (hdf : d.params.defaults = []) (hr : Room (rm k + 1) callerA) (hq : importsNone q = true)
    (hY : ∀ (w : World) (h : Heap), YP w h → (K w.params).In h) (nl : ∀ w : World, noLists (K w.params) = true)
    (F : ∀ (w : World) (mg : Str → Option Value) (fa : Addr) (h : Heap), (K w.params).In h → h.Ns mainGlobals mg → mg d.name = some (.ref fa) →
      ∃ fd : FuncData, (∀ (s : Shared) (u : Value), BindsTo s fd ⟨[u], []⟩ [(x, u)]) ∧
        ∀ base : Heap, (K w.params).In base → base.Ns mainGlobals mg → (∃ o es ep, base.get? sysModules = some o ∧ o.data = .dict es ep) → FnG l.prog w (K w.params) mg base (nmOf (K w.params)) k fa fd [x] sem)
    (hsem : ∀ ns : List Int, ns.length ≤ n → ∃ ah', sem [.lst (ns.map .int)] [] = .ok (.bl true) ah') :
    PySem.W.WalkO q loose XP YP l.row.toRowW d [] (fun f vs => PySem.call f vs) := by
  refine Att.attach_call hn hdf fun w s₀ s₁ mg mb fa o pm cd doc a vs ns G Y ho hd hcd hmg hobj hints hlen hg => ?_
  have KX := hY w _ Y
  obtain ⟨fd, hb, hF⟩ := F w mg fa _ KX G.T.g hmg
  obtain ⟨mm, ⟨o, es, ep, e1, e2, _⟩, _⟩ := (G.T.seer hq).mods
  exact law_callG KX (nl w) ⟨o, es, ep, e1, e2⟩ G.T.g G.T.b G.T.builtins G.T.nolimit hg hobj hints (Nat.le_trans hlen hn2) hr hF hb (hsem ns hlen)
end Ko

/-! Ko, part R: plain words: what an outcome must be. -/
namespace Ko
open PySem L2
def Yes {α : Type} (r : Ot α) (P : α → AH → Prop) : Prop := match r with | .ok a ah => P a ah | _ => False
theorem Yes.imp {α : Type} {r : Ot α} {P Q : α → AH → Prop} (h : Yes r P) (f : ∀ a ah, P a ah → Q a ah) : Yes r Q := by
  cases r with
  | ok a ah => exact f a ah h
  | _ => exact h
@[simp] theorem Yes.ok {α : Type} {a : α} {ah : AH} {P : α → AH → Prop} : Yes (.ok a ah) P ↔ P a ah := Iff.rfl
theorem Yes.bind {α β : Type} {r : Ot α} {f : α → AH → Ot β} {P : β → AH → Prop} : Yes (r.bind f) P ↔ Yes r fun a ah => Yes (f a ah) P := by
  cases r <;> exact Iff.rfl
theorem Yes.eq {α : Type} {r : Ot α} {P : α → AH → Prop} (h : Yes r P) : ∃ a ah, r = .ok a ah ∧ P a ah := by
  cases r with
  | ok a ah => exact ⟨a, ah, rfl, h⟩
  | ex => exact False.elim h
  | st => exact False.elim h
/-- a body's end -/
def YesS (r : SR) (N : Rho → AH → Prop) (R : AV → AH → Prop) : Prop := match r with | .nx ρ ah => N ρ ah | .rt v ah => R v ah | _ => False
theorem YesS.imp {r : SR} {N N' : Rho → AH → Prop} {R R' : AV → AH → Prop} (h : YesS r N R) (n : ∀ ρ ah, N ρ ah → N' ρ ah) (f : ∀ a ah, R a ah → R' a ah) : YesS r N' R' := by
  cases r with
  | nx a ah => exact n a ah h
  | rt a ah => exact f a ah h
  | _ => exact h
theorem YesS.to {α : Type} {r : Ot α} {ρ : Rho} {k : α → AH → SR} {N : Rho → AH → Prop} {R : AV → AH → Prop} : YesS (r.to ρ k) N R ↔ Yes r fun a ah => YesS (k a ah) N R := by
  cases r <;> exact Iff.rfl
theorem YesS.seq {f g : Rho → AH → SR} {ρ : Rho} {ah : AH} {N : Rho → AH → Prop} {R : AV → AH → Prop} : YesS (seqF f g ρ ah) N R ↔ YesS (f ρ ah) (fun ρ ah => YesS (g ρ ah) N R) R := by
  unfold seqF
  cases f ρ ah <;> exact Iff.rfl
theorem YesS.nil {ρ : Rho} {ah : AH} {N : Rho → AH → Prop} {R : AV → AH → Prop} : YesS (nilF ρ ah) N R ↔ N ρ ah := Iff.rfl
theorem YesS.ret {a : Rho → AH → Ot AV} {ρ : Rho} {ah : AH} {N : Rho → AH → Prop} {R : AV → AH → Prop} : YesS (retF a ρ ah) N R ↔ Yes (a ρ ah) R := by
  unfold retF; cases a ρ ah <;> exact Iff.rfl
theorem YesS.ifS {c : Rho → AH → Ot Bool} {f g : Rho → AH → SR} {ρ : Rho} {ah : AH} {N : Rho → AH → Prop} {R : AV → AH → Prop} : YesS (ifS c f g ρ ah) N R ↔ Yes (c ρ ah) fun b ah => YesS (if b = true then f ρ ah else g ρ ah) N R := YesS.to
theorem YesS.asg {t : TP} {a : Rho → AH → Ot AV} {ρ : Rho} {ah : AH} {N : Rho → AH → Prop} {R : AV → AH → Prop} : YesS (asgF t a ρ ah) N R ↔ Yes (a ρ ah) fun v ah => match t.put v ah ρ with | some ρ1 => N ρ1 ah | none => False := by
  unfold asgF
  cases a ρ ah with
  | ok v ah =>
    show YesS (match t.put v ah ρ with | some ρ1 => SR.nx ρ1 ah | none => SR.st) N R ↔ (match t.put v ah ρ with | some ρ1 => N ρ1 ah | none => False)
    cases t.put v ah ρ <;> exact Iff.rfl
  | _ => exact Iff.rfl
theorem YesS.fin {r : SR} {P : AV → AH → Prop} : Yes r.fin P ↔ YesS r (fun _ ah => P .non ah) P := by cases r <;> exact Iff.rfl
theorem yes_of {α : Type} {o : Option α} {ah : AH} {P : α → AH → Prop} : Yes (Ot.of o ah) P ↔ ∃ a, o = some a ∧ P a ah := by
  cases o with
  | none => exact ⟨False.elim, fun ⟨_, e, _⟩ => by cases e⟩
  | some a => exact ⟨fun h => ⟨a, rfl, h⟩, fun ⟨_, e, h⟩ => by cases e; exact h⟩
theorem yes_ite {α : Type} {c : Prop} [Decidable c] {a b : Ot α} {P : α → AH → Prop} : Yes (if c then a else b) P ↔ (c → Yes a P) ∧ (¬ c → Yes b P) := by
  by_cases h : c
  · rw [if_pos h]; exact ⟨fun x => ⟨fun _ => x, fun n => absurd h n⟩, fun x => x.1 h⟩
  · rw [if_neg h]; exact ⟨fun x => ⟨fun n => absurd n h, fun _ => x⟩, fun x => x.2 h⟩
/-! loops -/
theorem forV_ok {t : TP} {body : Rho → AH → SR} {R : AV → AH → Prop} {N : Rho → AH → Prop} (I : List AV → Rho → AH → Prop) : ∀ (xs : List AV) (ρ : Rho) (ah : AH), I xs ρ ah → (∀ ρ ah, I [] ρ ah → N ρ ah) →
    (∀ x xs ρ ah, I (x :: xs) ρ ah → ∃ ρ1, t.put x ah ρ = some ρ1 ∧ match body ρ1 ah with | .nx ρ ah => I xs ρ ah | .ct ρ ah => I xs ρ ah | .bk ρ ah => N ρ ah | .rt v ah => R v ah | _ => False) → YesS (forV always t body xs ρ ah) N R
  | [], ρ, ah, h, hn, _ => hn ρ ah h
  | x :: xs, ρ, ah, h, hn, hs => by
    obtain ⟨ρ1, e, q⟩ := hs x xs ρ ah h
    unfold forV
    rw [if_pos (show always ah = true from rfl), e]
    dsimp only
    cases eb : body ρ1 ah with
    | nx ρ2 ah2 => rw [eb] at q; exact forV_ok I xs ρ2 ah2 q hn hs
    | ct ρ2 ah2 => rw [eb] at q; exact forV_ok I xs ρ2 ah2 q hn hs
    | bk ρ2 ah2 => rw [eb] at q; exact q
    | rt v ah2 => rw [eb] at q; exact q
    | ex x ρ2 ah2 => rw [eb] at q; exact q
    | st => rw [eb] at q; exact q
theorem forV_ok' {t : TP} {body : Rho → AH → SR} {R : AV → AH → Prop} {N : Rho → AH → Prop} (I : List AV → Rho → AH → Prop) (xs : List AV) (ρ : Rho) (ah : AH) (h : I xs ρ ah) (hn : ∀ ρ ah, I [] ρ ah → N ρ ah)
    (hs : ∀ x xs ρ ah, I (x :: xs) ρ ah → ∃ ρ1, t.put x ah ρ = some ρ1 ∧ YesS (body ρ1 ah) (fun ρ ah => I xs ρ ah) R) : YesS (forV always t body xs ρ ah) N R :=
  forV_ok I xs ρ ah h hn fun x xs ρ ah h => by
    obtain ⟨ρ1, e, q⟩ := hs x xs ρ ah h
    refine ⟨ρ1, e, ?_⟩
    cases eb : body ρ1 ah with
    | nx ρ2 ah2 => rw [eb] at q; exact q
    | rt v ah2 => rw [eb] at q; exact q
    | ct ρ2 ah2 => rw [eb] at q; exact q.elim
    | bk ρ2 ah2 => rw [eb] at q; exact q.elim
    | ex x ρ2 ah2 => rw [eb] at q; exact q.elim
    | st => rw [eb] at q; exact q.elim
theorem compV_ok {t : TP} {vs : List Nat} {c : Rho → AH → Ot Bool} {e : Rho → AH → Ot AV} {ρ : Rho} {P : AV → AH → Prop} (I : List AV → List AV → AH → Prop) : ∀ (xs acc : List AV) (ah : AH), I xs acc ah → (∀ acc ah, I [] acc ah → P (.lst acc) ah) →
    (∀ x xs acc ah, I (x :: xs) acc ah → ∃ ρ1, t.put x ah (wipeA ρ vs) = some ρ1 ∧ Yes (c ρ1 ah) fun b ah1 => if b = true then Yes (e ρ1 ah1) fun y ah2 => acc.length < sizeLine ∧ I xs (acc ++ [y]) ah2 else I xs acc ah1) → Yes (compV always t vs c e ρ acc xs ah) P
  | [], acc, ah, h, hn, _ => by
    unfold compV
    rw [if_pos (show always ah = true from rfl)]
    exact hn acc ah h
  | x :: xs, acc, ah, h, hn, hs => by
    obtain ⟨ρ1, e1, q⟩ := hs x xs acc ah h
    unfold compV
    rw [if_pos (show always ah = true from rfl), e1]
    obtain ⟨b, ah1, e2, q⟩ := q.eq
    show Yes (((c ρ1 ah).calm).bind _) P
    rw [e2]
    show Yes (if b = true then _ else _) P
    cases b with
    | false => rw [if_neg Bool.false_ne_true]; rw [if_neg Bool.false_ne_true] at q; exact compV_ok I xs acc ah1 q hn hs
    | true =>
      rw [if_pos rfl]; rw [if_pos rfl] at q
      obtain ⟨y, ah2, e3, q1, q2⟩ := q.eq
      rw [e3]
      show Yes (if acc.length < sizeLine then _ else _) P
      rw [if_pos q1]
      exact compV_ok I xs (acc ++ [y]) ah2 q2 hn hs
/-- a call -/
def cl (ds : List Df) (k : Nat) (f : Str) : List AV → AH → Ot AV := (ops ds k).call f
theorem cl_eq {ds : List Df} {k : Nat} {f : Str} {d : Df} (h : findD ds f = some d) : cl ds (k + 1) f = semD (ops ds k) d := by
  funext xs ah
  show (match findD ds f with | some d => semD (ops ds k) d xs ah | none => .st) = _
  rw [h]
end Ko

/-! Ko, part S: what each tree must do, in plain words. -/
namespace Ko
open PySem L2
section
variable {α : Type} {ρ : Rho} {ah : AH} {P : AV → AH → Prop}
abbrev TA' := Rho → AH → Ot AV
theorem y_c {v : AV} : Yes (cF v ρ ah) P ↔ P v ah := Iff.rfl
theorem y_v {i : Nat} : Yes (vF i ρ ah) P ↔ match ρ[i]? with | some (some v) => P v ah | _ => False := by
  unfold vF
  cases h : ρ[i]? with
  | none => exact Iff.rfl
  | some o => cases o <;> exact Iff.rfl
theorem y_f2 {g : AH → AV → AV → Option AV} {a b : Rho → AH → Ot AV} : Yes (f2 g a b ρ ah) P ↔ Yes (a ρ ah) fun x ah1 => Yes (b ρ ah1) fun y ah2 => ∃ c, g ah2 x y = some c ∧ P c ah2 := by
  unfold f2; simp only [Yes.bind, yes_of]
theorem y_f1 {g : AH → AV → Option AV} {a : Rho → AH → Ot AV} : Yes (f1 g a ρ ah) P ↔ Yes (a ρ ah) fun x ah1 => ∃ c, g ah1 x = some c ∧ P c ah1 := by
  unfold f1; simp only [Yes.bind, yes_of]
theorem y_fA {g : AH → List AV → Option AV} {a : Rho → AH → Ot (List AV)} : Yes (fA g a ρ ah) P ↔ Yes (a ρ ah) fun x ah1 => ∃ c, g ah1 x = some c ∧ P c ah1 := by
  unfold fA; simp only [Yes.bind, yes_of]
theorem y_nil {P : List AV → AH → Prop} : Yes (aNil ρ ah) P ↔ P [] ah := Iff.rfl
theorem y_cons {P : List AV → AH → Prop} {a : Rho → AH → Ot AV} {b : Rho → AH → Ot (List AV)} : Yes (aCons a b ρ ah) P ↔ Yes (a ρ ah) fun x ah1 => Yes (b ρ ah1) fun xs ah2 => P (x :: xs) ah2 := by
  unfold aCons; simp only [Yes.bind, Yes.ok]
theorem y_tup {a : Rho → AH → Ot (List AV)} : Yes (tupF a ρ ah) P ↔ Yes (a ρ ah) fun xs ah1 => xs.length ≤ sizeLine ∧ P (.tup xs) ah1 := by
  unfold tupF; simp only [Yes.bind]
  constructor <;> intro h <;> refine h.imp fun xs ah q => ?_
  · split at q
    · rename_i z; exact ⟨z, q⟩
    · exact q.elim
  · rw [if_pos q.1]; exact q.2
theorem y_lst {a : Rho → AH → Ot (List AV)} : Yes (lstF a ρ ah) P ↔ Yes (a ρ ah) fun xs ah1 => xs.length ≤ sizeLine ∧ P (.lst xs) ah1 := by
  unfold lstF; simp only [Yes.bind]
  constructor <;> intro h <;> refine h.imp fun xs ah q => ?_
  · split at q
    · rename_i z; exact ⟨z, q⟩
    · exact q.elim
  · rw [if_pos q.1]; exact q.2
theorem y_lstM {a : Rho → AH → Ot (List AV)} : Yes (lstM a ρ ah) P ↔ Yes (a ρ ah) fun xs ah1 => xs.length ≤ sizeLine ∧ P (.ref ah1.length) (ah1 ++ [.lst xs]) := by
  unfold lstM; simp only [Yes.bind]
  constructor <;> intro h <;> refine h.imp fun xs ah q => ?_
  · split at q
    · rename_i z; exact ⟨z, q⟩
    · exact q.elim
  · rw [if_pos q.1]; exact q.2
theorem y_dic0 : Yes (dic0F ρ ah) P ↔ P (.dct []) ah := Iff.rfl
theorem y_tF {P : Bool → AH → Prop} {a : Rho → AH → Ot AV} : Yes (tF a ρ ah) P ↔ Yes (a ρ ah) fun x ah1 => ∃ c, truF ah1 x = some c ∧ P c ah1 := by
  unfold tF; simp only [Yes.bind, yes_of]
theorem y_bF {P : Bool → AH → Prop} {a : Rho → AH → Ot AV} : Yes (bF a ρ ah) P ↔ Yes (a ρ ah) fun x ah1 => ∃ c, asB (some x) = some c ∧ P c ah1 := by
  unfold bF; simp only [Yes.bind, yes_of]
theorem y_tAnd {P : Bool → AH → Prop} {a b : Rho → AH → Ot Bool} : Yes (tAndF a b ρ ah) P ↔ Yes (a ρ ah) fun x ah1 => if x = true then Yes (b ρ ah1) P else P false ah1 := by
  unfold tAndF; simp only [Yes.bind]
  constructor <;> intro h <;> refine h.imp fun x ah q => ?_ <;> cases x <;> exact q
theorem y_tOr {P : Bool → AH → Prop} {a b : Rho → AH → Ot Bool} : Yes (tOrF a b ρ ah) P ↔ Yes (a ρ ah) fun x ah1 => if x = true then P true ah1 else Yes (b ρ ah1) P := by
  unfold tOrF; simp only [Yes.bind]
  constructor <;> intro h <;> refine h.imp fun x ah q => ?_ <;> cases x <;> exact q
theorem y_tNot {P : Bool → AH → Prop} {a : Rho → AH → Ot Bool} : Yes (tNotF a ρ ah) P ↔ Yes (a ρ ah) fun x ah1 => P (!x) ah1 := by
  unfold tNotF; simp only [Yes.bind, Yes.ok]
theorem y_not {a : Rho → AH → Ot AV} : Yes (notF a ρ ah) P ↔ Yes (a ρ ah) fun x ah1 => ∃ c, truF ah1 x = some c ∧ P (.bl !c) ah1 := by
  unfold notF; rw [y_f1]
  constructor <;> intro h <;> refine h.imp fun x ah q => ?_
  · obtain ⟨c, e, q⟩ := q
    simp only [Option.map_eq_some_iff] at e
    obtain ⟨b, e1, rfl⟩ := e
    exact ⟨b, e1, q⟩
  · obtain ⟨c, e, q⟩ := q
    exact ⟨_, by rw [e]; rfl, q⟩
theorem y_and {a b : Rho → AH → Ot AV} : Yes (andF a b ρ ah) P ↔ Yes (a ρ ah) fun x ah1 => ∃ c, truF ah1 x = some c ∧ if c = true then Yes (b ρ ah1) P else P x ah1 := by
  unfold andF; simp only [Yes.bind]
  constructor <;> intro h <;> refine h.imp fun x ah q => ?_
  · cases e : truF ah x with
    | none => rw [e] at q; exact q.elim
    | some c => rw [e] at q; cases c <;> exact ⟨_, rfl, q⟩
  · obtain ⟨c, e, q⟩ := q
    rw [e]; cases c <;> exact q
theorem y_or {a b : Rho → AH → Ot AV} : Yes (orF a b ρ ah) P ↔ Yes (a ρ ah) fun x ah1 => ∃ c, truF ah1 x = some c ∧ if c = true then P x ah1 else Yes (b ρ ah1) P := by
  unfold orF; simp only [Yes.bind]
  constructor <;> intro h <;> refine h.imp fun x ah q => ?_
  · cases e : truF ah x with
    | none => rw [e] at q; exact q.elim
    | some c => rw [e] at q; cases c <;> exact ⟨_, rfl, q⟩
  · obtain ⟨c, e, q⟩ := q
    rw [e]; cases c <;> exact q
theorem y_if {t : Rho → AH → Ot Bool} {a b : Rho → AH → Ot AV} : Yes (ifF t a b ρ ah) P ↔ Yes (t ρ ah) fun x ah1 => if x = true then Yes (a ρ ah1) P else Yes (b ρ ah1) P := by
  unfold ifF; simp only [Yes.bind]
  constructor <;> intro h <;> refine h.imp fun x ah q => ?_ <;> cases x <;> exact q
theorem y_call {sem : List AV → AH → Ot AV} {n : Nat} {a : Rho → AH → Ot (List AV)} : Yes (callF sem n a ρ ah) P ↔ Yes (a ρ ah) fun xs ah1 => xs.length = n ∧ Yes (sem xs ah1) P := by
  unfold callF; simp only [Yes.bind]
  constructor <;> intro h <;> refine h.imp fun x ah q => ?_
  · split at q
    · rename_i z; exact ⟨z, q⟩
    · exact q.elim
  · rw [if_pos q.1]; exact q.2
theorem y_kw {P : List AV → AH → Prop} {a b : Rho → AH → Ot (List AV)} {np nk : Nat} {perm : List Nat} : Yes (kwF a b np nk perm ρ ah) P ↔ Yes (a ρ ah) fun xs ah1 => Yes (b ρ ah1) fun ys ah2 => (xs.length = np ∧ ys.length = nk) ∧ P (xs ++ perm.map fun i => ys.getD i .non) ah2 := by
  unfold kwF; simp only [Yes.bind]
  constructor <;> intro h <;> refine h.imp fun x ah q => q.imp fun y ah q => ?_
  · split at q
    · rename_i z; exact ⟨z, q⟩
    · exact q.elim
  · rw [if_pos q.1]; exact q.2
theorem y_chain {g g' : AH → AV → AV → Option AV} {a b c : Rho → AH → Ot AV} : Yes (fChain g g' a b c ρ ah) P ↔ Yes (a ρ ah) fun x ah1 => Yes (b ρ ah1) fun y ah2 => ∃ d, asB (g ah2 x y) = some d ∧ if d = true then Yes (c ρ ah2) fun z ah3 => ∃ r, g' ah3 y z = some r ∧ P r ah3 else P (.bl false) ah2 := by
  unfold fChain; simp only [Yes.bind]
  constructor <;> intro h <;> refine h.imp fun x ah q => q.imp fun y ah q => ?_
  · cases e : asB (g ah x y) with
    | none => rw [e] at q; exact q.elim
    | some d =>
      rw [e] at q
      cases d
      · exact ⟨_, rfl, q⟩
      · refine ⟨_, rfl, ?_⟩
        simp only [Yes.bind, yes_of] at q
        exact q
  · obtain ⟨d, e, q⟩ := q
    rw [e]
    cases d
    · exact q
    · simp only [Yes.bind, yes_of]; exact q
theorem y_slc {a : Rho → AH → Ot AV} {lo hi : Rho → AH → Ot (Option Int)} : Yes (slcF a lo hi ρ ah) P ↔ Yes (a ρ ah) fun x ah1 => Yes (lo ρ ah1) fun l ah2 => Yes (hi ρ ah2) fun h ah3 => ∃ c, slF ah3 x l h = some c ∧ P c ah3 := by
  unfold slcF; simp only [Yes.bind, yes_of]
theorem y_pN {P : Option Int → AH → Prop} : Yes (pNone ρ ah) P ↔ P none ah := Iff.rfl
theorem y_pS {P : Option Int → AH → Prop} {a : Rho → AH → Ot AV} : Yes (pSome a ρ ah) P ↔ Yes (a ρ ah) fun x ah1 => ∃ i, asI x = some i ∧ P (some i) ah1 := by
  unfold pSome; simp only [Yes.bind]
  constructor <;> intro h <;> refine h.imp fun x ah q => ?_
  · cases e : asI x with
    | none => rw [e] at q; exact q.elim
    | some d => rw [e] at q; exact ⟨_, rfl, q⟩
  · obtain ⟨d, e, q⟩ := q
    rw [e]; exact q
theorem y_isi {ts : List Ty} {a : Rho → AH → Ot AV} : Yes (isiF ts a ρ ah) P ↔ Yes (a ρ ah) fun x ah1 => ∃ t, tyA ah1 x = some t ∧ P (.bl (ts.any (isTy t))) ah1 := by
  unfold isiF; rw [y_f1]
  constructor <;> intro h <;> refine h.imp fun x ah q => ?_
  · obtain ⟨c, e, q⟩ := q
    simp only [Option.map_eq_some_iff] at e
    obtain ⟨b, e1, rfl⟩ := e
    exact ⟨b, e1, q⟩
  · obtain ⟨c, e, q⟩ := q
    exact ⟨_, by rw [e]; rfl, q⟩
theorem y_ms {m : MI} {o : Rho → AH → Ot AV} {a : Rho → AH → Ot (List AV)} : Yes (msF m o a ρ ah) P ↔ Yes (o ρ ah) fun x ah1 => isStr x = true ∧ Yes (a ρ ah1) fun xs ah2 => ∃ c, miF m ah2 x xs = some c ∧ P c ah2 := by
  unfold msF; simp only [Yes.bind]
  constructor <;> intro h <;> refine h.imp fun x ah q => ?_
  · split at q
    · rename_i z; simp only [Yes.bind, yes_of] at q; exact ⟨z, q⟩
    · exact q.elim
  · rw [if_pos q.1]; simp only [Yes.bind, yes_of]; exact q.2
theorem y_src {P : Sr → AH → Prop} {a : Rho → AH → Ot AV} : Yes (srcF a ρ ah) P ↔ Yes (a ρ ah) fun x ah1 => ∃ c, seqSrc ah1 x = some c ∧ P c ah1 := by
  unfold srcF; simp only [Yes.bind, yes_of]
theorem y_rng1 {P : Sr → AH → Prop} {a : Rho → AH → Ot AV} : Yes (rngF1 a ρ ah) P ↔ Yes (a ρ ah) fun x ah1 => ∃ c, rngSrc1 x = some c ∧ P c ah1 := by
  unfold rngF1; simp only [Yes.bind, yes_of]
theorem y_comp {src : Rho → AH → Ot Sr} {t : TP} {vs : List Nat} {c : Rho → AH → Ot Bool} {e : Rho → AH → Ot AV} : Yes (compF src t vs c e ρ ah) P ↔ Yes (src ρ ah) fun sr ah1 => Yes (compV sr.g t vs c e ρ [] sr.xs ah1) P := by
  unfold compF; simp only [Yes.bind]
theorem y_yes {P : Bool → AH → Prop} : Yes (yesF ρ ah) P ↔ P true ah := Iff.rfl
variable {N : Rho → AH → Prop}
theorem s_exp {a : Rho → AH → Ot AV} : YesS (expF a ρ ah) N P ↔ Yes (a ρ ah) fun _ ah1 => N ρ ah1 := by
  unfold expF; rw [YesS.to]; exact Iff.rfl
theorem s_par2 {i j : Nat} {a : Rho → AH → Ot (List AV)} : YesS (parF2 i j a ρ ah) N P ↔ Yes (a ρ ah) fun xs ah1 => match xs with | [x, y] => N ((ρ.set i (some x)).set j (some y)) ah1 | _ => False := by
  unfold parF2; rw [YesS.to]
  constructor <;> intro h <;> refine h.imp fun xs ah q => ?_
  · split at q
    · exact q
    · exact q.elim
  · split at q
    · exact q
    · exact q.elim
theorem s_sub {o i a : Rho → AH → Ot AV} : YesS (subF' o i a ρ ah) N P ↔ Yes (a ρ ah) fun v ah1 => Yes (o ρ ah1) fun x ah2 => Yes (i ρ ah2) fun y ah3 => ∃ ah4, lstPut ah3 x y v = some ah4 ∧ N ρ ah4 := by
  unfold subF'; simp only [YesS.to]
  constructor <;> intro h <;> refine h.imp fun v ah q => q.imp fun x ah q => q.imp fun y ah q => ?_
  · cases e : lstPut ah x y v with
    | none => rw [e] at q; exact q.elim
    | some d => rw [e] at q; exact ⟨_, rfl, q⟩
  · obtain ⟨d, e, q⟩ := q
    rw [e]; exact q
theorem s_for {t : TP} {src : Rho → AH → Ot Sr} {body : Rho → AH → SR} : YesS (forF t src body ρ ah) N P ↔ Yes (src ρ ah) fun sr ah1 => YesS (forV sr.g t body sr.xs ρ ah1) N P := by
  unfold forF; rw [YesS.to]
theorem ex_some {β : Type} {a : β} {P : β → Prop} : (∃ c, some a = some c ∧ P c) ↔ P a := ⟨fun ⟨c, e, h⟩ => (Option.some.inj e) ▸ h, fun h => ⟨a, rfl, h⟩⟩
theorem ex_ite {β : Type} {a : β} {p : Prop} [Decidable p] {P : β → Prop} : (∃ c, (if p then some a else none) = some c ∧ P c) ↔ p ∧ P a := by
  by_cases h : p
  · rw [if_pos h, ex_some]; exact ⟨fun q => ⟨h, q⟩, fun q => q.2⟩
  · rw [if_neg h]
    constructor
    · rintro ⟨c, e, q⟩; cases e
    · intro q; exact absurd q.1 h
theorem ex_map {β γ : Type} {o : Option β} {f : β → γ} {P : γ → Prop} : (∃ c, o.map f = some c ∧ P c) ↔ ∃ b, o = some b ∧ P (f b) := by
  cases o with
  | none => constructor <;> (rintro ⟨c, e, q⟩; cases e)
  | some b => rw [Option.map_some, ex_some, ex_some]
theorem ex_bind {β γ : Type} {o : Option β} {f : β → Option γ} {P : γ → Prop} : (∃ c, o.bind f = some c ∧ P c) ↔ ∃ b, o = some b ∧ ∃ c, f b = some c ∧ P c := by
  cases o with
  | none => constructor <;> (rintro ⟨c, e, q⟩; cases e)
  | some b => rw [ex_some]; exact Iff.rfl
theorem bin_add : binF .Add = addF := rfl
theorem bin_sub : binF .Sub = subF := rfl
theorem bin_mul : binF .Mult = mulF := rfl
theorem bin_div : binF .FloorDiv = divF := rfl
theorem bin_mod : binF .Mod = modF := rfl
theorem bin_pow : binF .Pow = powF := rfl
theorem add_ii {i j : Int} : addF ah (.int i) (.int j) = some (.int (i + j)) := rfl
theorem sub_ii {i j : Int} : subF ah (.int i) (.int j) = some (.int (i - j)) := rfl
theorem mul_ii {i j : Int} : mulF ah (.int i) (.int j) = if i.natAbs.log2 + j.natAbs.log2 < 1000000 then some (.int (i * j)) else none := rfl
theorem div_ii {i j : Int} : divF ah (.int i) (.int j) = if 0 < j ∧ j.natAbs.log2 < 9000 then some (.int (i / j)) else none := rfl
theorem mod_ii {i j : Int} : modF ah (.int i) (.int j) = if 0 < j then some (.int (i % j)) else none := rfl
theorem pow_ii {i j : Int} : powF ah (.int i) (.int j) = if 0 ≤ j ∧ j ≤ 1000000 ∧ i.natAbs < 2 ^ 64 then some (.int (i ^ j.toNat)) else none := rfl
theorem neg_i {i : Int} : negF ah (.int i) = some (.int (-i)) := rfl
theorem cmp_eq : cmpF .Eq = eqF := rfl
theorem cmp_ne : cmpF .NotEq = neF := rfl
theorem cmp_lt : cmpF .Lt = ltF := rfl
theorem cmp_le : cmpF .LtE = leF := rfl
theorem cmp_gt : cmpF .Gt = gtF := rfl
theorem cmp_ge : cmpF .GtE = geF := rfl
theorem cmp_is : cmpF .Is = isF := rfl
theorem cmp_isn : cmpF .IsNot = isNotF := rfl
theorem cmp_in : cmpF .In = inF := rfl
theorem cmp_nin : cmpF .NotIn = notInF := rfl
theorem lt_ii {i j : Int} : ltF ah (.int i) (.int j) = some (.bl (decide (i < j))) := rfl
theorem le_ii {i j : Int} : leF ah (.int i) (.int j) = some (.bl (decide (i ≤ j))) := rfl
theorem gt_ii {i j : Int} : gtF ah (.int i) (.int j) = some (.bl (decide (j < i))) := rfl
theorem ge_ii {i j : Int} : geF ah (.int i) (.int j) = some (.bl (decide (j ≤ i))) := rfl
theorem eq_ii {i j : Int} : eqF ah (.int i) (.int j) = some (.bl (decide (i = j))) := rfl
theorem ne_ii {i j : Int} : neF ah (.int i) (.int j) = some (.bl (!decide (i = j))) := rfl
theorem tru_b {b : Bool} : truF ah (.bl b) = some b := rfl
theorem tru_i {i : Int} : truF ah (.int i) = some (i != 0) := rfl
theorem as_b {b : Bool} : asB (some (.bl b)) = some b := rfl
theorem ix_ref {n : Nat} {xs : List AV} {k : Int} (h : ah[n]? = some (.lst xs)) : ixF ah (.ref n) (.int k) = atI xs k := by
  show (asL ah (.ref n)).bind (fun xs => atI xs k) = _
  show (match ah[n]? with | some (.lst xs) => some xs | _ => none).bind (fun xs => atI xs k) = _
  rw [h]; rfl
theorem ix_tup {xs : List AV} {k : Int} : ixF ah (.tup xs) (.int k) = atI xs k := rfl
theorem ix_lst {xs : List AV} {k : Int} : ixF ah (.lst xs) (.int k) = atI xs k := rfl
theorem put_ref {n : Nat} {xs : List AV} {k : Int} {v : AV} (h : ah[n]? = some (.lst xs)) : lstPut ah (.ref n) (.int k) v = (ixN xs.length k).map fun j => ah.set n (.lst (xs.set j v)) := by
  show (match ah[n]? with | some (.lst xs) => (ixN xs.length k).map fun j => ah.set n (.lst (xs.set j v)) | _ => none) = _
  rw [h]
theorem ix_set {n : Nat} {xs : List AV} {k : Int} (h : n < ah.length) : ixF (ah.set n (.lst xs)) (.ref n) (.int k) = atI xs k := ix_ref (List.getElem?_set_self h)
theorem put_set {n : Nat} {xs : List AV} {k : Int} {v : AV} (h : n < ah.length) : lstPut (ah.set n (.lst xs)) (.ref n) (.int k) v = (ixN xs.length k).map fun j => (ah.set n (.lst xs)).set n (.lst (xs.set j v)) := put_ref (List.getElem?_set_self h)
theorem int_i {i : Int} : biF .int ah [.int i] = some (.int i) := rfl
theorem abs_i {i : Int} : biF .abs ah [.int i] = some (.int (if i < 0 then -i else i)) := rfl
theorem nu_isascii {β : Type} {a b : β} : (if MI.isascii.nullary = true then a else b) = a := rfl
theorem nu_isprintable {β : Type} {a b : β} : (if MI.isprintable.nullary = true then a else b) = a := rfl
theorem nu_isalpha {β : Type} {a b : β} : (if MI.isalpha.nullary = true then a else b) = a := rfl
theorem nu_islower {β : Type} {a b : β} : (if MI.islower.nullary = true then a else b) = a := rfl
theorem nu_isdigit {β : Type} {a b : β} : (if MI.isdigit.nullary = true then a else b) = a := rfl
theorem nu_join {β : Type} {a b : β} : (if MI.join.nullary = true then a else b) = b := rfl
theorem nu_count {β : Type} {a b : β} : (if MI.count.nullary = true then a else b) = b := rfl
theorem nu_startswith {β : Type} {a b : β} : (if MI.startswith.nullary = true then a else b) = b := rfl
theorem nu_endswith {β : Type} {a b : β} : (if MI.endswith.nullary = true then a else b) = b := rfl
theorem nu_zfill {β : Type} {a b : β} : (if MI.zfill.nullary = true then a else b) = b := rfl
theorem nu_stripC {β : Type} {a b : β} : (if MI.stripC.nullary = true then a else b) = b := rfl
theorem put_nm {i : Nat} {v : AV} : (TP.nm i).put v ah ρ = some (ρ.set i (some v)) := rfl
theorem put_tup {l : List TP} {xs : List AV} : (TP.tp l).put (.tup xs) ah ρ = putL l xs ah ρ := rfl
theorem put_lst {l : List TP} {xs : List AV} : (TP.tp l).put (.lst xs) ah ρ = putL l xs ah ρ := rfl
theorem putl_nil : putL [] [] ah ρ = some ρ := rfl
theorem putl_cons {t : TP} {l : List TP} {x : AV} {xs : List AV} : putL (t :: l) (x :: xs) ah ρ = (t.put x ah ρ).bind fun ρ1 => putL l xs ah ρ1 := rfl
theorem len_l {xs : List AV} : biF .len ah [.lst xs] = some (.int xs.length) := rfl
theorem len_t {xs : List AV} : biF .len ah [.tup xs] = some (.int xs.length) := rfl
theorem len_s {z : Str} : biF .len ah [.str z] = if z.length ≤ sizeLine then some (.int z.length) else none := rfl
theorem log_lt {i : Int} {k : Nat} (hk : k ≠ 0) (h : i.natAbs < 2 ^ k) : i.natAbs.log2 < k := by
  by_cases h0 : i.natAbs = 0
  · rw [h0]; simp; omega
  · exact (Nat.log2_lt h0).mpr h
theorem mulc {i j : Int} (h : i.natAbs < 2 ^ 200) (h' : j.natAbs < 2 ^ 200) : i.natAbs.log2 + j.natAbs.log2 < 1000000 := by
  have a := log_lt (k := 200) (by decide) h
  have b := log_lt (k := 200) (by decide) h'
  omega
theorem divc {j : Int} (h0 : 0 < j) (h : j < 2 ^ 200) : 0 < j ∧ j.natAbs.log2 < 9000 := by
  refine ⟨h0, ?_⟩
  have a := log_lt (i := j) (k := 200) (by decide) (by omega)
  omega
theorem den_cons {C : Ops} {a b : T} : (den C (.cons a b)).x = seqF (den C a).x (den C b).x := rfl
theorem den_if {C : Ops} {a b c : T} : (den C (.sIf c a b)).x = ifS (den C c).t (den C a).x (den C b).x := rfl
theorem ops_call {ds : List Df} {k : Nat} {f : Str} : (ops ds k).call f = cl ds k f := rfl
theorem ops_ar {ds : List Df} {k : Nat} {f : Str} : (ops ds k).ar f = arD ds f := by cases k <;> rfl
end
end Ko

/-! Ko, part U: texts, places, data that can be shown. -/
namespace Ko
open PySem L2
theorem atI_in {α : Type} {xs : List α} {k : Int} (h0 : 0 ≤ k) (h1 : k < xs.length) : ∃ x ∈ xs, atI xs k = some x := by
  have e : ixN xs.length k = some k.toNat := by
    unfold ixN; rw [if_pos h0, if_pos (by omega)]
  have hl : k.toNat < xs.length := by omega
  exact ⟨xs[k.toNat], List.getElem_mem hl, by unfold atI; rw [e]; exact List.getElem?_eq_getElem hl⟩
theorem atI_nat {α : Type} {xs : List α} {k : Nat} (h1 : k < xs.length) : atI xs (k : Int) = some xs[k] := by
  have e : ixN xs.length (k : Int) = some k := by
    unfold ixN; rw [if_pos (by omega), if_pos (by omega)]; rfl
  unfold atI; rw [e]; exact List.getElem?_eq_getElem h1
/-- every sign of z is one of p -/
def Chs (p : Nat → Prop) (z : Str) : Prop := ∀ c ∈ z.cps.toList, p c
theorem chs_one {p : Nat → Prop} {c : Nat} (h : p c) : Chs p ⟨#[c]⟩ := fun d hd => by
  simp at hd; subst hd; exact h
theorem mem_reps {c : Nat} {x : Array Nat} : ∀ (n : Nat) (acc : Array Nat), c ∈ ((List.replicate n x).foldl (· ++ ·) acc).toList → c ∈ acc.toList ∨ c ∈ x.toList
  | 0, acc, h => .inl h
  | n + 1, acc, h => by
    rw [List.replicate_succ, List.foldl_cons] at h
    rcases mem_reps n (acc ++ x) h with q | q
    · simp only [Array.toList_append, List.mem_append] at q; exact q
    · exact .inr q
theorem chs_mul {p : Nat → Prop} {z : Str} {n : Int} (h : Chs p z) : Chs p (Txt.mul z n) := fun c hc => by
  unfold Txt.mul at hc
  split at hc
  · simp [Str.empty] at hc
  · split at hc
    · exact h c hc
    · rcases mem_reps _ _ hc with q | q
      · simp at q
      · exact h c q
theorem len_mul1 {z : Str} {n : Int} (hz : z.length = 1) (h0 : 0 ≤ n) : ((Txt.mul z n).length : Int) = n := by
  have e := PyProof.Rows.len_mul z n
  rw [hz] at e
  have : decide (n < 0) = false := decide_eq_false (by omega)
  rw [this] at e
  simpa using e
/-- texts of one sign each -/
inductive Ones (p : Nat → Prop) : List AV → Prop
  | nil : Ones p []
  | cons {c : Nat} {xs : List AV} : p c → Ones p xs → Ones p (.str ⟨#[c]⟩ :: xs)
theorem Ones.snoc {p : Nat → Prop} : ∀ {xs : List AV} {c : Nat}, Ones p xs → p c → Ones p (xs ++ [.str ⟨#[c]⟩])
  | _, _, .nil, h => .cons h .nil
  | _, _, .cons q r, h => .cons q (r.snoc h)
theorem Ones.strs {p : Nat → Prop} : ∀ {xs : List AV}, Ones p xs → ∃ ys : List Str, asStrs xs = some ys ∧ (ys.map (·.length)).sum = xs.length ∧ ys.length = xs.length ∧ ∀ y ∈ ys, Chs p y
  | _, .nil => ⟨[], rfl, rfl, rfl, fun _ h => absurd h List.not_mem_nil⟩
  | _, .cons (c := c) q r => by
    obtain ⟨ys, e, h1, h2, h3⟩ := r.strs
    refine ⟨⟨#[c]⟩ :: ys, by simp only [asStrs, e, Option.map_some], ?_, by simp [h2], fun y hy => ?_⟩
    · rw [List.map_cons, List.sum_cons, h1, List.length_cons]
      show 1 + _ = _
      omega
    · rcases List.mem_cons.mp hy with rfl | hy
      · exact chs_one q
      · exact h3 y hy
theorem join_ones {p : Nat → Prop} {xs : List AV} {ah : AH} (h : Ones p xs) (hl : xs.length ≤ 1000) : ∃ z, miF .join ah (.str "") [.lst xs] = some (.str z) ∧ Chs p z ∧ z.length = xs.length := by
  obtain ⟨ys, e, h1, h2, h3⟩ := h.strs
  have el : ("" : Str).length = 0 := rfl
  refine ⟨Txt.join "" ys, ?_, fun c hc => ?_, ?_⟩
  · show (some xs).bind (fun xs => (asStrs xs).bind fun ys => if (ys.map (·.length)).sum + ys.length * ("" : Str).length ≤ 16777216 then some (AV.str (Txt.join "" ys)) else none) = _
    rw [Option.bind_some, e, Option.bind_some, if_pos (by rw [h1, el]; omega)]
  · have hc' : c ∈ (Str.join "" ys).cps.toList := by rw [← show Txt.join "" ys = Str.join "" ys from StrLaws.glued_eq_join _ _]; exact hc
    rcases (PyProof.Rows.mem_join "" c ys).mp hc' with ⟨t, ht, q⟩ | ⟨_, q⟩
    · exact h3 t ht c q
    · exact absurd q (by simp [show ("" : Str).cps.toList = [] from rfl])
  · have a := PyProof.Rows.len_join_ge_sum "" ys
    have b : (Txt.join "" ys).length ≤ (ys.map (·.length)).sum + ys.length * ("" : Str).length := by
      rw [show Txt.join "" ys = Str.join "" ys from StrLaws.glued_eq_join _ _]; exact StrLaws.join_length_le "" ys
    rw [el] at b
    omega
/-! data that can be shown -/
theorem all_lt {z : Str} (h : (z.cps.toList.all fun c => decide (c < 1114112)) = true) : (z.cps.toList.all fun c => decide (c < 16 ^ 8)) = true := by
  simp only [List.all_eq_true, decide_eq_true_eq] at h ⊢
  exact fun c hc => Nat.lt_trans (h c hc) (by decide)
def keyOk : Key → Bool
  | .inl i => decide (i.natAbs < 10 ^ 18)
  | .inr z => z.cps.toList.all fun c => decide (c < 1114112)
def keyB : Key → Nat
  | .inl _ => 0
  | .inr z => z.cps.size
mutual
def okA : AV → Bool
  | .non => true
  | .bl _ => true
  | .int i => decide (i.natAbs < 10 ^ 18)
  | .str z => z.cps.toList.all fun c => decide (c < 1114112)
  | .tup xs => okL xs
  | .lst xs => okL xs
  | .dct kvs => okK kvs
  | .ref _ => false
def okL : List AV → Bool
  | [] => true
  | x :: xs => okA x && okL xs
def okK : List (Key × AV) → Bool
  | [] => true
  | (k, x) :: xs => keyOk k && okA x && okK xs
end
mutual
def bkA : AV → Nat
  | .str z => z.cps.size
  | .tup xs => bkL xs
  | .lst xs => bkL xs
  | .dct kvs => bkK kvs
  | _ => 0
def bkL : List AV → Nat
  | [] => 0
  | x :: xs => bkA x + 1 + bkL xs
def bkK : List (Key × AV) → Nat
  | [] => 0
  | (k, x) :: xs => keyB k + bkA x + 2 + bkK xs
end
mutual
def dpA : AV → Nat
  | .tup xs => dpL xs + 1
  | .lst xs => dpL xs + 1
  | .dct kvs => dpK kvs + 1
  | _ => 0
def dpL : List AV → Nat
  | [] => 0
  | x :: xs => max (dpA x) (dpL xs)
def dpK : List (Key × AV) → Nat
  | [] => 0
  | (k, x) :: xs => max (max 0 (dpA x)) (dpK xs)
end
theorem int_short {i : Int} (h : i.natAbs < 10 ^ 18) : i.natAbs.log2 < 1920 ∧ (PyData.shown (.int i)).length ≤ 20 := by
  refine ⟨?_, ?_⟩
  · have := log_lt (i := i) (k := 200) (by decide) (Nat.lt_trans h (by decide))
    omega
  · have a := int_text_length_le10 (a := i) (k := 18) (by decide) h
    have e : (PyData.shown (.int i)).length = (toString i).length := by
      show (Str.ofString (toString i)).length = _
      exact ofString_length _
    rw [e]; omega
theorem key_ok (k : Key) (h : keyOk k = true) : (kdat k).showable = true ∧ (kdat k).leavesShort 20 = true ∧ (kdat k).bulk = keyB k ∧ (kdat k).depth = 0 := by
  cases k with
  | inl i =>
    obtain ⟨a, b⟩ := int_short (of_decide_eq_true h)
    exact ⟨by simp only [kdat, PyData.showable]; exact decide_eq_true a, by simp only [kdat, PyData.leavesShort]; exact decide_eq_true b, by simp only [kdat, PyData.bulk, keyB], by simp only [kdat, PyData.depth]⟩
  | inr z => exact ⟨by simp only [kdat, PyData.showable], by simp only [kdat, PyData.leavesShort]; exact all_lt h, by simp only [kdat, PyData.bulk, keyB], by simp only [kdat, PyData.depth]⟩
mutual
theorem okA_dat : ∀ {a : AV}, okA a = true → ∃ d, dat a = some d ∧ d.showable = true ∧ d.leavesShort 20 = true ∧ d.bulk = bkA a ∧ d.depth = dpA a
  | .non, _ => ⟨.none, rfl, by simp only [PyData.showable], by simp only [PyData.leavesShort], by simp only [PyData.bulk, bkA], by simp only [PyData.depth, dpA]⟩
  | .bl b, _ => ⟨.bool b, rfl, by simp only [PyData.showable], by simp only [PyData.leavesShort], by simp only [PyData.bulk, bkA], by simp only [PyData.depth, dpA]⟩
  | .int i, h => by
    obtain ⟨a, b⟩ := int_short (of_decide_eq_true (by simpa only [okA] using h))
    exact ⟨.int i, rfl, by simp only [PyData.showable]; exact decide_eq_true a, by simp only [PyData.leavesShort]; exact decide_eq_true b, by simp only [PyData.bulk, bkA], by simp only [PyData.depth, dpA]⟩
  | .str z, h => ⟨.str z, rfl, by simp only [PyData.showable], by simp only [PyData.leavesShort]; exact all_lt (by simpa only [okA] using h), by simp only [PyData.bulk, bkA], by simp only [PyData.depth, dpA]⟩
  | .tup xs, h => by
    obtain ⟨ds, e, h1, h2, h3, h4⟩ := okL_dat (xs := xs) (by simpa only [okA] using h)
    exact ⟨.tuple ds, by simp only [dat, e, Option.map_some], by simp only [PyData.showable]; exact h1, by simp only [PyData.leavesShort]; exact h2, by simp only [PyData.bulk, bkA]; exact h3, by simp only [PyData.depth, dpA]; rw [h4]⟩
  | .lst xs, h => by
    obtain ⟨ds, e, h1, h2, h3, h4⟩ := okL_dat (xs := xs) (by simpa only [okA] using h)
    exact ⟨.list ds, by simp only [dat, e, Option.map_some], by simp only [PyData.showable]; exact h1, by simp only [PyData.leavesShort]; exact h2, by simp only [PyData.bulk, bkA]; exact h3, by simp only [PyData.depth, dpA]; rw [h4]⟩
  | .dct xs, h => by
    obtain ⟨ds, e, h1, h2, h3, h4⟩ := okK_dat (xs := xs) (by simpa only [okA] using h)
    exact ⟨.dict ds, by simp only [dat, e, Option.map_some], by simp only [PyData.showable]; exact h1, by simp only [PyData.leavesShort]; exact h2, by simp only [PyData.bulk, bkA]; exact h3, by simp only [PyData.depth, dpA]; rw [h4]⟩
  | .ref _, h => by simp [okA] at h
theorem okL_dat : ∀ {xs : List AV}, okL xs = true → ∃ ds, datL xs = some ds ∧ PyData.showableAll ds = true ∧ PyData.leavesShortAll 20 ds = true ∧ PyData.bulkAll ds = bkL xs ∧ PyData.depthAll ds = dpL xs
  | [], _ => ⟨[], rfl, by simp only [PyData.showableAll], by simp only [PyData.leavesShortAll], by simp only [PyData.bulkAll, bkL], by simp only [PyData.depthAll, dpL]⟩
  | x :: xs, h => by
    simp only [okL, Bool.and_eq_true] at h
    obtain ⟨d, e, h1, h2, h3, h4⟩ := okA_dat h.1
    obtain ⟨ds, e', g1, g2, g3, g4⟩ := okL_dat h.2
    exact ⟨d :: ds, by simp only [datL, e, e', Option.bind_some, Option.map_some], by simp only [PyData.showableAll, h1, g1, Bool.and_self], by simp only [PyData.leavesShortAll, h2, g2, Bool.and_self], by simp only [PyData.bulkAll, bkL, h3, g3], by simp only [PyData.depthAll, dpL, h4, g4]⟩
theorem okK_dat : ∀ {xs : List (Key × AV)}, okK xs = true → ∃ ds, datK xs = some ds ∧ PyData.showableKv ds = true ∧ PyData.leavesShortKv 20 ds = true ∧ PyData.bulkKv ds = bkK xs ∧ PyData.depthKv ds = dpK xs
  | [], _ => ⟨[], rfl, by simp only [PyData.showableKv], by simp only [PyData.leavesShortKv], by simp only [PyData.bulkKv, bkK], by simp only [PyData.depthKv, dpK]⟩
  | (k, x) :: xs, h => by
    simp only [okK, Bool.and_eq_true] at h
    obtain ⟨d, e, h1, h2, h3, h4⟩ := okA_dat h.1.2
    obtain ⟨ds, e', g1, g2, g3, g4⟩ := okK_dat h.2
    obtain ⟨k1, k2, k3, k4⟩ := key_ok k h.1.1
    exact ⟨(kdat k, d) :: ds, by simp only [datK, e, e', Option.bind_some, Option.map_some], by simp only [PyData.showableKv, k1, h1, g1, Bool.and_self], by simp only [PyData.leavesShortKv, k2, h2, g2, Bool.and_self], by simp only [PyData.bulkKv, bkK, k3, h3, g3], by simp only [PyData.depthKv, dpK, k4, h4, g4]⟩
end
/-- it can be shown, whatever the heap -/
theorem repr_ok {a : AV} (h : okA a = true) (hb : bkA a ≤ 10000) (hd : dpA a ≤ 60) : ∃ z, ∀ ah, reprF ah a = some (.str z) := by
  obtain ⟨d, e, h1, h2, h3, h4⟩ := okA_dat h
  refine ⟨d.shown, fun ah => ?_⟩
  have eh : datH ah a = some d := dat_H e
  unfold reprF
  rw [eh, Option.bind_some, if_pos]
  refine ⟨h1, ?_, by omega⟩
  have := PyData.shown_le_bulk 20 (by decide) d h2
  have hs : sizeLine = 16777216 := by decide
  omega
theorem okL_app : ∀ (xs ys : List AV), okL (xs ++ ys) = (okL xs && okL ys)
  | [], ys => by simp [okL]
  | x :: xs, ys => by simp only [List.cons_append, okL, okL_app xs ys, Bool.and_assoc]
theorem bkL_app : ∀ (xs ys : List AV), bkL (xs ++ ys) = bkL xs + bkL ys
  | [], ys => by simp [bkL]
  | x :: xs, ys => by simp only [List.cons_append, bkL, bkL_app xs ys]; omega
theorem dpL_app : ∀ (xs ys : List AV), dpL (xs ++ ys) = max (dpL xs) (dpL ys)
  | [], ys => by simp [dpL]
  | x :: xs, ys => by simp only [List.cons_append, dpL, dpL_app xs ys]; omega
theorem ok_take (xs : List AV) (n : Nat) (h : okL xs = true) : okL (xs.take n) = true ∧ bkL (xs.take n) ≤ bkL xs ∧ dpL (xs.take n) ≤ dpL xs := by
  have e := List.take_append_drop n xs
  have a := okL_app (xs.take n) (xs.drop n)
  have b := bkL_app (xs.take n) (xs.drop n)
  have c := dpL_app (xs.take n) (xs.drop n)
  rw [e] at a b c
  rw [h] at a
  have a' := a.symm
  rw [Bool.and_eq_true] at a'
  exact ⟨a'.1, by omega, by omega⟩
theorem ok_drop (xs : List AV) (n : Nat) (h : okL xs = true) : okL (xs.drop n) = true ∧ bkL (xs.drop n) ≤ bkL xs ∧ dpL (xs.drop n) ≤ dpL xs := by
  have e := List.take_append_drop n xs
  have a := okL_app (xs.take n) (xs.drop n)
  have b := bkL_app (xs.take n) (xs.drop n)
  have c := dpL_app (xs.take n) (xs.drop n)
  rw [e] at a b c
  rw [h] at a
  have a' := a.symm
  rw [Bool.and_eq_true] at a'
  exact ⟨a'.2, by omega, by omega⟩
theorem ok_mem : ∀ {xs : List AV} {x : AV}, x ∈ xs → okL xs = true → okA x = true ∧ bkA x ≤ bkL xs ∧ dpA x ≤ dpL xs
  | y :: ys, x, hm, h => by
    simp only [okL, Bool.and_eq_true] at h
    rcases List.mem_cons.mp hm with rfl | hm
    · exact ⟨h.1, by simp only [bkL]; omega, by simp only [dpL]; omega⟩
    · obtain ⟨a, b, c⟩ := ok_mem hm h.2
      exact ⟨a, by simp only [bkL]; omega, by simp only [dpL]; omega⟩
end Ko

/-! Ko, part V: the laws' draws. -/
namespace Ko
open PySem L2
local macro_rules | `(tactic| walk_at "ko_ev_KoV") => `(tactic| simp only [YesS.fin, semD, den, mkE, mkT, mkX, mkS, YesS.seq, YesS.nil, YesS.ret, YesS.ifS, YesS.asg, y_c, y_v, y_f2, y_f1, y_fA, y_nil, y_cons, y_tup, y_lst, y_lstM, y_dic0, y_tF, y_bF, y_tAnd, y_tOr, y_tNot, y_not, y_and, y_or, y_if, y_call, y_kw, y_chain, y_slc, y_pN, y_pS, y_isi, y_ms, y_src, y_rng1, y_comp, y_yes, s_exp, s_par2, s_sub, s_for, ops_call, ops_ar, Yes.ok, nu_isascii, nu_isprintable, nu_isalpha, nu_islower, nu_isdigit, nu_join, nu_count, nu_startswith, nu_endswith, nu_zfill, nu_stripC])
local macro_rules | `(tactic| walk_at "ko_ar_KoV") => `(tactic| simp only [ex_some, ex_ite, bin_add, bin_sub, bin_mul, bin_div, bin_mod, bin_pow, add_ii, sub_ii, mul_ii, div_ii, mod_ii, pow_ii, neg_i, cmp_eq, cmp_ne, cmp_lt, cmp_le, cmp_gt, cmp_ge, cmp_is, cmp_isn, lt_ii, le_ii, gt_ii, ge_ii, eq_ii, ne_ii, tru_b, tru_i, as_b, int_i, abs_i, put_nm, put_tup, put_lst])
local macro_rules | `(tactic| walk_at "ko_li_KoV") => `(tactic| simp only [List.getElem?_cons_zero, List.getElem?_cons_succ, List.set_cons_succ, List.set_cons_zero, putl_nil, putl_cons, put_nm, put_tup, put_lst, Option.bind_some])

def tTake : T := (.cons (.sIf (.and (.sub (.var 0) (.cI 1)) (.cmp .Gt (.sub (.var 0) (.cI 0)) (.cI 0))) (.cons (.sAsg (.nm 2) (.bin .Mod (.bi .int (.cons (.sub (.var 0) (.cI 0)) .nil)) (.var 1))) (.cons (.sSub (.var 0) (.cI 0) (.bin .FloorDiv (.sub (.var 0) (.cI 0)) (.var 1))) (.cons (.sRet (.var 2)) .nil))) .nil) (.cons (.sSub (.var 0) (.cI 3) (.bin .Add (.sub (.var 0) (.cI 3)) (.cI 1))) (.cons (.sAsg (.nm 3) (.bin .Mod (.bi .int (.cons (.bin .Pow (.bin .Add (.bin .Add (.sub (.var 0) (.cI 2)) (.bin .Mult (.cI 15485863) (.sub (.var 0) (.cI 3)))) (.cI 179424697)) (.cI 5)) .nil)) (.cI 2147483647))) (.cons (.sRet (.bin .Mod (.bin .FloorDiv (.bin .Mod (.bi .int (.cons (.bin .Pow (.bin .Add (.bin .Mult (.var 3) (.cI 48271)) (.bin .Mult (.cI 104723) (.sub (.var 0) (.cI 3)))) (.cI 3)) .nil)) (.cI 2147483587)) (.cI 64)) (.var 1))) .nil))))
def tBox : T := (.cons (.sRet (.lstM (.cons (.bi .abs (.cons (.var 0) .nil)) (.cons (.cmp .GtE (.bi .abs (.cons (.var 0) .nil)) (.bin .Pow (.cI 10) (.cI 18))) (.cons (.bin .Mod (.bi .int (.cons (.bi .abs (.cons (.var 0) .nil)) .nil)) (.cI 2147483629)) (.cons (.cI 0) .nil)))))) .nil)
def tCell : T := (.cons (.sRet (.ife (.cmp .Lt (.var 1) (.bi .len (.cons (.var 0) .nil))) (.sub (.var 0) (.var 1)) (.bin .Add (.bin .Mult (.cI 5003) (.var 1)) (.bin .Mod (.bi .sum (.cons (.slc (.var 0) .nil (.cI 1)) .nil)) (.cI 1000081))))) .nil)
/-- the text's draws are these -/
structure Drw (ds : List Df) : Prop where
  tk : ∃ d, findD ds "_law_take" = some d ∧ d.N = (["box", "many", "digit", "mixed"] : List Str) ∧ d.t = tTake
  bx : ∃ d, findD ds "_law_box" = some d ∧ d.N = (["great"] : List Str) ∧ d.t = tBox
  ce : ∃ d, findD ds "_law_cell" = some d ∧ d.N = (["script", "k"] : List Str) ∧ d.t = tCell
  arity : arD ds "_law_take" = 2
/-- the box at n: at most c mixed draws so far -/
def Box (F ah : AH) (n : Nat) (c : Int) : Prop := ∃ a b x d, ah[n]? = some (.lst [.int a, .bl b, .int x, .int d]) ∧ 0 ≤ a ∧ 0 ≤ x ∧ x < 2147483629 ∧ 0 ≤ d ∧ d ≤ c ∧ ∀ (m : Nat) (o : AO), m ≠ n → F[m]? = some o → ah[m]? = some o
theorem at4 {a b c d : AV} : atI [a, b, c, d] 0 = some a ∧ atI [a, b, c, d] 1 = some b ∧ atI [a, b, c, d] 2 = some c ∧ atI [a, b, c, d] 3 = some d := ⟨rfl, rfl, rfl, rfl⟩
theorem st_take {n : Nat} {m : Int} : startA ["box", "many", "digit", "mixed"] [.ref n, .int m] = [some (.ref n), some (.int m), none, none] := rfl
theorem ix3 : ixN 4 3 = some 3 ∧ ixN 4 0 = some 0 := ⟨rfl, rfl⟩
theorem take_ok {ds : List Df} (D : Drw ds) {k n : Nat} {F ah : AH} {c many : Int} (h : Box F ah n c) (hc : c ≤ 100000) (h0 : 1 ≤ many) (hm : many ≤ 1000000000) : Yes (cl ds (k + 1) "_law_take" [.ref n, .int many] ah) fun v ah' => ∃ m, v = .int m ∧ 0 ≤ m ∧ m < many ∧ Box F ah' n (c + 1) := by
  obtain ⟨dt, ft, hN, ht⟩ := D.tk
  rw [cl_eq ft]
  obtain ⟨a, b, x, d, h1, h2, h3, h4, h5, h6, hF⟩ := h
  have hlt : n < ah.length := (List.getElem?_eq_some_iff.mp h1).1
  simp only [semD, hN, ht]
  rw [YesS.fin, show startA ["box", "many", "digit", "mixed"] [.ref n, .int many] = [some (.ref n), some (.int many), none, none] from rfl]
  unfold tTake
  rw [den_cons, YesS.seq, den_if, YesS.ifS]
  refine Yes.imp (P := fun b' ah' => ah' = ah ∧ (b' = true → 0 < a)) ?_ fun b' ah' ⟨e, hb⟩ => ?_
  · walk_at "ko_ev_KoV"
    simp only [List.getElem?_cons_zero, ix_ref h1, at4, ex_some, tru_b, cmp_gt, gt_ii, as_b]
    cases b <;> simp
  subst e
  cases b' with
  | true =>
    have ha := hb rfl
    rw [if_pos rfl]
    walk_at "ko_ev_KoV"
    walk_at "ko_ar_KoV"
    simp only [List.getElem?_cons_zero, List.getElem?_cons_succ, ix_ref h1, put_ref h1, at4, ex_map, List.length_cons, List.length_nil, Nat.reduceAdd, ix3, ex_some, List.set_cons_succ, List.set_cons_zero, ix_set hlt]
    walk_at "ko_ar_KoV"
    have hpos : (0 : Int) < many := by omega
    refine ⟨hpos, divc hpos (by omega), _, rfl, Int.emod_nonneg _ (by omega), Int.emod_lt_of_pos _ hpos, a / many, b, x, d, List.getElem?_set_self hlt, Int.ediv_nonneg h2 (by omega), h3, h4, h5, by omega, fun m o hm e => by rw [List.getElem?_set_ne (Ne.symm hm)]; exact hF m o hm e⟩
  | false =>
    rw [if_neg Bool.false_ne_true]
    walk_at "ko_ev_KoV"
    walk_at "ko_ar_KoV"
    simp only [List.getElem?_cons_zero, List.getElem?_cons_succ, ix_ref h1, put_ref h1, at4, ex_map, List.length_cons, List.length_nil, Nat.reduceAdd, ix3, ex_some, List.set_cons_succ, List.set_cons_zero, ix_set hlt]
    walk_at "ko_ar_KoV"
    have m0 : 0 ≤ (x + 15485863 * (d + 1) + 179424697) ^ Int.toNat 5 % 2147483647 := Int.emod_nonneg _ (by decide)
    have m1 : (x + 15485863 * (d + 1) + 179424697) ^ Int.toNat 5 % 2147483647 < 2147483647 := Int.emod_lt_of_pos _ (by decide)
    generalize (x + 15485863 * (d + 1) + 179424697) ^ Int.toNat 5 % 2147483647 = M at m0 m1 ⊢
    have hpos : (0 : Int) < many := by omega
    refine ⟨mulc (by decide) (by omega), ⟨by decide, by decide, by omega⟩, by decide, mulc (by omega) (by decide), mulc (by decide) (by omega), ⟨by decide, by decide, by omega⟩, by decide, divc (by decide) (by decide), hpos, _, rfl, Int.emod_nonneg _ (by omega), Int.emod_lt_of_pos _ hpos, a, b, x, d + 1, List.getElem?_set_self hlt, h2, h3, h4, by omega, by omega, fun m o hm e => by rw [List.getElem?_set_ne (Ne.symm hm)]; exact hF m o hm e⟩
theorem Box.mono {F ah : AH} {n : Nat} {c d : Int} (h : Box F ah n c) (q : c ≤ d) : Box F ah n d := by
  obtain ⟨a, b, x, e, h1, h2, h3, h4, h5, h6, hF⟩ := h
  exact ⟨a, b, x, e, h1, h2, h3, h4, h5, by omega, hF⟩
theorem box_ok {ds : List Df} (D : Drw ds) {k : Nat} {ah : AH} {g : Int} : Yes (cl ds (k + 1) "_law_box" [.int g] ah) fun v ah' => v = .ref ah.length ∧ Box ah ah' ah.length 0 := by
  obtain ⟨dt, ft, hN, ht⟩ := D.bx
  rw [cl_eq ft]
  simp only [semD, hN, ht, tBox]
  walk_at "ko_ev_KoV"
  simp only [show startA (["great"] : List Str) [.int g] = [some (.int g)] from rfl, List.getElem?_cons_zero]
  walk_at "ko_ar_KoV"
  refine ⟨⟨by decide, by decide, by decide⟩, by decide, by show 4 ≤ sizeLine; decide, trivial, _, _, _, 0, List.getElem?_concat_length, ?_, Int.emod_nonneg _ (by decide), Int.emod_lt_of_pos _ (by decide), by decide, by decide, fun m o hm e => by rw [List.getElem?_append_left (List.getElem?_eq_some_iff.mp e).1]; exact e⟩
  split <;> omega
theorem asInts_map : ∀ ns : List Int, asInts (ns.map .int) = some ns
  | [] => rfl
  | n :: r => by simp only [List.map_cons, asInts, asInts_map r, Option.map_some]
theorem cut_map (ns : List Int) (lo hi : Option Int) : ∃ ms : List Int, cutA (ns.map .int) lo hi = ms.map .int := by
  unfold cutA
  rw [List.length_map, ← List.map_drop, ← List.map_take]
  exact ⟨_, rfl⟩
theorem cell_ok {ds : List Df} (D : Drw ds) {k : Nat} {F ah : AH} {ns : List Int} {i : Nat} (hi : i < 100) : Yes (cl ds (k + 1) "_law_cell" [.lst (ns.map .int), .int i] ah) fun v ah' => ah' = ah ∧ ∃ g, v = .int g := by
  obtain ⟨dt, ft, hN, ht⟩ := D.ce
  rw [cl_eq ft]
  simp only [semD, hN, ht, tCell]
  walk_at "ko_ev_KoV"
  simp only [show startA ["script", "k"] [.lst (ns.map .int), .int i] = [some (.lst (ns.map .int)), some (.int i)] from rfl, List.getElem?_cons_zero, List.getElem?_cons_succ]
  walk_at "ko_ar_KoV"
  have hl : biF BI.len ah [.lst (ns.map .int)] = some (.int ns.length) := by rw [len_l, List.length_map]
  rw [hl]
  walk_at "ko_ar_KoV"
  split
  · rename_i h
    obtain ⟨x, hx, e⟩ := atI_in (xs := ns.map AV.int) (k := (i : Int)) (by omega) (by rw [List.length_map]; have := of_decide_eq_true h; omega)
    obtain ⟨g, _, rfl⟩ := List.mem_map.mp hx
    exact ⟨_, (ix_lst (ah := ah)).trans e, trivial, g, rfl⟩
  · obtain ⟨ms, e⟩ := cut_map ns none (some 1)
    refine ⟨mulc (by decide) (by omega), 1, rfl, .lst (ms.map .int), ?_, .int ms.sum, ?_, ?_⟩
    · show (some (ns.map AV.int)).map (fun xs => AV.lst (cutA xs none (some 1))) = _
      rw [Option.map_some, e]
    · show (some (ms.map AV.int)).bind (fun xs => (asInts xs).map fun ns => AV.int ns.sum) = _
      rw [Option.bind_some, asInts_map, Option.map_some]
    · walk_at "ko_ar_KoV"
      exact ⟨by decide, trivial, _, rfl⟩
/-- [letters[_law_take(box, M)] for k in ..] -/
theorem comp_draw {ds : List Df} (D : Drw ds) {k n i j : Nat} {M : Int} {ρ : Rho} {letters : Str} {p : Nat → Prop} (hl : (letters.length : Int) = M) (hp : Chs p letters) (h0 : ρ[0]? = some (some (.ref n))) (hi : ρ[i]? = some (some (.str letters))) (hj : j ≠ 0) (hji : j ≠ i) (hM : 1 ≤ M) (hM2 : M ≤ 1000000) {xs : List AV} (hx : xs.length ≤ 1000) {F ah : AH} {c : Int} (hb : Box F ah n c) (hc : c ≤ 90000) :
    Yes (compV always (.nm j) [j] yesF (f2 ixF (vF i) (callF (cl ds (k + 1) "_law_take") (arD ds "_law_take") (aCons (vF 0) (aCons (cF (.int M)) aNil)))) ρ [] xs ah) fun v ah' => ∃ ys, v = .lst ys ∧ Ones p ys ∧ ys.length = xs.length ∧ Box F ah' n (c + xs.length) := by
  refine compV_ok (fun r acc ah => Ones p acc ∧ acc.length + r.length = xs.length ∧ Box F ah n (c + acc.length)) xs [] ah ⟨.nil, by simp, by simpa using hb⟩ (fun acc ah ⟨h1, h2, h3⟩ => ⟨acc, rfl, h1, by simpa using h2, by rw [← h2]; simpa using h3⟩) fun x r acc ah ⟨h1, h2, h3⟩ => ?_
  have g0 : ((wipeA ρ [j]).set j (some x))[0]? = some (some (.ref n)) := by
    show ((ρ.set j none).set j (some x))[0]? = _
    rw [List.getElem?_set_ne hj, List.getElem?_set_ne hj]; exact h0
  have gi : ((wipeA ρ [j]).set j (some x))[i]? = some (some (.str letters)) := by
    show ((ρ.set j none).set j (some x))[i]? = _
    rw [List.getElem?_set_ne hji, List.getElem?_set_ne hji]; exact hi
  refine ⟨_, rfl, ?_⟩
  rw [y_yes, if_pos rfl, y_f2, y_v, gi]
  dsimp only
  rw [y_call, y_cons, y_v, g0]
  dsimp only
  rw [y_cons, y_c, y_nil]
  rw [List.length_cons] at h2
  refine ⟨D.arity.symm, (take_ok D h3 (by omega) hM (by omega)).imp fun y ah2 ⟨m, e, m0, m1, h4⟩ => ?_⟩
  subst e
  obtain ⟨ch, hm, e⟩ := atI_in (xs := letters.cps.toList) m0 (by rw [← hl] at m1; simpa [Str.length] using m1)
  have hs : sizeLine = 16777216 := by decide
  refine ⟨.str ⟨#[ch]⟩, ?_, by omega, h1.snoc (hp ch hm), by rw [List.length_append, List.length_singleton]; omega, h4.mono (by rw [List.length_append, List.length_singleton]; omega)⟩
  show (if letters.length ≤ sizeLine then (atI letters.cps.toList m).map fun c => AV.str ⟨#[c]⟩ else none) = _
  rw [if_pos (by omega), e]; rfl
theorem az_ok : Chs (fun c => 97 ≤ c ∧ c ≤ 122) "abcdefghijklmnopqrstuvwxyz" := by
  have h : ("abcdefghijklmnopqrstuvwxyz" : Str).cps.toList.all (fun c => decide (97 ≤ c ∧ c ≤ 122)) = true := by decide +kernel
  exact fun c hc => of_decide_eq_true (List.all_eq_true.mp h c hc)
theorem az_len : ("abcdefghijklmnopqrstuvwxyz" : Str).length = 26 := by decide +kernel
theorem ix_str {F ah : AH} {z : Str} {m : Int} (h0 : 0 ≤ m) (h1 : m < z.length) (hz : z.length ≤ 1000) : ∃ ch ∈ z.cps.toList, ixF ah (.str z) (.int m) = some (.str ⟨#[ch]⟩) := by
  obtain ⟨ch, hm, e⟩ := atI_in (xs := z.cps.toList) h0 (by simpa [Str.length] using h1)
  have hs : sizeLine = 16777216 := by decide
  refine ⟨ch, hm, ?_⟩
  show (if z.length ≤ sizeLine then (atI z.cps.toList m).map fun c => AV.str ⟨#[c]⟩ else none) = _
  rw [if_pos (by omega), e]; rfl
theorem Box.here {F ah : AH} {n : Nat} {c : Int} (h : Box F ah n c) : Box ah ah n c := by
  obtain ⟨a, b, x, e, h1, h2, h3, h4, h5, h6, hF⟩ := h
  exact ⟨a, b, x, e, h1, h2, h3, h4, h5, h6, fun m o _ q => q⟩
theorem Box.app {F ah tl : AH} {n : Nat} {c : Int} (h : Box F ah n c) : Box (ah ++ tl) (ah ++ tl) n c := by
  obtain ⟨a, b, x, e, h1, h2, h3, h4, h5, h6, hF⟩ := h
  exact ⟨a, b, x, e, by rw [List.getElem?_append_left (List.getElem?_eq_some_iff.mp h1).1]; exact h1, h2, h3, h4, h5, h6, fun m o _ q => q⟩
theorem Box.keeps {F ah : AH} {n m : Nat} {c : Int} {o : AO} (h : Box F ah n c) (hm : m ≠ n) (e : F[m]? = some o) : ah[m]? = some o := by
  obtain ⟨_, _, _, _, _, _, _, _, _, _, hF⟩ := h
  exact hF m o hm e
/-- another object is written -/
theorem Box.put {F ah : AH} {n m : Nat} {c : Int} {o : AO} (h : Box F ah n c) (hm : m ≠ n) : Box (ah.set m o) (ah.set m o) n c := by
  obtain ⟨a, b, x, e, h1, h2, h3, h4, h5, h6, hF⟩ := h
  exact ⟨a, b, x, e, by rw [List.getElem?_set_ne hm]; exact h1, h2, h3, h4, h5, h6, fun m o _ q => q⟩
theorem Box.lt {F ah : AH} {n : Nat} {c : Int} (h : Box F ah n c) : n < ah.length := by
  obtain ⟨a, b, x, e, h1, _⟩ := h
  exact (List.getElem?_eq_some_iff.mp h1).1
theorem forV_okg {g : AH → Bool} {t : TP} {body : Rho → AH → SR} {R : AV → AH → Prop} {N : Rho → AH → Prop} (I : List AV → Rho → AH → Prop) (hg : ∀ r ρ ah, I r ρ ah → g ah = true) : ∀ (xs : List AV) (ρ : Rho) (ah : AH), I xs ρ ah → (∀ ρ ah, I [] ρ ah → N ρ ah) →
    (∀ x xs ρ ah, I (x :: xs) ρ ah → ∃ ρ1, t.put x ah ρ = some ρ1 ∧ match body ρ1 ah with | .nx ρ ah => I xs ρ ah | .ct ρ ah => I xs ρ ah | .bk ρ ah => N ρ ah | .rt v ah => R v ah | _ => False) → YesS (forV g t body xs ρ ah) N R
  | [], ρ, ah, h, hn, _ => by
    unfold forV
    rw [if_pos (hg _ _ _ h)]
    exact hn ρ ah h
  | x :: xs, ρ, ah, h, hn, hs => by
    obtain ⟨ρ1, e, q⟩ := hs x xs ρ ah h
    unfold forV
    rw [if_pos (hg _ _ _ h), e]
    dsimp only
    cases eb : body ρ1 ah with
    | nx ρ2 ah2 => rw [eb] at q; exact forV_okg I hg xs ρ2 ah2 q hn hs
    | ct ρ2 ah2 => rw [eb] at q; exact forV_okg I hg xs ρ2 ah2 q hn hs
    | bk ρ2 ah2 => rw [eb] at q; exact q
    | rt v ah2 => rw [eb] at q; exact q
    | ex x ρ2 ah2 => rw [eb] at q; exact q
    | st => rw [eb] at q; exact q
theorem forV_okg' {g : AH → Bool} {t : TP} {body : Rho → AH → SR} {R : AV → AH → Prop} {N : Rho → AH → Prop} (I : List AV → Rho → AH → Prop) (hg : ∀ r ρ ah, I r ρ ah → g ah = true) (xs : List AV) (ρ : Rho) (ah : AH) (h : I xs ρ ah) (hn : ∀ ρ ah, I [] ρ ah → N ρ ah)
    (hs : ∀ x xs ρ ah, I (x :: xs) ρ ah → ∃ ρ1, t.put x ah ρ = some ρ1 ∧ YesS (body ρ1 ah) (fun ρ ah => I xs ρ ah) R) : YesS (forV g t body xs ρ ah) N R :=
  forV_okg I hg xs ρ ah h hn fun x xs ρ ah h => by
    obtain ⟨ρ1, e, q⟩ := hs x xs ρ ah h
    refine ⟨ρ1, e, ?_⟩
    cases eb : body ρ1 ah with
    | nx ρ2 ah2 => rw [eb] at q; exact q
    | rt v ah2 => rw [eb] at q; exact q
    | ct ρ2 ah2 => rw [eb] at q; exact q.elim
    | bk ρ2 ah2 => rw [eb] at q; exact q.elim
    | ex x ρ2 ah2 => rw [eb] at q; exact q.elim
    | st => rw [eb] at q; exact q.elim
theorem compV_okg {g : AH → Bool} {t : TP} {vs : List Nat} {c : Rho → AH → Ot Bool} {e : Rho → AH → Ot AV} {ρ : Rho} {P : AV → AH → Prop} (I : List AV → List AV → AH → Prop) (hg : ∀ r acc ah, I r acc ah → g ah = true) : ∀ (xs acc : List AV) (ah : AH), I xs acc ah → (∀ acc ah, I [] acc ah → P (.lst acc) ah) →
    (∀ x xs acc ah, I (x :: xs) acc ah → ∃ ρ1, t.put x ah (wipeA ρ vs) = some ρ1 ∧ Yes (c ρ1 ah) fun b ah1 => if b = true then Yes (e ρ1 ah1) fun y ah2 => acc.length < sizeLine ∧ I xs (acc ++ [y]) ah2 else I xs acc ah1) → Yes (compV g t vs c e ρ acc xs ah) P
  | [], acc, ah, h, hn, _ => by
    unfold compV
    rw [if_pos (hg _ _ _ h)]
    exact hn acc ah h
  | x :: xs, acc, ah, h, hn, hs => by
    obtain ⟨ρ1, e1, q⟩ := hs x xs acc ah h
    unfold compV
    rw [if_pos (hg _ _ _ h), e1]
    obtain ⟨b, ah1, e2, q⟩ := q.eq
    show Yes (((c ρ1 ah).calm).bind _) P
    rw [e2]
    show Yes (if b = true then _ else _) P
    cases b with
    | false => rw [if_neg Bool.false_ne_true]; rw [if_neg Bool.false_ne_true] at q; exact compV_okg I hg xs acc ah1 q hn hs
    | true =>
      rw [if_pos rfl]; rw [if_pos rfl] at q
      obtain ⟨y, ah2, e3, q1, q2⟩ := q.eq
      rw [e3]
      show Yes (if acc.length < sizeLine then _ else _) P
      rw [if_pos q1]
      exact compV_okg I hg xs (acc ++ [y]) ah2 q2 hn hs
/-- a comprehension that changes nothing -/
theorem comp_geng {α : Type} {gd : AH → Bool} {g f : α → AV} {p : α → Bool} {ρ : Rho} {j : Nat} {cnd : Rho → AH → Ot Bool} {e : Rho → AH → Ot AV} {l : List α} {ah : AH} (hgd : gd ah = true) (hl : l.length ≤ 100000)
    (hc : ∀ x ∈ l, Yes (cnd ((wipeA ρ [j]).set j (some (g x))) ah) fun b ah1 => b = p x ∧ ah1 = ah) (he : ∀ x ∈ l, p x = true → Yes (e ((wipeA ρ [j]).set j (some (g x))) ah) fun v ah1 => v = f x ∧ ah1 = ah) :
    Yes (compV gd (.nm j) [j] cnd e ρ [] (l.map g) ah) fun v ah' => v = .lst ((l.filter p).map f) ∧ ah' = ah := by
  have hs : sizeLine = 16777216 := by decide
  refine compV_okg (fun r acc ah' => ah' = ah ∧ ∃ l1 l2, l = l1 ++ l2 ∧ r = l2.map g ∧ acc = (l1.filter p).map f) (fun r acc ah' h => h.1 ▸ hgd) _ [] ah ⟨rfl, [], l, rfl, rfl, rfl⟩ (fun acc ah' ⟨e0, l1, l2, e1, e2, e3⟩ => ?_) fun x r acc ah' ⟨e0, l1, l2, e1, e2, e3⟩ => ?_
  · have : l2 = [] := by simpa using e2.symm
    subst this
    rw [List.append_nil] at e1
    subst e1
    exact ⟨by rw [e3], e0⟩
  · match l2, e2 with
    | c :: l2, e2 =>
      rw [List.map_cons, List.cons.injEq] at e2
      obtain ⟨rfl, rfl⟩ := e2
      subst e0
      have hm : c ∈ l := by rw [e1]; simp
      refine ⟨_, rfl, (hc c hm).imp fun b ah2 ⟨e4, e5⟩ => ?_⟩
      subst e4 e5
      have e6 : l = (l1 ++ [c]) ++ l2 := by rw [e1]; simp
      cases hp : p c with
      | true =>
        rw [if_pos rfl]
        refine (he c hm hp).imp fun v ah3 ⟨e7, e8⟩ => ?_
        subst e7 e8
        refine ⟨?_, rfl, l1 ++ [c], l2, e6, rfl, ?_⟩
        · rw [e3, List.length_map]
          have := List.length_filter_le p l1
          have : l.length = l1.length + (l2.length + 1) := by rw [e1]; simp
          omega
        · rw [e3, List.filter_append, List.map_append]; simp [hp]
      | false =>
        rw [if_neg Bool.false_ne_true]
        refine ⟨rfl, l1 ++ [c], l2, e6, rfl, ?_⟩
        rw [e3, List.filter_append, List.map_append]; simp [hp]
theorem comp_mapg {α : Type} {gd : AH → Bool} {g f : α → AV} {ρ : Rho} {j : Nat} {e : Rho → AH → Ot AV} {l : List α} {ah : AH} (hgd : gd ah = true) (hl : l.length ≤ 100000)
    (he : ∀ x ∈ l, Yes (e ((wipeA ρ [j]).set j (some (g x))) ah) fun v ah1 => v = f x ∧ ah1 = ah) :
    Yes (compV gd (.nm j) [j] yesF e ρ [] (l.map g) ah) fun v ah' => v = .lst (l.map f) ∧ ah' = ah := by
  have := comp_geng (p := fun _ => true) (cnd := yesF) (g := g) (f := f) (ρ := ρ) (j := j) (e := e) hgd hl (fun x _ => ⟨rfl, rfl⟩) (fun x hx _ => he x hx)
  have hf : l.filter (fun _ => true) = l := by simp
  rw [hf] at this
  exact this
/-- a comprehension that changes nothing -/
theorem comp_gen {α : Type} {g f : α → AV} {p : α → Bool} {ρ : Rho} {j : Nat} {cnd : Rho → AH → Ot Bool} {e : Rho → AH → Ot AV} {l : List α} {ah : AH} (hl : l.length ≤ 100000)
    (hc : ∀ x ∈ l, Yes (cnd ((wipeA ρ [j]).set j (some (g x))) ah) fun b ah1 => b = p x ∧ ah1 = ah) (he : ∀ x ∈ l, p x = true → Yes (e ((wipeA ρ [j]).set j (some (g x))) ah) fun v ah1 => v = f x ∧ ah1 = ah) :
    Yes (compV always (.nm j) [j] cnd e ρ [] (l.map g) ah) fun v ah' => v = .lst ((l.filter p).map f) ∧ ah' = ah := by
  have hs : sizeLine = 16777216 := by decide
  refine compV_ok (fun r acc ah' => ah' = ah ∧ ∃ l1 l2, l = l1 ++ l2 ∧ r = l2.map g ∧ acc = (l1.filter p).map f) _ [] ah ⟨rfl, [], l, rfl, rfl, rfl⟩ (fun acc ah' ⟨e0, l1, l2, e1, e2, e3⟩ => ?_) fun x r acc ah' ⟨e0, l1, l2, e1, e2, e3⟩ => ?_
  · have : l2 = [] := by simpa using e2.symm
    subst this
    rw [List.append_nil] at e1
    subst e1
    exact ⟨by rw [e3], e0⟩
  · match l2, e2 with
    | c :: l2, e2 =>
      rw [List.map_cons, List.cons.injEq] at e2
      obtain ⟨rfl, rfl⟩ := e2
      subst e0
      have hm : c ∈ l := by rw [e1]; simp
      refine ⟨_, rfl, (hc c hm).imp fun b ah2 ⟨e4, e5⟩ => ?_⟩
      subst e4 e5
      have e6 : l = (l1 ++ [c]) ++ l2 := by rw [e1]; simp
      cases hp : p c with
      | true =>
        rw [if_pos rfl]
        refine (he c hm hp).imp fun v ah3 ⟨e7, e8⟩ => ?_
        subst e7 e8
        refine ⟨?_, rfl, l1 ++ [c], l2, e6, rfl, ?_⟩
        · rw [e3, List.length_map]
          have := List.length_filter_le p l1
          have : l.length = l1.length + (l2.length + 1) := by rw [e1]; simp
          omega
        · rw [e3, List.filter_append, List.map_append]; simp [hp]
      | false =>
        rw [if_neg Bool.false_ne_true]
        refine ⟨rfl, l1 ++ [c], l2, e6, rfl, ?_⟩
        rw [e3, List.filter_append, List.map_append]; simp [hp]
theorem comp_map {α : Type} {g f : α → AV} {ρ : Rho} {j : Nat} {e : Rho → AH → Ot AV} {l : List α} {ah : AH} (hl : l.length ≤ 100000)
    (he : ∀ x ∈ l, Yes (e ((wipeA ρ [j]).set j (some (g x))) ah) fun v ah1 => v = f x ∧ ah1 = ah) :
    Yes (compV always (.nm j) [j] yesF e ρ [] (l.map g) ah) fun v ah' => v = .lst (l.map f) ∧ ah' = ah := by
  have := comp_gen (p := fun _ => true) (cnd := yesF) (g := g) (f := f) (ρ := ρ) (j := j) (e := e) hl (fun x _ => ⟨rfl, rfl⟩) (fun x hx _ => he x hx)
  have hf : l.filter (fun _ => true) = l := by simp
  rw [hf] at this
  exact this
def sg (c : Nat) : AV := .str ⟨#[c]⟩
theorem src_s {ah : AH} {z : Str} : seqSrc ah (.str z) = some ⟨z.cps.toList.map sg, always⟩ := rfl
theorem src_l {ah : AH} {xs : List AV} : seqSrc ah (.lst xs) = some ⟨xs, always⟩ := rfl
theorem rng_src {m : Int} (h0 : 0 ≤ m) (h1 : m ≤ 100000000) : rngSrc1 (.int m) = some ⟨rngL 0 m.toNat, always⟩ := by
  show (if -(2 ^ 62) ≤ m ∧ m < 2 ^ 62 then some (Sr.mk (rngL 0 m.toNat) always) else none) = _
  rw [if_pos (by omega)]
theorem rng_mem {n : Nat} {x : AV} (h : x ∈ rngL 0 n) : ∃ i : Nat, x = .int i ∧ i < n := by
  unfold rngL at h
  obtain ⟨i, hi, rfl⟩ := List.mem_map.mp h
  exact ⟨i, by simp, List.mem_range.mp hi⟩
theorem mul_s {ah : AH} {x : Str} {j : Int} : mulF ah (.str x) (.int j) = if 0 ≤ j ∧ x.length * j.toNat ≤ sizeLine ∧ j < 2 ^ 40 then some (.str (Txt.mul x j)) else none := rfl
theorem add_ll {ah : AH} {xs ys : List AV} : addF ah (.lst xs) (.lst ys) = if xs.length + ys.length ≤ sizeLine then some (.lst (xs ++ ys)) else none := rfl
theorem add_tt {ah : AH} {xs ys : List AV} : addF ah (.tup xs) (.tup ys) = if xs.length + ys.length ≤ sizeLine then some (.tup (xs ++ ys)) else none := rfl
theorem add_ss {ah : AH} {x y : Str} : addF ah (.str x) (.str y) = if x.length + y.length ≤ sizeLine then some (.str (x ++ y)) else none := rfl
theorem wh_ok {c : Rho → AH → Ot Bool} {body : Rho → AH → SR} {N : Rho → AH → Prop} {R : AV → AH → Prop} {n : Nat} {ρ : Rho} {ah : AH} (h : Yes (c ρ ah) fun b ah1 => if b = true then YesS (body ρ ah1) (fun ρ2 ah2 => YesS (whV c body n ρ2 ah2) N R) R else N ρ ah1) : YesS (whV c body (n + 1) ρ ah) N R := by
  unfold whV
  rw [YesS.to]
  refine h.imp fun b ah1 q => ?_
  cases b with
  | false => rw [if_neg Bool.false_ne_true] at q ⊢; exact q
  | true =>
    rw [if_pos rfl] at q ⊢
    cases e : body ρ ah1 with
    | nx ρ2 ah2 => rw [e] at q; exact q
    | rt v ah2 => rw [e] at q; exact q
    | ct ρ2 ah2 => rw [e] at q; exact q.elim
    | bk ρ2 ah2 => rw [e] at q; exact q.elim
    | ex x ρ2 ah2 => rw [e] at q; exact q.elim
    | st => rw [e] at q; exact q.elim
end Ko

/-! Ko, part Yx: plain words for errors: which error a call ends with. -/
namespace Ko
open PySem L2
section
variable {ρ : Rho} {ah ah1 ah2 : AH}
theorem sx_if {c : Rho → AH → Ot Bool} {f g rest : Rho → AH → SR} {x : EX} {ρ1 : Rho} (hc : Yes (c ρ ah) fun b ah' => b = true ∧ ah' = ah1) (hf : f ρ ah1 = .ex x ρ1 ah2) : seqF (ifS c f g) rest ρ ah = .ex x ρ1 ah2 := by
  obtain ⟨b, ah', e, rfl, rfl⟩ := hc.eq
  unfold seqF ifS
  rw [e]
  show (match (if true = true then f ρ ah' else g ρ ah') with | .nx ρ1 ah1 => rest ρ1 ah1 | r => r) = _
  rw [if_pos rfl, hf]
theorem sx_skip {c : Rho → AH → Ot Bool} {f rest : Rho → AH → SR} (hc : Yes (c ρ ah) fun b ah' => b = false ∧ ah' = ah1) : seqF (ifS c f nilF) rest ρ ah = rest ρ ah1 := by
  obtain ⟨b, ah', e, rfl, rfl⟩ := hc.eq
  unfold seqF ifS
  rw [e]
  rfl
theorem sx_raise {c : Str} {fl : List Str} {a : Rho → AH → Ot (List AV)} {rest : Rho → AH → SR} {xs : List AV} {fs : List (Str × AV)} (ha : a ρ ah = .ok xs ah1) (hf : xFs fl xs = some fs) : seqF (raiseF c fl a) rest ρ ah = .ex ⟨c, fs⟩ ρ ah1 := by
  unfold seqF raiseF
  rw [ha]
  show (match (match xFs fl xs with | some fs => SR.ex ⟨c, fs⟩ ρ ah1 | none => .st) with | .nx ρ1 ah1 => rest ρ1 ah1 | r => r) = _
  rw [hf]
theorem sx_exp {a : Rho → AH → Ot AV} {rest : Rho → AH → SR} {x : EX} (ha : a ρ ah = .ex x ah1) : seqF (expF a) rest ρ ah = .ex x ρ ah1 := by
  unfold seqF expF
  rw [ha]
  rfl
theorem sx_expOk {a : Rho → AH → Ot AV} {rest : Rho → AH → SR} (ha : Yes (a ρ ah) fun _ ah' => ah' = ah1) : seqF (expF a) rest ρ ah = rest ρ ah1 := by
  obtain ⟨v, ah', e, rfl⟩ := ha.eq
  unfold seqF expF
  rw [e]
  rfl
theorem sx_for {t : TP} {src : Rho → AH → Ot Sr} {body rest : Rho → AH → SR} {sr : Sr} {x : EX} {ρ1 : Rho} (hs : src ρ ah = .ok sr ah1) (hf : forV sr.g t body sr.xs ρ ah1 = .ex x ρ1 ah2) : seqF (forF t src body) rest ρ ah = .ex x ρ1 ah2 := by
  unfold seqF forF
  rw [hs]
  show (match forV sr.g t body sr.xs ρ ah1 with | .nx ρ1 ah1 => rest ρ1 ah1 | r => r) = _
  rw [hf]
theorem fx_stop {t : TP} {body : Rho → AH → SR} {y : AV} {ys : List AV} {e : EX} {ρ1 ρ2 : Rho} (hp : t.put y ah ρ = some ρ1) (hb : body ρ1 ah = .ex e ρ2 ah2) : forV always t body (y :: ys) ρ ah = .ex e ρ2 ah2 := by
  unfold forV
  rw [if_pos (show always ah = true from rfl), hp]
  dsimp only
  rw [hb]
theorem fx_go {t : TP} {body : Rho → AH → SR} {y : AV} {ys : List AV} {ρ1 ρ2 : Rho} (hp : t.put y ah ρ = some ρ1) (hb : body ρ1 ah = .nx ρ2 ah2) : forV always t body (y :: ys) ρ ah = forV always t body ys ρ2 ah2 := by
  show (if always ah = true then (match t.put y ah ρ with | some ρ1 => _ | none => _) else _) = _
  rw [if_pos (show always ah = true from rfl), hp]
  dsimp only
  rw [hb]
/-- a try whose body ends well -/
theorem sx_tryOk {b : Rho → AH → SR} {hs : List Hd} {N : Rho → AH → Prop} {R : AV → AH → Prop} (h : YesS (b ρ ah) N R) : YesS (tryF b hs ρ ah) N R := by
  unfold tryF
  cases e : b ρ ah with
  | nx a b => rw [e] at h; exact h
  | rt a b => rw [e] at h; exact h
  | bk a b => rw [e] at h; exact h
  | ct a b => rw [e] at h; exact h
  | ex x a b => rw [e] at h; exact h.elim
  | st => rw [e] at h; exact h.elim
theorem sx_try {b : Rho → AH → SR} {hs : List Hd} {x : EX} {ρ1 : Rho} (h : b ρ ah = .ex x ρ1 ah1) : tryF b hs ρ ah = hdF hs x ρ1 ah1 := by
  unfold tryF
  rw [h]
end
end Ko

namespace K10
open PySem L2 Ko
def top (i : Nat) : Stmt := PySem.Challenge.pw_keptinorder_k10_frames_refused_and_judge.main.body.getD i (.Pass ⟨0, 0, 0, 0⟩)
def t_is_list : T := (.cons (.sRet (.isi [.list, .tuple] (.var 0))) .nil)
def d_is_list : Df := ⟨"is_list", top 5, ["value"], ["value"], t_is_list, []⟩
def t_is_integer : T := (.cons (.sRet (.and (.isi [.int] (.var 0)) (.not (.isi [.bool] (.var 0))))) .nil)
def d_is_integer : Df := ⟨"is_integer", top 6, ["value"], ["value"], t_is_integer, []⟩
def t_is_count : T := (.cons (.sRet (.and (.call "is_integer" (.cons (.var 0) .nil)) (.cmp .GtE (.var 0) (.cI 0)))) .nil)
def d_is_count : Df := ⟨"is_count", top 7, ["value"], ["value"], t_is_count, []⟩
def t_is_signs : T := (.cons (.sRet (.and (.isi [.str] (.var 0)) (.and (.mi .isascii (.var 0) .nil) (.mi .isprintable (.var 0) .nil)))) .nil)
def d_is_signs : Df := ⟨"is_signs", top 8, ["value"], ["value"], t_is_signs, []⟩
def t_has_frame : T := (.cons (.sRet (.and (.call "is_signs" (.cons (.var 0) .nil)) (.cmp .LtE (.bi .len (.cons (.var 0) .nil)) (.gl "MOST_SIGNS" (.int 80000))))) .nil)
def d_has_frame : Df := ⟨"has_frame", top 12, ["value"], ["value"], t_has_frame, []⟩
def t_check_texts : T := (.cons (.sIf (.not (.call "is_list" (.cons (.var 0) .nil))) (.cons (.sRaise "InvalidText" ["given"] (.cons (.var 0) .nil)) .nil) .nil) (.cons (.sFor (.nm 1) (.var 0) (.cons (.sIf (.not (.call "has_frame" (.cons (.var 1) .nil))) (.cons (.sRaise "InvalidText" ["given"] (.cons (.var 1) .nil)) .nil) .nil) .nil)) .nil))
def d_check_texts : Df := ⟨"check_texts", top 13, ["texts", "text"], ["texts"], t_check_texts, []⟩
def t_framed : T := (.cons (.sIf (.not (.call "has_frame" (.cons (.var 0) .nil))) (.cons (.sRaise "InvalidText" ["given"] (.cons (.var 0) .nil)) .nil) .nil) (.cons (.sRet (.bin .Add (.bin .Add (.bin .Add (.mi .zfill (.bi .str (.cons (.bi .len (.cons (.var 0) .nil)) .nil)) (.cons (.cI 5) .nil)) (.cS ":")) (.var 0)) (.cS ";"))) .nil))
def d_framed : Df := ⟨"framed", top 14, ["text"], ["text"], t_framed, [(0, ["text"], [0])]⟩
def t_all_framed : T := (.cons (.sExp (.call "check_texts" (.cons (.var 0) .nil))) (.cons (.sRet (.mi .join (.cS "") (.cons (.comp [("text", 1)] (.nm 1) (.var 0) .nil (.call "framed" (.cons (.var 1) .nil))) .nil))) .nil))
def d_all_framed : Df := ⟨"all_framed", top 15, ["texts", "text"], ["texts"], t_all_framed, [(0, ["texts"], [0])]⟩
def t_frame_end : T := (.cons (.sAsg (.nm 2) (.slc (.var 0) (.var 1) (.bin .Add (.var 1) (.cI 6)))) (.cons (.sIf (.or (.cmp .Lt (.bi .len (.cons (.var 2) .nil)) (.cI 6)) (.or (.cmp .NotEq (.sub (.var 2) (.cI 5)) (.cS ":")) (.not (.bi .all (.cons (.comp [("sign", 5)] (.nm 5) (.slc (.var 2) .nil (.cI 5)) .nil (.cmp .In (.var 5) (.gl "FIGURES" (.str "0123456789")))) .nil))))) (.cons (.sRet .cN) .nil) .nil) (.cons (.sAsg (.nm 3) (.bi .int (.cons (.slc (.var 2) .nil (.cI 5)) .nil))) (.cons (.sAsg (.nm 4) (.bin .Add (.bin .Add (.var 1) (.cI 6)) (.var 3))) (.cons (.sIf (.or (.cmp .Gt (.var 3) (.gl "MOST_SIGNS" (.int 80000))) (.cmp .NotEq (.slc (.var 0) (.var 4) (.bin .Add (.var 4) (.cI 1))) (.cS ";"))) (.cons (.sRet .cN) .nil) .nil) (.cons (.sRet (.bin .Add (.var 4) (.cI 1))) .nil))))))
def d_frame_end : Df := ⟨"frame_end", top 16, ["text", "start", "head", "signs", "end", "sign"], ["text", "start"], t_frame_end, []⟩
def t_frames_in : T := (.cons (.sIf (.not (.call "is_signs" (.cons (.var 0) .nil))) (.cons (.sRaise "InvalidText" ["given"] (.cons (.var 0) .nil)) .nil) .nil) (.cons (.sPar2 1 2 (.cons (.lstM .nil) (.cons (.cI 0) .nil))) (.cons (.sAsg (.nm 3) (.call "frame_end" (.cons (.var 0) (.cons (.var 2) .nil)))) (.cons (.sWh 30000 (.cmp .IsNot (.var 3) .cN) (.cons (.sExp (.app (.var 1) (.slc (.var 0) (.bin .Add (.var 2) (.cI 6)) (.bin .Sub (.var 3) (.cI 1))))) (.cons (.sAsg (.nm 2) (.var 3)) (.cons (.sAsg (.nm 3) (.call "frame_end" (.cons (.var 0) (.cons (.var 2) .nil)))) .nil)))) (.cons (.sRet (.tup (.cons (.var 1) (.cons (.var 2) .nil)))) .nil)))))
def d_frames_in : Df := ⟨"frames_in", top 17, ["text", "texts", "start", "end"], ["text"], t_frames_in, [(0, ["text"], [0])]⟩
def t_is_whole : T := (.cons (.sRet (.and (.call "is_signs" (.cons (.var 0) .nil)) (.cmp .Eq (.sub (.call "frames_in" (.cons (.var 0) .nil)) (.cI 1)) (.bi .len (.cons (.var 0) .nil))))) .nil)
def d_is_whole : Df := ⟨"is_whole", top 18, ["value"], ["value"], t_is_whole, [(0, ["value"], [0])]⟩
def t_cut_at : T := (.cons (.sExp (.call "check_texts" (.cons (.var 0) .nil))) (.cons (.sIf (.not (.call "is_count" (.cons (.var 1) .nil))) (.cons (.sRaise "InvalidCount" ["given"] (.cons (.var 1) .nil)) .nil) .nil) (.cons (.sAsg (.tp [(.nm 2), (.nm 3)]) (.tup (.cons (.cI 0) (.cons (.cI 0) .nil)))) (.cons (.sFor (.nm 4) (.var 0) (.cons (.sAug 3 .Add (.bin .Add (.bi .len (.cons (.var 4) .nil)) (.cI 7))) (.cons (.sIf (.cmp .Gt (.var 3) (.var 1)) (.cons (.sRet (.var 2)) .nil) .nil) (.cons (.sAug 2 .Add (.cI 1)) .nil)))) (.cons (.sRet (.var 2)) .nil)))))
def d_cut_at : Df := ⟨"cut_at", top 19, ["texts", "signs", "many", "end", "text"], ["texts", "signs"], t_cut_at, [(0, ["signs", "texts"], [1, 0])]⟩
def t__law_cell : T := (.cons (.sRet (.ife (.cmp .Lt (.var 1) (.bi .len (.cons (.var 0) .nil))) (.sub (.var 0) (.var 1)) (.bin .Add (.bin .Mult (.cI 5003) (.var 1)) (.bin .Mod (.bi .sum (.cons (.slc (.var 0) .nil (.cI 1)) .nil)) (.cI 1000081))))) .nil)
def d__law_cell : Df := ⟨"_law_cell", top 21, ["script", "k"], ["script", "k"], t__law_cell, []⟩
def t__law_box : T := (.cons (.sRet (.lstM (.cons (.bi .abs (.cons (.var 0) .nil)) (.cons (.cmp .GtE (.bi .abs (.cons (.var 0) .nil)) (.bin .Pow (.cI 10) (.cI 18))) (.cons (.bin .Mod (.bi .int (.cons (.bi .abs (.cons (.var 0) .nil)) .nil)) (.cI 2147483629)) (.cons (.cI 0) .nil)))))) .nil)
def d__law_box : Df := ⟨"_law_box", top 22, ["great"], ["great"], t__law_box, []⟩
def t__law_take : T := (.cons (.sIf (.and (.sub (.var 0) (.cI 1)) (.cmp .Gt (.sub (.var 0) (.cI 0)) (.cI 0))) (.cons (.sAsg (.nm 2) (.bin .Mod (.bi .int (.cons (.sub (.var 0) (.cI 0)) .nil)) (.var 1))) (.cons (.sSub (.var 0) (.cI 0) (.bin .FloorDiv (.sub (.var 0) (.cI 0)) (.var 1))) (.cons (.sRet (.var 2)) .nil))) .nil) (.cons (.sSub (.var 0) (.cI 3) (.bin .Add (.sub (.var 0) (.cI 3)) (.cI 1))) (.cons (.sAsg (.nm 3) (.bin .Mod (.bi .int (.cons (.bin .Pow (.bin .Add (.bin .Add (.sub (.var 0) (.cI 2)) (.bin .Mult (.cI 15485863) (.sub (.var 0) (.cI 3)))) (.cI 179424697)) (.cI 5)) .nil)) (.cI 2147483647))) (.cons (.sRet (.bin .Mod (.bin .FloorDiv (.bin .Mod (.bi .int (.cons (.bin .Pow (.bin .Add (.bin .Mult (.var 3) (.cI 48271)) (.bin .Mult (.cI 104723) (.sub (.var 0) (.cI 3)))) (.cI 3)) .nil)) (.cI 2147483587)) (.cI 64)) (.var 1))) .nil))))
def d__law_take : Df := ⟨"_law_take", top 23, ["box", "many", "digit", "mixed"], ["box", "many"], t__law_take, []⟩
def t__law_text : T := (.cons (.sAsg (.nm 1) (.cS "ab :;0123456789~")) (.cons (.sRet (.mi .join (.cS "") (.cons (.comp [("turn", 2)] (.nm 2) (.rng1 (.call "_law_take" (.cons (.var 0) (.cons (.cI 7) .nil)))) .nil (.sub (.var 1) (.call "_law_take" (.cons (.var 0) (.cons (.cI 16) .nil))))) .nil))) .nil))
def d__law_text : Df := ⟨"_law_text", top 24, ["box", "signs", "turn"], ["box"], t__law_text, []⟩
def t__law_bad : T := (.cons (.sAsg (.nm 1) (.call "_law_take" (.cons (.var 0) (.cons (.cI 12) .nil)))) (.cons (.sIf (.cmp .Lt (.var 1) (.cI 4)) (.cons (.sAsg (.nm 2) (.call "_law_text" (.cons (.var 0) .nil))) (.cons (.sAsg (.nm 3) (.call "_law_take" (.cons (.var 0) (.cons (.bin .Add (.bi .len (.cons (.var 2) .nil)) (.cI 1)) .nil)))) (.cons (.sRet (.bin .Add (.bin .Add (.slc (.var 2) .nil (.var 3)) (.sub (.cS "\n\t") (.bin .Mod (.var 1) (.cI 2)))) (.slc (.var 2) (.var 3) .nil))) .nil))) .nil) (.cons (.sRet (.sub (.lst (.cons .cN (.cons (.cB true) (.cons (.cB false) (.cons (.cI 0) (.cons (.cI 7) (.cons (.lst (.cons (.cS "a") .nil)) (.cons (.tup (.cons (.cS "a") (.cons (.cS "b") .nil))) (.cons .dic0 .nil))))))))) (.bin .Sub (.var 1) (.cI 4)))) .nil)))
def d__law_bad : Df := ⟨"_law_bad", top 25, ["box", "way", "row", "spot"], ["box"], t__law_bad, []⟩
def t__law_no_list : T := (.cons (.sRet (.sub (.lst (.cons .cN (.cons (.cB true) (.cons (.cI 0) (.cons (.cI 12) (.cons (.cS "abc") (.cons (.cS "") (.cons .dic0 (.cons (.cS "00001:x;") .nil))))))))) (.call "_law_take" (.cons (.var 0) (.cons (.cI 8) .nil))))) .nil)
def d__law_no_list : Df := ⟨"_law_no_list", top 26, ["box"], ["box"], t__law_no_list, []⟩
def t__law_no_count : T := (.cons (.sRet (.sub (.lst (.cons .cN (.cons (.cB true) (.cons (.cB false) (.cons (.neg (.cI 1)) (.cons (.neg (.bin .Pow (.cI 10) (.cI 14))) (.cons (.cS "3") (.cons (.lst (.cons (.cI 3) .nil)) (.cons (.lst .nil) (.cons (.tup .nil) (.cons .dic0 .nil))))))))))) (.call "_law_take" (.cons (.var 0) (.cons (.cI 10) .nil))))) .nil)
def d__law_no_count : Df := ⟨"_law_no_count", top 27, ["box"], ["box"], t__law_no_count, []⟩
def t__law_copy : T := (.cons (.sIf (.isi [.list] (.var 0)) (.cons (.sRet (.lstC (.var 0))) .nil) .nil) (.cons (.sRet (.ife (.isi [.dict] (.var 0)) (.dicC (.var 0)) (.var 0))) .nil))
def d__law_copy : Df := ⟨"_law_copy", top 28, ["thing"], ["thing"], t__law_copy, []⟩
def t__law_met : T := (.cons (.sTry (.cons (.sIf (.cmp .Eq (.var 0) (.cI 0)) (.cons (.sRet (.lst (.cons (.cS "told") (.cons (.call "framed" (.cons (.var 1) .nil)) .nil)))) .nil) .nil) (.cons (.sIf (.cmp .Eq (.var 0) (.cI 1)) (.cons (.sRet (.lst (.cons (.cS "told") (.cons (.callK "framed" .nil 0 ["text"] [0] (.cons (.var 1) .nil)) .nil)))) .nil) .nil) (.cons (.sIf (.cmp .Eq (.var 0) (.cI 2)) (.cons (.sRet (.lst (.cons (.cS "told") (.cons (.call "frames_in" (.cons (.var 1) .nil)) .nil)))) .nil) .nil) (.cons (.sIf (.cmp .Eq (.var 0) (.cI 3)) (.cons (.sRet (.lst (.cons (.cS "told") (.cons (.callK "frames_in" .nil 0 ["text"] [0] (.cons (.var 1) .nil)) .nil)))) .nil) .nil) (.cons (.sIf (.cmp .Eq (.var 0) (.cI 4)) (.cons (.sRet (.lst (.cons (.cS "told") (.cons (.call "all_framed" (.cons (.var 2) .nil)) .nil)))) .nil) .nil) (.cons (.sIf (.cmp .Eq (.var 0) (.cI 5)) (.cons (.sRet (.lst (.cons (.cS "told") (.cons (.callK "all_framed" .nil 0 ["texts"] [0] (.cons (.var 2) .nil)) .nil)))) .nil) .nil) (.cons (.sIf (.cmp .Eq (.var 0) (.cI 6)) (.cons (.sRet (.lst (.cons (.cS "told") (.cons (.call "cut_at" (.cons (.var 2) (.cons (.cI 5) .nil))) .nil)))) .nil) .nil) (.cons (.sRet (.lst (.cons (.cS "told") (.cons (.callK "cut_at" .nil 0 ["signs", "texts"] [1, 0] (.cons (.var 1) (.cons (.var 2) .nil))) .nil)))) .nil)))))))) [⟨"InvalidText", some 3, ["InvalidText"], ["InvalidCount"], .retL false [.str "text", .fld "given" ["InvalidText"], .isx "QueueError" ["InvalidText"] [], .isx "InvalidCount" [] ["InvalidText"]]⟩, ⟨"InvalidCount", some 3, ["InvalidCount"], ["InvalidText"], .retL false [.str "count", .fld "given" ["InvalidCount"], .isx "QueueError" ["InvalidCount"] [], .isx "InvalidText" [] ["InvalidCount"]]⟩]) .nil)
def d__law_met : Df := ⟨"_law_met", top 29, ["door", "thing", "more", "e"], ["door", "thing", "more"], t__law_met, []⟩
def t__law_is_met : T := (.cons (.sAsg (.nm 3) (.lst (.cons (.var 1) (.cons (.var 2) (.cons (.cB true) (.cons (.cB false) .nil)))))) (.cons (.sIf (.cmp .NotEq (.bi .repr (.cons (.var 0) .nil)) (.bi .repr (.cons (.var 3) .nil))) (.cons (.sRet (.cB false)) .nil) .nil) (.cons (.sIf (.isi [.list] (.var 2)) (.cons (.sExp (.app (.var 2) (.cS "more"))) .nil) .nil) (.cons (.sIf (.isi [.dict] (.var 2)) (.cons (.sPutD (.var 2) (.cS "more") (.cI 1)) .nil) .nil) (.cons (.sRet (.cmp .Eq (.bi .repr (.cons (.var 0) .nil)) (.bi .repr (.cons (.var 3) .nil)))) .nil)))))
def d__law_is_met : Df := ⟨"_law_is_met", top 30, ["told", "word", "thing", "due"], ["told", "word", "thing"], t__law_is_met, []⟩
def t__law_texts_refused : T := (.cons (.sPar2 1 2 (.cons (.call "_law_bad" (.cons (.var 0) .nil)) (.cons (.call "_law_bad" (.cons (.var 0) .nil)) .nil))) (.cons (.sFor (.nm 3) (.rng1 (.cI 4)) (.cons (.sAsg (.nm 4) (.call "_law_copy" (.cons (.var 1) .nil))) (.cons (.sIf (.not (.call "_law_is_met" (.cons (.call "_law_met" (.cons (.var 3) (.cons (.var 4) (.cons (.lst .nil) .nil)))) (.cons (.cS "text") (.cons (.var 4) .nil))))) (.cons (.sRet (.cB false)) .nil) .nil) .nil))) (.cons (.sPar2 5 6 (.cons (.call "_law_frame" (.cons (.bin .Mult (.cS "a") (.sub (.lst (.cons (.cI 0) (.cons (.cI 3) (.cons (.cI 8) (.cons (.cI 150) (.cons (.cI 3000) .nil)))))) (.call "_law_take" (.cons (.var 0) (.cons (.cI 5) .nil))))) .nil)) (.cons (.sub (.cS "\n\t") (.call "_law_take" (.cons (.var 0) (.cons (.cI 2) .nil)))) .nil))) (.cons (.sAsg (.nm 7) (.call "_law_take" (.cons (.var 0) (.cons (.bin .Add (.bi .len (.cons (.var 5) .nil)) (.cI 1)) .nil)))) (.cons (.sFor (.nm 4) (.lst (.cons (.bin .Add (.var 5) (.var 6)) (.cons (.bin .Add (.bin .Add (.slc (.var 5) .nil (.var 7)) (.var 6)) (.slc (.var 5) (.var 7) .nil)) (.cons (.bin .Add (.bin .Add (.bin .Mult (.var 5) (.cI 2)) (.var 6)) (.var 5)) .nil)))) (.cons (.sIf (.or (.cmp .NotEq (.call "_law_met" (.cons (.cI 2) (.cons (.var 4) (.cons (.lst .nil) .nil)))) (.lst (.cons (.cS "text") (.cons (.var 4) (.cons (.cB true) (.cons (.cB false) .nil)))))) (.cmp .IsNot (.call "is_whole" (.cons (.var 4) .nil)) (.cB false))) (.cons (.sRet (.cB false)) .nil) .nil) .nil)) (.cons (.sFor (.nm 3) (.rng2 (.cI 4) (.cI 8)) (.cons (.sPar2 4 8 (.cons (.call "_law_copy" (.cons (.var 1) .nil)) (.cons (.comp [("turn", 12)] (.nm 12) (.rng1 (.call "_law_take" (.cons (.var 0) (.cons (.cI 4) .nil)))) .nil (.call "_law_text" (.cons (.var 0) .nil))) .nil))) (.cons (.sAsg (.nm 7) (.call "_law_take" (.cons (.var 0) (.cons (.bin .Add (.bi .len (.cons (.var 8) .nil)) (.cI 1)) .nil)))) (.cons (.sAsg (.nm 8) (.bin .Add (.bin .Add (.bin .Add (.slc (.var 8) .nil (.var 7)) (.lst (.cons (.var 4) .nil))) (.slc (.var 8) (.var 7) .nil)) (.bin .Mult (.lst (.cons (.var 2) .nil)) (.call "_law_take" (.cons (.var 0) (.cons (.cI 2) .nil)))))) (.cons (.sAsg (.nm 9) (.sub (.lst (.cons (.var 8) (.cons (.bi .tuple (.cons (.var 8) .nil)) .nil))) (.call "_law_take" (.cons (.var 0) (.cons (.cI 2) .nil))))) (.cons (.sAsg (.nm 10) (.bi .repr (.cons (.var 9) .nil))) (.cons (.sAsg (.nm 11) (.call "_law_met" (.cons (.var 3) (.cons (.cS "no count") (.cons (.var 9) .nil))))) (.cons (.sIf (.or (.cmp .NotEq (.bi .repr (.cons (.var 9) .nil)) (.var 10)) (.not (.call "_law_is_met" (.cons (.var 11) (.cons (.cS "text") (.cons (.var 4) .nil)))))) (.cons (.sRet (.cB false)) .nil) .nil) .nil)))))))) (.cons (.sRet (.and (.cmp .Is (.call "is_whole" (.cons (.var 1) .nil)) (.cB false)) (.cmp .Is (.callK "is_whole" .nil 0 ["value"] [0] (.cons (.var 2) .nil)) (.cB false)))) .nil)))))))
def d__law_texts_refused : Df := ⟨"_law_texts_refused", top 31, ["box", "bad", "other", "door", "thing", "row", "mark", "spot", "rows", "more", "kept", "told", "turn"], ["box"], t__law_texts_refused, []⟩
def t__law_lists_refused : T := (.cons (.sFor (.nm 1) (.rng2 (.cI 4) (.cI 8)) (.cons (.sAsg (.nm 2) (.call "_law_copy" (.cons (.call "_law_no_list" (.cons (.var 0) .nil)) .nil))) (.cons (.sIf (.not (.call "_law_is_met" (.cons (.call "_law_met" (.cons (.var 1) (.cons (.cS "no count") (.cons (.var 2) .nil)))) (.cons (.cS "text") (.cons (.var 2) .nil))))) (.cons (.sRet (.cB false)) .nil) .nil) .nil))) (.cons (.sComp 3 [("turn", 4)] (.nm 4) (.rng1 (.call "_law_take" (.cons (.var 0) (.cons (.cI 4) .nil)))) .nil (.call "_law_text" (.cons (.var 0) .nil))) (.cons (.sFor (.nm 4) (.rng1 (.cI 2)) (.cons (.sAsg (.nm 2) (.call "_law_copy" (.cons (.call "_law_no_count" (.cons (.var 0) .nil)) .nil))) (.cons (.sIf (.not (.call "_law_is_met" (.cons (.call "_law_met" (.cons (.cI 7) (.cons (.var 2) (.cons (.sub (.lst (.cons (.bi .list (.cons (.var 3) .nil)) (.cons (.bi .tuple (.cons (.var 3) .nil)) .nil))) (.var 4)) .nil)))) (.cons (.cS "count") (.cons (.var 2) .nil))))) (.cons (.sRet (.cB false)) .nil) .nil) .nil))) (.cons (.sRet (.cB true)) .nil))))
def d__law_lists_refused : Df := ⟨"_law_lists_refused", top 32, ["box", "door", "thing", "rows", "turn"], ["box"], t__law_lists_refused, []⟩
def t__law_frame : T := (.cons (.sAsg (.nm 1) (.bi .str (.cons (.bi .len (.cons (.var 0) .nil)) .nil))) (.cons (.sRet (.bin .Add (.bin .Add (.bin .Add (.bin .Add (.bin .Mult (.cS "0") (.bin .Sub (.cI 5) (.bi .len (.cons (.var 1) .nil)))) (.var 1)) (.cS ":")) (.var 0)) (.cS ";"))) .nil))
def d__law_frame : Df := ⟨"_law_frame", top 33, ["row", "count"], ["row"], t__law_frame, []⟩
def t__law_taken : T := (.cons (.sPar2 1 2 (.cons (.call "_law_text" (.cons (.var 0) .nil)) (.cons (.call "_law_take" (.cons (.var 0) (.cons (.cI 9) .nil))) .nil))) (.cons (.sAsg (.nm 3) (.lst (.cons (.call "framed" (.cons (.var 1) .nil)) (.cons (.call "all_framed" (.cons (.lst .nil) .nil)) (.cons (.call "all_framed" (.cons (.tup .nil) .nil)) (.cons (.call "all_framed" (.cons (.lst (.cons (.cS "") (.cons (.var 1) .nil))) .nil)) (.cons (.call "frames_in" (.cons (.call "_law_frame" (.cons (.var 1) .nil)) .nil)) .nil))))))) (.cons (.sAsg (.nm 4) (.lst (.cons (.call "_law_frame" (.cons (.var 1) .nil)) (.cons (.cS "") (.cons (.cS "") (.cons (.bin .Add (.cS "00000:;") (.call "_law_frame" (.cons (.var 1) .nil))) (.cons (.tup (.cons (.lst (.cons (.var 1) .nil)) (.cons (.bin .Add (.bi .len (.cons (.var 1) .nil)) (.cI 7)) .nil))) .nil))))))) (.cons (.sAsg (.nm 3) (.bin .Add (.var 3) (.lst (.cons (.call "cut_at" (.cons (.lst .nil) (.cons (.var 2) .nil))) (.cons (.call "cut_at" (.cons (.tup .nil) (.cons (.cI 0) .nil))) (.cons (.call "cut_at" (.cons (.lst (.cons (.cS "") .nil)) (.cons (.var 2) .nil))) (.cons (.callK "cut_at" .nil 0 ["signs", "texts"] [1, 0] (.cons (.bin .Pow (.cI 10) (.cI 14)) (.cons (.lst (.cons (.var 1) (.cons (.cS "") .nil))) .nil))) .nil))))))) (.cons (.sAsg (.nm 4) (.bin .Add (.var 4) (.lst (.cons (.cI 0) (.cons (.cI 0) (.cons (.bi .int (.cons (.cmp .Gt (.var 2) (.cI 6)) .nil)) (.cons (.cI 2) .nil))))))) (.cons (.sAsg (.nm 5) (.lst (.cons (.call "is_whole" (.cons (.call "_law_frame" (.cons (.var 1) .nil)) .nil)) (.cons (.call "is_whole" (.cons (.bin .Add (.var 1) (.call "_law_frame" (.cons (.var 1) .nil))) .nil)) (.cons (.call "is_whole" (.cons (.cS "") .nil)) (.cons (.call "is_whole" (.cons (.bin .Add (.call "_law_frame" (.cons (.var 1) .nil)) (.cS " ")) .nil)) .nil)))))) (.cons (.sRet (.and (.cmp .Eq (.var 3) (.var 4)) (.cmp .Eq (.bi .repr (.cons (.var 5) .nil)) (.bi .repr (.cons (.lst (.cons (.cB true) (.cons (.cmp .In (.var 1) (.lst (.cons (.cS "") (.cons (.cS "00012:") .nil)))) (.cons (.cB true) (.cons (.cB false) .nil))))) .nil))))) .nil)))))))
def d__law_taken : Df := ⟨"_law_taken", top 34, ["box", "row", "signs", "found", "due", "judged"], ["box"], t__law_taken, []⟩
def t__law_at_the_bound : T := (.cons (.sAsg (.nm 0) (.bin .Mult (.cS "x") (.cI 80000))) (.cons (.sIf (.cmp .NotEq (.call "_law_met" (.cons (.cI 0) (.cons (.var 0) (.cons (.lst .nil) .nil)))) (.lst (.cons (.cS "told") (.cons (.bin .Add (.bin .Add (.cS "80000:") (.var 0)) (.cS ";")) .nil)))) (.cons (.sRet (.cB false)) .nil) .nil) (.cons (.sIf (.cmp .NotEq (.call "_law_met" (.cons (.cI 2) (.cons (.bin .Add (.bin .Add (.cS "80000:") (.var 0)) (.cS ";")) (.cons (.lst .nil) .nil)))) (.lst (.cons (.cS "told") (.cons (.tup (.cons (.lst (.cons (.var 0) .nil)) (.cons (.cI 80007) .nil))) .nil)))) (.cons (.sRet (.cB false)) .nil) .nil) (.cons (.sAsg (.nm 1) (.bin .Mult (.bin .Add (.bin .Add (.cS "80000:") (.var 0)) (.cS ";")) (.cI 2))) (.cons (.sIf (.or (.cmp .NotEq (.sub (.call "frames_in" (.cons (.var 1) .nil)) (.cI 1)) (.cI 160014)) (.cmp .IsNot (.call "is_whole" (.cons (.var 1) .nil)) (.cB true))) (.cons (.sRet (.cB false)) .nil) .nil) (.cons (.sAsg (.nm 2) (.bin .Add (.var 0) (.cS "x"))) (.cons (.sIf (.or (.cmp .NotEq (.call "frames_in" (.cons (.bin .Add (.bin .Add (.cS "80001:") (.var 2)) (.cS ";")) .nil)) (.tup (.cons (.lst .nil) (.cons (.cI 0) .nil)))) (.cmp .IsNot (.call "is_whole" (.cons (.bin .Add (.bin .Add (.cS "80001:") (.var 2)) (.cS ";")) .nil)) (.cB false))) (.cons (.sRet (.cB false)) .nil) .nil) (.cons (.sFor (.nm 3) (.lst (.cons (.cI 0) (.cons (.cI 5) (.cons (.cI 6) .nil)))) (.cons (.sIf (.cmp .NotEq (.call "_law_met" (.cons (.var 3) (.cons (.var 2) (.cons (.lst (.cons (.cS "") (.cons (.var 2) (.cons .cN .nil)))) .nil)))) (.lst (.cons (.cS "text") (.cons (.var 2) (.cons (.cB true) (.cons (.cB false) .nil)))))) (.cons (.sRet (.cB false)) .nil) .nil) .nil)) (.cons (.sRet (.cB true)) .nil)))))))))
def d__law_at_the_bound : Df := ⟨"_law_at_the_bound", top 35, ["great", "twice", "more", "door"], [], t__law_at_the_bound, []⟩
def t_law : T := (.cons (.sIf (.and (.cmp .Eq (.bin .Mod (.bi .int (.cons (.call "_law_cell" (.cons (.var 0) (.cons (.cI 0) .nil))) .nil)) (.cI 3)) (.cI 1)) (.not (.call "_law_at_the_bound" .nil))) (.cons (.sRet (.cB false)) .nil) .nil) (.cons (.sFor (.nm 1) (.rng1 (.bi .max (.cons (.cI 2) (.cons (.bi .min (.cons (.cI 3) (.cons (.bi .len (.cons (.var 0) .nil)) .nil))) .nil)))) (.cons (.sAsg (.nm 2) (.call "_law_box" (.cons (.call "_law_cell" (.cons (.var 0) (.cons (.var 1) .nil))) .nil))) (.cons (.sFor (.nm 3) (.rng1 (.cI 3)) (.cons (.sIf (.or (.not (.call "_law_texts_refused" (.cons (.var 2) .nil))) (.or (.not (.call "_law_lists_refused" (.cons (.var 2) .nil))) (.not (.call "_law_taken" (.cons (.var 2) .nil))))) (.cons (.sRet (.cB false)) .nil) .nil) .nil)) .nil))) (.cons (.sRet (.cB true)) .nil)))
def d_law : Df := ⟨"law", top 36, ["script", "k", "box", "turn"], ["script"], t_law, []⟩
def ds : List Df := [d_is_list, d_is_integer, d_is_count, d_is_signs, d_has_frame, d_check_texts, d_framed, d_all_framed, d_frame_end, d_frames_in, d_is_whole, d_cut_at, d__law_cell, d__law_box, d__law_take, d__law_text, d__law_bad, d__law_no_list, d__law_no_count, d__law_copy, d__law_met, d__law_is_met, d__law_texts_refused, d__law_lists_refused, d__law_frame, d__law_taken, d__law_at_the_bound, d_law]
def tb : Tb := { fs := ds.map (·.x), kw := [("cut_at", 0, ["signs", "texts"], [1, 0]), ("all_framed", 0, ["texts"], [0]), ("frames_in", 0, ["text"], [0]), ("framed", 0, ["text"], [0]), ("is_whole", 0, ["value"], [0])], bs := ["isinstance", "list", "tuple", "bool", "int", "str", "len", "all", "sum", "abs", "range", "dict", "repr", "max", "min"], cs := [("MOST_SIGNS", (.int 80000)), ("FIGURES", (.str "0123456789"))], xs := [("InvalidCount", ["given"]), ("InvalidText", ["given"])], xm := [("InvalidText", "InvalidText", true), ("InvalidCount", "InvalidText", false), ("InvalidText", "QueueError", true), ("InvalidText", "InvalidCount", false), ("InvalidCount", "InvalidCount", true), ("InvalidCount", "QueueError", true)], xc := ["InvalidText", "InvalidCount"] }
theorem ds_ok : ds.all (dfOk tb) = true := by decide +kernel
end K10

/-! the frames, for a text that raises -/
namespace Ko
open PySem L2 NumText
local macro_rules | `(tactic| walk_at "ko_ev_K10w") => `(tactic| simp only [YesS.fin, semD, den, mkE, mkT, mkX, mkS, YesS.seq, YesS.nil, YesS.ret, YesS.ifS, YesS.asg, y_c, y_v, y_f2, y_f1, y_fA, y_nil, y_cons, y_tup, y_lst, y_lstM, y_dic0, y_tF, y_bF, y_tAnd, y_tOr, y_tNot, y_not, y_and, y_or, y_if, y_call, y_kw, y_chain, y_slc, y_pN, y_pS, y_isi, y_ms, y_src, y_rng1, y_comp, y_yes, s_exp, s_par2, s_sub, s_for, ops_call, ops_ar, Yes.ok, nu_isascii, nu_isprintable, nu_isalpha, nu_islower, nu_isdigit, nu_join, nu_count, nu_startswith, nu_endswith, nu_zfill, nu_stripC])
local macro_rules | `(tactic| walk_at "ko_ar_K10w") => `(tactic| simp only [ex_some, ex_ite, bin_add, bin_sub, bin_mul, bin_div, bin_mod, bin_pow, add_ii, sub_ii, mul_ii, div_ii, mod_ii, pow_ii, neg_i, cmp_eq, cmp_ne, cmp_lt, cmp_le, cmp_gt, cmp_ge, cmp_is, cmp_isn, lt_ii, le_ii, gt_ii, ge_ii, eq_ii, ne_ii, tru_b, tru_i, as_b, int_i, abs_i, put_nm, put_tup, put_lst])
local macro_rules | `(tactic| walk_at "ko_li_K10w") => `(tactic| simp only [List.getElem?_cons_zero, List.getElem?_cons_succ, List.set_cons_succ, List.set_cons_zero, putl_nil, putl_cons, put_nm, put_tup, put_lst, Option.bind_some])
def q_is_list : T := (.cons (.sRet (.isi [.list, .tuple] (.var 0))) .nil)
def q_is_signs : T := (.cons (.sRet (.and (.isi [.str] (.var 0)) (.and (.mi .isascii (.var 0) .nil) (.mi .isprintable (.var 0) .nil)))) .nil)
def q_has_frame : T := (.cons (.sRet (.and (.call "is_signs" (.cons (.var 0) .nil)) (.cmp .LtE (.bi .len (.cons (.var 0) .nil)) (.gl "MOST_SIGNS" (.int 80000))))) .nil)
def q_check_texts : T := (.cons (.sIf (.not (.call "is_list" (.cons (.var 0) .nil))) (.cons (.sRaise "InvalidText" ["given"] (.cons (.var 0) .nil)) .nil) .nil) (.cons (.sFor (.nm 1) (.var 0) (.cons (.sIf (.not (.call "has_frame" (.cons (.var 1) .nil))) (.cons (.sRaise "InvalidText" ["given"] (.cons (.var 1) .nil)) .nil) .nil) .nil)) .nil))
def q_framed : T := (.cons (.sIf (.not (.call "has_frame" (.cons (.var 0) .nil))) (.cons (.sRaise "InvalidText" ["given"] (.cons (.var 0) .nil)) .nil) .nil) (.cons (.sRet (.bin .Add (.bin .Add (.bin .Add (.mi .zfill (.bi .str (.cons (.bi .len (.cons (.var 0) .nil)) .nil)) (.cons (.cI 5) .nil)) (.cS ":")) (.var 0)) (.cS ";"))) .nil))
def q_all_framed : T := (.cons (.sExp (.call "check_texts" (.cons (.var 0) .nil))) (.cons (.sRet (.mi .join (.cS "") (.cons (.comp [("text", 1)] (.nm 1) (.var 0) .nil (.call "framed" (.cons (.var 1) .nil))) .nil))) .nil))
def q_frame_end : T := (.cons (.sAsg (.nm 2) (.slc (.var 0) (.var 1) (.bin .Add (.var 1) (.cI 6)))) (.cons (.sIf (.or (.cmp .Lt (.bi .len (.cons (.var 2) .nil)) (.cI 6)) (.or (.cmp .NotEq (.sub (.var 2) (.cI 5)) (.cS ":")) (.not (.bi .all (.cons (.comp [("sign", 5)] (.nm 5) (.slc (.var 2) .nil (.cI 5)) .nil (.cmp .In (.var 5) (.gl "FIGURES" (.str "0123456789")))) .nil))))) (.cons (.sRet .cN) .nil) .nil) (.cons (.sAsg (.nm 3) (.bi .int (.cons (.slc (.var 2) .nil (.cI 5)) .nil))) (.cons (.sAsg (.nm 4) (.bin .Add (.bin .Add (.var 1) (.cI 6)) (.var 3))) (.cons (.sIf (.or (.cmp .Gt (.var 3) (.gl "MOST_SIGNS" (.int 80000))) (.cmp .NotEq (.slc (.var 0) (.var 4) (.bin .Add (.var 4) (.cI 1))) (.cS ";"))) (.cons (.sRet .cN) .nil) .nil) (.cons (.sRet (.bin .Add (.var 4) (.cI 1))) .nil))))))
def q_frames_in : T := (.cons (.sIf (.not (.call "is_signs" (.cons (.var 0) .nil))) (.cons (.sRaise "InvalidText" ["given"] (.cons (.var 0) .nil)) .nil) .nil) (.cons (.sPar2 1 2 (.cons (.lstM .nil) (.cons (.cI 0) .nil))) (.cons (.sAsg (.nm 3) (.call "frame_end" (.cons (.var 0) (.cons (.var 2) .nil)))) (.cons (.sWh 30000 (.cmp .IsNot (.var 3) .cN) (.cons (.sExp (.app (.var 1) (.slc (.var 0) (.bin .Add (.var 2) (.cI 6)) (.bin .Sub (.var 3) (.cI 1))))) (.cons (.sAsg (.nm 2) (.var 3)) (.cons (.sAsg (.nm 3) (.call "frame_end" (.cons (.var 0) (.cons (.var 2) .nil)))) .nil)))) (.cons (.sRet (.tup (.cons (.var 1) (.cons (.var 2) .nil)))) .nil)))))
def q_is_whole : T := (.cons (.sRet (.and (.call "is_signs" (.cons (.var 0) .nil)) (.cmp .Eq (.sub (.call "frames_in" (.cons (.var 0) .nil)) (.cI 1)) (.bi .len (.cons (.var 0) .nil))))) .nil)
def q__law_frame : T := (.cons (.sAsg (.nm 1) (.bi .str (.cons (.bi .len (.cons (.var 0) .nil)) .nil))) (.cons (.sRet (.bin .Add (.bin .Add (.bin .Add (.bin .Add (.bin .Mult (.cS "0") (.bin .Sub (.cI 5) (.bi .len (.cons (.var 1) .nil)))) (.var 1)) (.cS ":")) (.var 0)) (.cS ";"))) .nil))
/-- the text bears these defs -/
structure Frm (ds : List Df) : Prop where
  g_is_list : ∃ d, findD ds "is_list" = some d ∧ d.N = (["value"] : List Str) ∧ d.t = q_is_list
  g_is_signs : ∃ d, findD ds "is_signs" = some d ∧ d.N = (["value"] : List Str) ∧ d.t = q_is_signs
  g_has_frame : ∃ d, findD ds "has_frame" = some d ∧ d.N = (["value"] : List Str) ∧ d.t = q_has_frame
  g_check_texts : ∃ d, findD ds "check_texts" = some d ∧ d.N = (["texts", "text"] : List Str) ∧ d.t = q_check_texts
  g_framed : ∃ d, findD ds "framed" = some d ∧ d.N = (["text"] : List Str) ∧ d.t = q_framed
  g_all_framed : ∃ d, findD ds "all_framed" = some d ∧ d.N = (["texts", "text"] : List Str) ∧ d.t = q_all_framed
  g_frame_end : ∃ d, findD ds "frame_end" = some d ∧ d.N = (["text", "start", "head", "signs", "end", "sign"] : List Str) ∧ d.t = q_frame_end
  g_frames_in : ∃ d, findD ds "frames_in" = some d ∧ d.N = (["text", "texts", "start", "end"] : List Str) ∧ d.t = q_frames_in
  g_is_whole : ∃ d, findD ds "is_whole" = some d ∧ d.N = (["value"] : List Str) ∧ d.t = q_is_whole
  g__law_frame : ∃ d, findD ds "_law_frame" = some d ∧ d.N = (["row", "count"] : List Str) ∧ d.t = q__law_frame
  a_is_list : arD ds "is_list" = 1
  a_is_signs : arD ds "is_signs" = 1
  a_has_frame : arD ds "has_frame" = 1
  a_check_texts : arD ds "check_texts" = 1
  a_framed : arD ds "framed" = 1
  a_all_framed : arD ds "all_framed" = 1
  a_frame_end : arD ds "frame_end" = 2
  a_frames_in : arD ds "frames_in" = 1
  a_is_whole : arD ds "is_whole" = 1
  a__law_frame : arD ds "_law_frame" = 1
/-! ### texts by their signs -/
abbrev Ls (z : Str) : List Nat := z.cps.toList
def mk (l : List Nat) : Str := ⟨l.toArray⟩
theorem ls_mk (l : List Nat) : Ls (mk l) = l := by simp [mk]
theorem str_ext {x y : Str} (h : Ls x = Ls y) : x = y := by
  cases x; cases y
  simp only [Str.mk.injEq]
  exact Array.toList_inj.mp h
theorem len_ls (z : Str) : z.length = (Ls z).length := by simp [Str.length]
theorem ls_app (x y : Str) : Ls (x ++ y) = Ls x ++ Ls y := by
  show ((x.cps ++ y.cps)).toList = _
  simp
def sb (z : Str) (a b : Nat) : Str := mk (((Ls z).drop a).take (b - a))
theorem cut_sb {z : Str} {a b : Nat} (h : a ≤ b) : cutS z (some (a : Int)) (some (b : Int)) = sb z a b := by
  unfold cutS sb mk
  rw [HT.sIx_nat, HT.sIx_nat, len_ls]
  congr 2
  by_cases h1 : a ≤ (Ls z).length
  · rw [Nat.min_eq_left h1]
    by_cases h2 : b ≤ (Ls z).length
    · rw [Nat.min_eq_left h2]
    · have e1 : ((Ls z).drop a).length = (Ls z).length - a := List.length_drop ..
      have e2 : (List.drop a z.cps.toList).length = (Ls z).length - a := e1
      rw [Nat.min_eq_right (by omega), List.take_of_length_le (by omega), List.take_of_length_le (by omega)]
  · rw [Nat.min_eq_right (by omega), Nat.min_eq_right (by omega), List.drop_eq_nil_of_le (Nat.le_refl _), List.drop_eq_nil_of_le (by omega), List.take_nil, List.take_nil]
theorem cut_pre {z : Str} {b : Nat} : cutS z none (some (b : Int)) = sb z 0 b := by
  have := cut_sb (z := z) (a := 0) (b := b) (Nat.zero_le _)
  rw [← this]; rfl
def dig (c : Nat) : Bool := decide (48 ≤ c ∧ c ≤ 57)
/-- where the frame at `at` ends -/
def en (z : Str) (i : Nat) : Option Nat :=
  let h := ((Ls z).drop i).take 6
  if h.length = 6 ∧ h[5]? = some 58 ∧ (h.take 5).all dig = true ∧ digitsVal (h.take 5) ≤ 80000 then
    if (Ls z)[i + 6 + digitsVal (h.take 5)]? = some 59 then some (i + 6 + digitsVal (h.take 5) + 1) else none
  else none
def rd (z : Str) : Nat → Nat → List Str × Nat
  | 0, i => ([], i)
  | f + 1, i => match en z i with
    | none => ([], i)
    | some e => (sb z (i + 6) (e - 1) :: (rd z f e).1, (rd z f e).2)
theorem en_le {z : Str} {i e : Nat} (h : en z i = some e) : i + 7 ≤ e ∧ e ≤ z.length := by
  unfold en at h
  simp only at h
  split at h
  · split at h
    · rename_i q
      cases h
      have := (List.getElem?_eq_some_iff.mp q).1
      rw [len_ls]
      omega
    · cases h
  · cases h
theorem rd_fuel {z : Str} : ∀ (f g i : Nat), z.length < i + 7 * f → z.length < i + 7 * g → rd z f i = rd z g i
  | 0, 0, _, _, _ => rfl
  | 0, g + 1, i, h, _ => by
    unfold rd
    cases e : en z i with
    | none => rfl
    | some e' => have := en_le e; omega
  | f + 1, 0, i, _, h => by
    unfold rd
    cases e : en z i with
    | none => rfl
    | some e' => have := en_le e; omega
  | f + 1, g + 1, i, h1, h2 => by
    unfold rd
    cases e : en z i with
    | none => rfl
    | some e' =>
      have := en_le e
      dsimp only
      rw [rd_fuel f g e' (by omega) (by omega)]
/-- a text that has a frame -/
structure Tx (z : Str) : Prop where
  ch : ∀ c ∈ Ls z, 32 ≤ c ∧ c ≤ 126
  len : z.length ≤ 200000
/-- a text that has a frame -/
structure Fx (z : Str) : Prop extends Tx z where
  fl : z.length ≤ 80000
theorem sz : sizeLine = 16777216 := by decide
theorem slc_s {ah : AH} {z : Str} {lo hi : Option Int} : slF ah (.str z) lo hi = if z.length ≤ sizeLine then some (.str (cutS z lo hi)) else none := rfl
theorem ne_ss {ah : AH} {x y : Str} : neF ah (.str x) (.str y) = some (.bl !decide (x = y)) := rfl
theorem eq_ss {ah : AH} {x y : Str} : eqF ah (.str x) (.str y) = some (.bl (decide (x = y))) := rfl
theorem asI_i {i : Int} : asI (.int i) = some i := rfl
theorem ls_sb (z : Str) (a b : Nat) : Ls (sb z a b) = ((Ls z).drop a).take (b - a) := ls_mk _
theorem sb_len {z : Str} {a b : Nat} (h : z.length ≤ 200000) : (sb z a b).length ≤ 200000 := by
  rw [len_ls, ls_sb, List.length_take, List.length_drop]
  rw [len_ls] at h
  omega
theorem ix_s {ah : AH} {z : Str} {k c : Nat} (h : (Ls z)[k]? = some c) (hl : z.length ≤ 200000) : ixF ah (.str z) (.int k) = some (.str ⟨#[c]⟩) := by
  have hk := (List.getElem?_eq_some_iff.mp h).1
  show (if z.length ≤ sizeLine then (atI (Ls z) (k : Int)).map fun c => AV.str ⟨#[c]⟩ else none) = _
  rw [if_pos (by rw [sz]; omega), atI_nat hk, Option.map_some, (List.getElem?_eq_some_iff.mp h).2]
theorem one_c {c d : Nat} {w : Str} (h : Ls w = [d]) : decide ((⟨#[c]⟩ : Str) = w) = decide (c = d) := by
  refine decide_eq_decide.mpr ⟨fun e => ?_, fun e => ?_⟩
  · have := congrArg Ls e
    rw [h] at this
    have q : Ls (⟨#[c]⟩ : Str) = [c] := rfl
    rw [q] at this
    simpa using this
  · subst e
    exact str_ext (by rw [h])
theorem sb_one {z : Str} {e d : Nat} {w : Str} (h : Ls w = [d]) : decide (sb z e (e + 1) = w) = decide ((Ls z)[e]? = some d) := by
  have e0 : Ls (sb z e (e + 1)) = ((Ls z).drop e).take 1 := by rw [ls_sb, show e + 1 - e = 1 by omega]
  refine decide_eq_decide.mpr ⟨fun q => ?_, fun q => ?_⟩
  · rw [q, h] at e0
    have : (((Ls z).drop e).take 1)[0]? = some d := by rw [← e0]; rfl
    rw [List.getElem?_take_of_lt (by decide), List.getElem?_drop] at this
    simpa using this
  · refine str_ext ?_
    rw [e0, h]
    have hl := (List.getElem?_eq_some_iff.mp q).1
    rw [List.drop_eq_getElem_cons hl, (List.getElem?_eq_some_iff.mp q).2]; rfl
theorem fig_in {ah : AH} {c : Nat} : inF ah (sg c) (.str "0123456789") = some (.bl (dig c)) := by
  have e : inB ah (sg c) (.str "0123456789") = some (decide (c ∈ ("0123456789" : Str).cps.toList)) := rfl
  unfold inF
  rw [e, Option.map_some]
  congr 2
  refine decide_eq_decide.mpr ⟨fun h => ?_, fun ⟨h1, h2⟩ => ?_⟩
  · have q : ("0123456789" : Str).cps.toList.all (fun c => decide (48 ≤ c ∧ c ≤ 57)) = true := by decide +kernel
    exact of_decide_eq_true (List.all_eq_true.mp q c h)
  · have q : (List.range 10).all (fun i => decide ((48 + i) ∈ ("0123456789" : Str).cps.toList)) = true := by decide +kernel
    have := of_decide_eq_true (List.all_eq_true.mp q (c - 48) (List.mem_range.mpr (by omega)))
    rwa [show 48 + (c - 48) = c by omega] at this
theorem asBls_map {α : Type} {f : α → Bool} : ∀ l : List α, asBls (l.map fun c => AV.bl (f c)) = some (l.map f)
  | [] => rfl
  | c :: l => by simp only [List.map_cons, asBls, asBls_map l, Option.map_some]
theorem int_dig {ah : AH} {w : Str} (h : (Ls w).all dig = true) (h1 : Ls w ≠ []) (h2 : w.length ≤ 640) : biF .int ah [.str w] = some (.int (digitsVal (Ls w) : Nat)) := by
  show (PySem.intText? w).bind (fun n => if w.length ≤ 640 then some (AV.int n) else none) = _
  rw [intText_digits (fun c hc => of_decide_eq_true (List.all_eq_true.mp h c hc)) h1 (by omega), Option.bind_some, if_pos h2]
theorem colon : Ls ":" = [58] := by decide +kernel
theorem semi : Ls ";" = [59] := by decide +kernel
theorem dv_le {l : List Nat} (h : l.all dig = true) (hl : l.length = 5) : digitsVal l ≤ 99999 := by
  match l, hl with
  | [a, b, c, d, e], _ =>
    simp only [List.all_cons, List.all_nil, Bool.and_true, Bool.and_eq_true, dig, decide_eq_true_eq] at h
    simp only [digitsVal, List.foldl]
    omega
theorem f_end {ds : List Df} (D : Frm ds) {k : Nat} {z : Str} {i : Nat} {ah : AH} (T : Tx z) : Yes (cl ds (k + 1) "frame_end" [.str z, .int i] ah) fun v ah' => v = (match en z i with | some e => .int (e : Nat) | none => .non) ∧ ah' = ah := by
  have hl := T.len
  obtain ⟨dt, ft, hN, ht⟩ := D.g_frame_end
  rw [cl_eq ft]
  simp only [semD, hN, ht, q_frame_end]
  walk_at "ko_ev_K10w"
  simp only [show startA ["text", "start", "head", "signs", "end", "sign"] [.str z, .int i] = [some (.str z), some (.int i), none, none, none, none] from rfl]
  walk_at "ko_li_K10w"
  walk_at "ko_ar_K10w"
  refine ⟨_, rfl, (i : Int) + 6, rfl, ?_⟩
  rw [slc_s, show ((i : Int) + 6) = ((i + 6 : Nat) : Int) by omega, cut_sb (by omega)]
  walk_at "ko_ar_K10w"
  refine ⟨by rw [sz]; omega, ?_⟩
  rw [len_s]
  walk_at "ko_ar_K10w"
  have hh : Ls (sb z i (i + 6)) = ((Ls z).drop i).take 6 := by rw [ls_sb, show i + 6 - i = 6 by omega]
  have hle := sb_len (z := z) (a := i) (b := i + 6) hl
  have hn : (sb z i (i + 6)).length = (((Ls z).drop i).take 6).length := by rw [len_ls, hh]
  refine ⟨by rw [sz]; omega, ?_⟩
  by_cases g1 : (((Ls z).drop i).take 6).length < 6
  · rw [if_pos (decide_eq_true (by omega)), if_pos trivial]
    walk_at "ko_ev_K10w"
    refine ⟨?_, by first | rfl | trivial⟩
    unfold en
    simp only
    rw [if_neg (by omega)]
  rw [if_neg (by simp; omega)]
  have h6 : (((Ls z).drop i).take 6).length = 6 := by
    have := List.length_take_le 6 ((Ls z).drop i)
    omega
  obtain ⟨a, hd⟩ : ∃ a, (((Ls z).drop i).take 6)[5]? = some a := ⟨_, List.getElem?_eq_getElem (by omega)⟩
  refine ⟨_, ix_s (k := 5) (by rw [hh]; exact hd) hle, ?_⟩
  rw [ne_ss, one_c colon]
  walk_at "ko_ar_K10w"
  by_cases g2 : a = 58
  case neg =>
    rw [if_pos (by simp [g2]), if_pos trivial]
    walk_at "ko_ev_K10w"
    refine ⟨?_, by first | rfl | trivial⟩
    unfold en
    simp only
    rw [if_neg (by rw [hd]; simp [g2])]
  subst g2
  rw [if_neg (by simp)]
  refine ⟨5, rfl, ?_⟩
  rw [slc_s, show (5 : Int) = ((5 : Nat) : Int) from rfl, cut_pre]
  walk_at "ko_ar_K10w"
  refine ⟨by rw [sz]; omega, ?_⟩
  rw [src_s]
  walk_at "ko_ar_K10w"
  have h5 : Ls (sb (sb z i (i + 6)) 0 5) = (((Ls z).drop i).take 6).take 5 := by rw [ls_sb, hh]; rfl
  have h5l : (Ls (sb (sb z i (i + 6)) 0 5)).length = 5 := by rw [h5, List.length_take, h6]; rfl
  have hpl : (Ls (sb (sb z i (i + 6)) 0 5)).length ≤ 100000 := by omega
  refine (comp_map (f := fun c => .bl (dig c)) hpl (fun c hc => ?_)).imp fun v ah1 ⟨e1, e2⟩ => ?_
  · rw [y_f2, y_v]
    show Yes (cF _ _ _) _
    rw [y_c, cmp_in, fig_in, ex_some]
    exact ⟨rfl, rfl⟩
  subst e1 e2
  have hall : ∀ ah, biF BI.all ah [.lst ((Ls (sb (sb z i (i + 6)) 0 5)).map fun c => .bl (dig c))] = some (.bl ((Ls (sb (sb z i (i + 6)) 0 5)).all dig)) := fun ah => by
    show (some _).bind (fun xs => (asBls xs).map fun ns => AV.bl (ns.all id)) = _
    rw [Option.bind_some, asBls_map, Option.map_some, List.all_map]; rfl
  rw [hall]
  walk_at "ko_ar_K10w"
  by_cases g3 : (Ls (sb (sb z i (i + 6)) 0 5)).all dig = true
  case neg =>
    have g3' : (Ls (sb (sb z i (i + 6)) 0 5)).all dig = false := by simpa using g3
    rw [g3', if_pos (by decide)]
    walk_at "ko_ev_K10w"
    refine ⟨?_, by first | rfl | trivial⟩
    unfold en
    simp only
    rw [if_neg]
    rintro ⟨_, _, q, _⟩
    rw [h5] at g3
    exact g3 q
  rw [g3, if_neg (by decide)]
  walk_at "ko_ev_K10w"
  walk_at "ko_li_K10w"
  refine ⟨5, rfl, ?_⟩
  rw [slc_s, show (5 : Int) = ((5 : Nat) : Int) from rfl, cut_pre]
  walk_at "ko_ar_K10w"
  refine ⟨by rw [sz]; omega, ?_⟩
  rw [int_dig g3 (by intro q; rw [q] at h5l; simp at h5l) (by rw [len_ls]; omega)]
  try walk_at "ko_ar_K10w"
  try walk_at "ko_li_K10w"
  try walk_at "ko_ar_K10w"
  have hdv := dv_le g3 h5l
  have hen : en z i = if digitsVal (Ls (sb (sb z i (i + 6)) 0 5)) ≤ 80000 then (if (Ls z)[i + 6 + digitsVal (Ls (sb (sb z i (i + 6)) 0 5))]? = some 59 then some (i + 6 + digitsVal (Ls (sb (sb z i (i + 6)) 0 5)) + 1) else none) else none := by
    unfold en
    simp only
    by_cases q : digitsVal (Ls (sb (sb z i (i + 6)) 0 5)) ≤ 80000
    · rw [if_pos ⟨h6, hd, by rw [← h5]; exact g3, by rw [← h5]; exact q⟩, if_pos q, h5]
    · rw [if_neg (fun z => q (by rw [h5]; exact z.2.2.2)), if_neg q]
  generalize digitsVal (Ls (sb (sb z i (i + 6)) 0 5)) = d at hdv hen ⊢
  by_cases g4 : (80000 : Int) < d
  · rw [if_pos (decide_eq_true g4), if_pos trivial]
    walk_at "ko_ev_K10w"
    refine ⟨?_, by first | rfl | trivial⟩
    rw [hen, if_neg (by omega)]
  rw [if_neg (by simpa using g4)]
  refine ⟨_, rfl, (i : Int) + 6 + d + 1, rfl, ?_⟩
  rw [slc_s, show ((i : Int) + 6 + d) = ((i + 6 + d : Nat) : Int) by omega, show (((i + 6 + d : Nat) : Int) + 1) = ((i + 6 + d + 1 : Nat) : Int) by omega, cut_sb (by omega)]
  try walk_at "ko_ar_K10w"
  refine ⟨by rw [sz]; omega, ?_⟩
  rw [ne_ss, sb_one semi]
  try walk_at "ko_ar_K10w"
  by_cases g5 : (Ls z)[i + 6 + d]? = some 59
  · rw [if_neg (by rw [decide_eq_true g5]; decide)]
    walk_at "ko_ev_K10w"
    walk_at "ko_li_K10w"
    walk_at "ko_ar_K10w"
    rw [hen, if_pos (by omega), if_pos g5]
    exact ⟨by simp, by first | rfl | trivial⟩
  · rw [if_pos (by rw [decide_eq_false g5]; rfl)]
    walk_at "ko_ev_K10w"
    refine ⟨?_, by first | rfl | trivial⟩
    rw [hen, if_pos (by omega), if_neg g5]
theorem asc : ∀ c, c < 128 → Unicode.isPrintable c = decide (32 ≤ c ∧ c ≤ 126) := by
  have h : (List.range 128).all (fun c => decide (Unicode.isPrintable c = decide (32 ≤ c ∧ c ≤ 126))) = true := by decide +kernel
  exact fun c hc => of_decide_eq_true (List.all_eq_true.mp h c (List.mem_range.mpr hc))
theorem sg_ok {z : Str} (h : ∀ c ∈ Ls z, 32 ≤ c ∧ c ≤ 126) : Txt.isascii z = true ∧ Txt.isprintable z = true := by
  have a : ∀ p : Nat → Bool, z.cps.all p = z.cps.toList.all p := fun p => by simp
  unfold Txt.isascii Txt.isprintable
  rw [a, a]
  refine ⟨List.all_eq_true.mpr fun c hc => decide_eq_true (by have := h c hc; omega), List.all_eq_true.mpr fun c hc => ?_⟩
  rw [asc c (by have := h c hc; omega)]
  exact decide_eq_true (h c hc)
theorem w_signs {ds : List Df} (D : Frm ds) {k : Nat} {z : Str} {ah : AH} (h : ∀ c ∈ Ls z, 32 ≤ c ∧ c ≤ 126) : Yes (cl ds (k + 1) "is_signs" [.str z] ah) fun v ah' => v = .bl true ∧ ah' = ah := by
  obtain ⟨h1, h2⟩ := sg_ok h
  obtain ⟨dt, ft, hN, ht⟩ := D.g_is_signs
  rw [cl_eq ft]
  simp only [semD, hN, ht, q_is_signs]
  walk_at "ko_ev_K10w"
  simp only [show startA ["value"] [.str z] = [some (.str z)] from rfl]
  walk_at "ko_li_K10w"
  refine ⟨"str", rfl, true, rfl, ?_⟩
  rw [if_pos rfl]
  refine ⟨rfl, _, rfl, Txt.isascii z, rfl, ?_⟩
  rw [h1, if_pos rfl]
  exact ⟨rfl, _, rfl, by rw [h2], by first | rfl | trivial⟩
def txo (l : List Str) : AO := .lst (l.map .str)
theorem set_last {ah : AH} {a b : AO} : (ah ++ [a]).set ah.length b = ah ++ [b] := by simp
theorem get_last {ah : AH} {a : AO} : (ah ++ [a])[ah.length]? = some a := by simp
def enA (z : Str) (i : Nat) : AV := match en z i with | some e => .int (e : Nat) | none => .non
theorem app_last {ah : AH} {l : List Str} {w : Str} (h : l.length ≤ 100000) : lstApp (ah ++ [txo l]) (.ref ah.length) (.str w) = some (ah ++ [txo (l ++ [w])]) := by
  unfold lstApp txo
  simp only [get_last]
  rw [if_pos (by rw [List.length_map, sz]; omega), set_last, List.map_append]; rfl
theorem is_last {ah : AH} {l : List Str} : isLstR (ah ++ [txo l]) (.ref ah.length) = true := by
  unfold isLstR txo
  simp only [get_last]
theorem y_app {o a : Rho → AH → Ot AV} {ρ : Rho} {ah : AH} {P : AV → AH → Prop} : Yes (appF o a ρ ah) P ↔ Yes (o ρ ah) fun x ah1 => isLstR ah1 x = true ∧ Yes (a ρ ah1) fun y ah2 => ∃ ah3, lstApp ah2 x y = some ah3 ∧ P .non ah3 := by
  unfold appF; simp only [Yes.bind]
  constructor <;> intro h <;> refine h.imp fun x ah q => ?_
  · split at q
    · rename_i z
      refine ⟨z, ?_⟩
      simp only [Yes.bind] at q
      refine q.imp fun y ah2 q => ?_
      cases e : lstApp ah2 x y with
      | none => rw [e] at q; exact q.elim
      | some d => rw [e] at q; exact ⟨_, rfl, q⟩
    · exact q.elim
  · rw [if_pos q.1]
    simp only [Yes.bind]
    refine q.2.imp fun y ah2 q => ?_
    obtain ⟨d, e, q⟩ := q
    rw [e]; exact q
def fC : Rho → AH → Ot Bool := bF (f2 (cmpF CmpOp.IsNot) (vF 3) (cF AV.non))
def fB (ds : List Df) (k : Nat) : Rho → AH → SR := seqF (expF (appF (vF 1) (slcF (vF 0) (pSome (f2 (binF Operator.Add) (vF 2) (cF (AV.int 6)))) (pSome (f2 (binF Operator.Sub) (vF 3) (cF (AV.int 1)))))))
  (seqF (asgF (TP.nm 2) (vF 3)) (seqF (asgF (TP.nm 3) (callF (cl ds (k + 1) "frame_end") (arD ds "frame_end") (aCons (vF 0) (aCons (vF 2) aNil)))) nilF))
theorem fin_loop {ds : List Df} (D : Frm ds) {k : Nat} {z : Str} {ah : AH} {R : AV → AH → Prop} (T : Tx z) : ∀ (f i : Nat) (acc : List Str), i ≤ z.length → z.length < i + 7 * f → acc.length + f ≤ 50000 →
    YesS (whV fC (fB ds k) f [some (.str z), some (.ref ah.length), some (.int (i : Nat)), some (enA z i)] (ah ++ [txo acc])) (fun ρ ah' => (∃ x, ρ = [some (.str z), some (.ref ah.length), some (.int ((rd z f i).2 : Nat)), x]) ∧ ah' = ah ++ [txo (acc ++ (rd z f i).1)]) R
  | 0, i, acc, h1, h2, h3 => by omega
  | f + 1, i, acc, h1, h2, h3 => by
    have hl := T.len
    refine wh_ok ?_
    unfold fC
    rw [y_bF, y_f2, y_v]
    show Yes (cF _ _ _) _
    rw [y_c]
    cases e : en z i with
    | none =>
      refine ⟨.bl false, ?_, false, rfl, ?_⟩
      · show isNotF (ah ++ [txo acc]) (enA z i) .non = _
        unfold enA; rw [e]; rfl
      · rw [if_neg Bool.false_ne_true]
        unfold rd
        rw [e]
        exact ⟨⟨_, rfl⟩, by rw [List.append_nil]⟩
    | some e' =>
      have hle := en_le e
      have hv : enA z i = .int (e' : Nat) := by unfold enA; rw [e]
      refine ⟨.bl true, ?_, true, rfl, ?_⟩
      · show isNotF (ah ++ [txo acc]) (enA z i) .non = _
        rw [hv]; rfl
      · rw [if_pos rfl, hv]
        unfold fB
        walk_at "ko_ev_K10w"
        simp only [y_app]
        walk_at "ko_li_K10w"
        walk_at "ko_ev_K10w"
        walk_at "ko_li_K10w"
        refine ⟨is_last, ?_⟩
        walk_at "ko_ar_K10w"
        refine ⟨_, rfl, (e' : Int) - 1, rfl, ?_⟩
        rw [slc_s, show ((i : Int) + 6) = ((i + 6 : Nat) : Int) by omega, show ((e' : Int) - 1) = ((e' - 1 : Nat) : Int) by omega, cut_sb (by omega)]
        walk_at "ko_ar_K10w"
        refine ⟨by rw [sz]; omega, _, app_last (by omega), D.a_frame_end.symm, (f_end D T).imp fun v ah2 ⟨q1, q2⟩ => ?_⟩
        subst q2
        have := fin_loop D (k := k) (ah := ah) (R := R) T f e' (acc ++ [sb z (i + 6) (e' - 1)]) hle.2 (by omega) (by rw [List.length_append, List.length_singleton]; omega)
        rw [show v = enA z e' from q1]
        refine this.imp (fun ρ ah' q => ?_) fun _ _ q => q
        unfold rd
        rw [e]
        dsimp only
        rw [List.append_assoc] at q
        exact q
theorem w_fin {ds : List Df} (D : Frm ds) {k : Nat} {z : Str} {ah : AH} (T : Tx z) : Yes (cl ds (k + 2) "frames_in" [.str z] ah) fun v ah' => v = .tup [.ref ah.length, .int ((rd z 30000 0).2 : Nat)] ∧ ah' = ah ++ [txo (rd z 30000 0).1] := by
  have hl := T.len
  obtain ⟨dt, ft, hN, ht⟩ := D.g_frames_in
  rw [cl_eq ft]
  simp only [semD, hN, ht, q_frames_in]
  walk_at "ko_ev_K10w"
  simp only [show startA ["text", "texts", "start", "end"] [.str z] = [some (.str z), none, none, none] from rfl]
  walk_at "ko_li_K10w"
  refine ⟨D.a_is_signs.symm, (w_signs D T.ch).imp fun v ah1 ⟨e1, e2⟩ => ?_⟩
  subst e1 e2
  simp only [tru_b, ex_some]
  rw [if_neg (by decide)]
  walk_at "ko_ev_K10w"
  walk_at "ko_li_K10w"
  refine ⟨by show 0 ≤ sizeLine; rw [sz]; omega, D.a_frame_end.symm, ?_⟩
  refine (f_end D (i := 0) T).imp fun v ah2 ⟨e1, e2⟩ => ?_
  subst e1 e2
  try walk_at "ko_li_K10w"
  refine (fin_loop D (k := k) (ah := ah1) T 30000 0 [] (Nat.zero_le _) (by omega) (by simp)).imp (fun ρ ah' ⟨⟨x, e1⟩, e2⟩ => ?_) fun _ _ q => q
  subst e1 e2
  walk_at "ko_li_K10w"
  refine ⟨by show 2 ≤ sizeLine; decide, by first | rfl | trivial, by rw [List.nil_append]⟩
theorem sets_ok {z : Str} (T : Tx z) : ∀ (f i : Nat) (w : Str), w ∈ (rd z f i).1 → Tx w
  | 0, i, w, h => by simp [rd] at h
  | f + 1, i, w, h => by
    unfold rd at h
    cases e : en z i with
    | none => rw [e] at h; simp at h
    | some e' =>
      rw [e] at h
      rcases List.mem_cons.mp h with rfl | h
      · refine ⟨fun c hc => ?_, sb_len T.len⟩
        rw [ls_sb] at hc
        exact T.ch c (List.mem_of_mem_drop (List.mem_of_mem_take hc))
      · exact sets_ok T f e' w h
theorem w_whole {ds : List Df} (D : Frm ds) {k : Nat} {z : Str} {ah : AH} (T : Tx z) : Yes (cl ds (k + 3) "is_whole" [.str z] ah) fun v ah' => v = .bl (decide ((rd z 30000 0).2 = z.length)) ∧ ∃ o, ah' = ah ++ [o] := by
  have hl := T.len
  obtain ⟨dt, ft, hN, ht⟩ := D.g_is_whole
  rw [cl_eq ft]
  simp only [semD, hN, ht, q_is_whole]
  walk_at "ko_ev_K10w"
  simp only [show startA ["value"] [.str z] = [some (.str z)] from rfl]
  walk_at "ko_li_K10w"
  refine ⟨D.a_is_signs.symm, (w_signs D T.ch).imp fun v ah1 ⟨e1, e2⟩ => ?_⟩
  subst e1 e2
  simp only [tru_b, ex_some]
  rw [if_pos trivial]
  refine ⟨D.a_frames_in.symm, (w_fin D T).imp fun v ah2 ⟨e1, e2⟩ => ?_⟩
  subst e1 e2
  refine ⟨_, rfl, ?_⟩
  rw [len_s]
  walk_at "ko_ar_K10w"
  refine ⟨by rw [sz]; omega, ?_, _, rfl⟩
  congr 1
  exact decide_eq_decide.mpr (by omega)
def dgs (n : Nat) : Str := Str.ofString (toString (n : Int))
theorem dgs_ok {n : Nat} (h : n ≤ 80000) : (∀ c ∈ Ls (dgs n), 48 ≤ c ∧ c ≤ 57) ∧ 1 ≤ (dgs n).length ∧ (dgs n).length ≤ 5 := by
  have e : Ls (dgs n) = (Nat.toDigits 10 n).map Char.toNat := PySem.W.KIN.signs_num n
  refine ⟨fun c hc => ?_, ?_, ?_⟩
  · rw [e] at hc
    obtain ⟨ch, hch, e⟩ := List.mem_map.mp hc
    rw [← e]
    exact PyProof.Rows.digit_range (Nat.isDigit_of_mem_toDigits (by decide) (by decide) hch)
  · rw [len_ls, e, List.length_map]
    exact toDigits_len_ge 10 n
  · exact PyProof.Rows.toString_length_le (v := (n : Int)) (by omega) (by decide) (by omega)
/-- the frame of z -/
def fr (z : Str) : Str := Txt.mul "0" (5 - (dgs z.length).length) ++ dgs z.length ++ ":" ++ z ++ ";"
theorem w_lframe {ds : List Df} (D : Frm ds) {k : Nat} {z : Str} {ah : AH} (T : Fx z) : Yes (cl ds (k + 1) "_law_frame" [.str z] ah) fun v ah' => v = .str (fr z) ∧ ah' = ah := by
  have hl := T.fl
  obtain ⟨d1, d2, d3⟩ := dgs_ok hl
  obtain ⟨dt, ft, hN, ht⟩ := D.g__law_frame
  rw [cl_eq ft]
  simp only [semD, hN, ht, q__law_frame]
  walk_at "ko_ev_K10w"
  simp only [show startA ["row", "count"] [.str z] = [some (.str z), none] from rfl]
  walk_at "ko_li_K10w"
  rw [len_s]
  walk_at "ko_ar_K10w"
  have hst : biF BI.str ah [.int z.length] = some (.str (dgs z.length)) := by
    show (if (z.length : Int).natAbs.log2 < 1920 then some (AV.str (Str.ofString (toString (z.length : Int)))) else none) = _
    rw [if_pos]
    · rfl
    · have := log_lt (i := (z.length : Int)) (k := 200) (by decide) (Nat.lt_of_le_of_lt (by omega : (z.length : Int).natAbs ≤ 80000) (by decide))
      omega
  rw [hst]
  walk_at "ko_ar_K10w"
  rw [len_s]
  walk_at "ko_ar_K10w"
  have l0 : ("0" : Str).length = 1 := by decide
  have lc : (":" : Str).length = 1 := by decide
  have ls : (";" : Str).length = 1 := by decide
  have lm : ((Txt.mul "0" (5 - ((dgs z.length).length : Int))).length : Int) = 5 - ((dgs z.length).length : Int) := len_mul1 l0 (by omega)
  simp only [mul_s, add_ss, ex_ite, Str.length_append]
  rw [l0, lc, ls, sz]
  refine ⟨by omega, by omega, ⟨by omega, by omega, by omega⟩, by omega, by omega, by omega, by omega, ?_, trivial⟩
  rfl
theorem ls_mul0 {n : Int} (h : 0 ≤ n) : Ls (Txt.mul "0" n) = List.replicate n.toNat 48 := by
  have l0 : ("0" : Str).length = 1 := by decide
  have hl : ((Txt.mul "0" n).length : Int) = n := len_mul1 l0 h
  have hc : Chs (fun c => c = 48) (Txt.mul "0" n) := chs_mul fun c hc => by
    rw [show ("0" : Str).cps.toList = [48] from by decide +kernel] at hc
    simpa using hc
  refine List.eq_replicate_iff.mpr ⟨?_, hc⟩
  rw [← len_ls]
  omega
theorem zfill_same {c : Str} (h : ∀ x ∈ Ls c, 48 ≤ x ∧ x ≤ 57) (h1 : 1 ≤ c.length) (h2 : c.length ≤ 5) : Txt.zfill c 5 = Txt.mul "0" (5 - (c.length : Int)) ++ c := by
  refine str_ext ?_
  rw [ls_app, ls_mul0 (by omega)]
  have e : (5 - (c.length : Int)).toNat = 5 - c.length := by omega
  rw [e]
  unfold Txt.zfill
  by_cases g : (5 : Int) ≤ c.length
  · rw [if_pos g, show 5 - c.length = 0 by omega]; rfl
  · rw [if_neg g]
    have h0 : c.cps[0]? = (Ls c)[0]? := by simp
    unfold zfilled
    rw [h0]
    split
    · rename_i q
      have := h _ (List.mem_of_getElem? q)
      omega
    · rename_i q
      have := h _ (List.mem_of_getElem? q)
      omega
    · show (Array.replicate ((5 : Int).toNat - c.length) 48 ++ c.cps ++ Array.replicate 0 48).toList = _
      simp
theorem w_has {ds : List Df} (D : Frm ds) {k : Nat} {z : Str} {ah : AH} (T : Fx z) : Yes (cl ds (k + 2) "has_frame" [.str z] ah) fun v ah' => v = .bl true ∧ ah' = ah := by
  have hl := T.fl
  obtain ⟨dt, ft, hN, ht⟩ := D.g_has_frame
  rw [cl_eq ft]
  simp only [semD, hN, ht, q_has_frame]
  walk_at "ko_ev_K10w"
  simp only [show startA ["value"] [.str z] = [some (.str z)] from rfl]
  walk_at "ko_li_K10w"
  refine ⟨D.a_is_signs.symm, (w_signs D T.toTx.ch).imp fun v ah1 ⟨e1, e2⟩ => ?_⟩
  subst e1 e2
  simp only [tru_b, ex_some]
  rw [if_pos trivial, len_s]
  walk_at "ko_ar_K10w"
  refine ⟨by rw [sz]; omega, ?_, by first | rfl | trivial⟩
  rw [decide_eq_true (by omega)]
theorem w_framed {ds : List Df} (D : Frm ds) {k : Nat} {z : Str} {ah : AH} (T : Fx z) : Yes (cl ds (k + 3) "framed" [.str z] ah) fun v ah' => v = .str (fr z) ∧ ah' = ah := by
  have hl := T.fl
  obtain ⟨d1, d2, d3⟩ := dgs_ok hl
  obtain ⟨dt, ft, hN, ht⟩ := D.g_framed
  rw [cl_eq ft]
  simp only [semD, hN, ht, q_framed]
  walk_at "ko_ev_K10w"
  simp only [show startA ["text"] [.str z] = [some (.str z)] from rfl]
  walk_at "ko_li_K10w"
  refine ⟨D.a_has_frame.symm, (w_has D T).imp fun v ah1 ⟨e1, e2⟩ => ?_⟩
  subst e1 e2
  simp only [tru_b, ex_some]
  rw [if_neg (by decide)]
  walk_at "ko_ev_K10w"
  walk_at "ko_li_K10w"
  rw [len_s]
  walk_at "ko_ar_K10w"
  have hst : ∀ ah, biF BI.str ah [.int z.length] = some (.str (dgs z.length)) := fun ah => by
    show (if (z.length : Int).natAbs.log2 < 1920 then some (AV.str (Str.ofString (toString (z.length : Int)))) else none) = _
    rw [if_pos]
    · rfl
    · have := log_lt (i := (z.length : Int)) (k := 200) (by decide) (Nat.lt_of_le_of_lt (by omega : (z.length : Int).natAbs ≤ 80000) (by decide))
      omega
  rw [hst]
  walk_at "ko_ar_K10w"
  have hz : ∀ ah, miF .zfill ah (.str (dgs z.length)) [.int 5] = some (.str (Txt.zfill (dgs z.length) 5)) := fun ah => by
    show (if PadOk 5 = true then some (AV.str (Txt.zfill (dgs z.length) 5)) else none) = _
    rw [if_pos (by decide)]
  rw [hz, zfill_same d1 d2 d3]
  have l0 : ("0" : Str).length = 1 := by decide
  have lc : (":" : Str).length = 1 := by decide
  have ls : (";" : Str).length = 1 := by decide
  have lm : ((Txt.mul "0" (5 - ((dgs z.length).length : Int))).length : Int) = 5 - ((dgs z.length).length : Int) := len_mul1 l0 (by omega)
  simp only [add_ss, ex_ite, ex_some, Str.length_append]
  rw [lc, ls, sz]
  refine ⟨by omega, rfl, by omega, by omega, by omega, ?_, by first | rfl | trivial⟩
  rfl
/-- a row of texts, whatever holds it -/
structure Row (ah : AH) (a : AV) (zs : List Str) : Prop where
  src : ∃ g, seqSrc ah a = some ⟨zs.map .str, g⟩ ∧ g ah = true
  ty : tyA ah a = some "list" ∨ tyA ah a = some "tuple"
  tx : ∀ z ∈ zs, Fx z
  len : zs.length ≤ 2000
  sm : ((zs.map fr).map (·.length)).sum ≤ 16000000
theorem w_isl {ds : List Df} (D : Frm ds) {k : Nat} {a : AV} {zs : List Str} {ah : AH} (R : Row ah a zs) : Yes (cl ds (k + 1) "is_list" [a] ah) fun v ah' => v = .bl true ∧ ah' = ah := by
  obtain ⟨dt, ft, hN, ht⟩ := D.g_is_list
  rw [cl_eq ft]
  simp only [semD, hN, ht, q_is_list]
  walk_at "ko_ev_K10w"
  simp only [show startA ["value"] [a] = [some a] from rfl]
  walk_at "ko_li_K10w"
  rcases R.ty with h | h <;> exact ⟨_, h, rfl, by first | rfl | trivial⟩
theorem w_check {ds : List Df} (D : Frm ds) {k : Nat} {a : AV} {zs : List Str} {ah : AH} (R : Row ah a zs) : Yes (cl ds (k + 3) "check_texts" [a] ah) fun v ah' => ah' = ah := by
  obtain ⟨g, h1, h2⟩ := R.src
  obtain ⟨dt, ft, hN, ht⟩ := D.g_check_texts
  rw [cl_eq ft]
  simp only [semD, hN, ht, q_check_texts]
  walk_at "ko_ev_K10w"
  simp only [show startA ["texts", "text"] [a] = [some a, none] from rfl]
  walk_at "ko_li_K10w"
  refine ⟨D.a_is_list.symm, (w_isl D R).imp fun v ah1 ⟨e1, e2⟩ => ?_⟩
  subst e1 e2
  simp only [tru_b, ex_some]
  rw [if_neg (by decide)]
  walk_at "ko_ev_K10w"
  walk_at "ko_li_K10w"
  rw [h1]
  walk_at "ko_ar_K10w"
  refine forV_okg' (fun r ρ ah' => ah' = ah1 ∧ (∃ b, ρ = [some a, b]) ∧ ∃ ws, r = ws.map .str ∧ ∀ z ∈ ws, Fx z) (fun _ _ _ h => h.1 ▸ h2) _ _ _ ⟨rfl, ⟨_, rfl⟩, zs, rfl, R.tx⟩ (fun _ _ h => h.1) fun x xs ρ ah' ⟨e0, ⟨b, e⟩, ws, e1, e2⟩ => ?_
  subst e e0
  match ws, e1 with
  | w :: ws, e1 =>
    rw [List.map_cons, List.cons.injEq] at e1
    obtain ⟨rfl, rfl⟩ := e1
    refine ⟨_, rfl, ?_⟩
    walk_at "ko_ev_K10w"
    walk_at "ko_li_K10w"
    refine ⟨D.a_has_frame.symm, (w_has D (e2 w (List.mem_cons_self ..))).imp fun v ah1 ⟨e1, e3⟩ => ?_⟩
    subst e1 e3
    simp only [tru_b, ex_some]
    rw [if_neg (by decide)]
    exact ⟨rfl, ⟨_, rfl⟩, ws, rfl, fun z hz => e2 z (List.mem_cons_of_mem _ hz)⟩
def frs (zs : List Str) : Str := Txt.join "" (zs.map fr)
theorem join_str {ah : AH} {ys : List Str} (h : (ys.map (·.length)).sum ≤ 16777216) : miF .join ah (.str "") [.lst (ys.map .str)] = some (.str (Txt.join "" ys)) := by
  have el : ("" : Str).length = 0 := rfl
  have hs : ∀ ys : List Str, asStrs (ys.map .str) = some ys := fun ys => by
    induction ys with
    | nil => rfl
    | cons y ys ih => simp only [List.map_cons, asStrs, ih, Option.map_some]
  show (some (ys.map AV.str)).bind (fun xs => (asStrs xs).bind fun ys => if (ys.map (·.length)).sum + ys.length * ("" : Str).length ≤ 16777216 then some (AV.str (Txt.join "" ys)) else none) = _
  rw [Option.bind_some, hs, Option.bind_some, if_pos (by rw [el]; omega)]
theorem fr_len {z : Str} (T : Fx z) : (fr z).length = z.length + 7 := by
  have hl := T.fl
  obtain ⟨d1, d2, d3⟩ := dgs_ok hl
  have l0 : ("0" : Str).length = 1 := by decide
  have lc : (":" : Str).length = 1 := by decide
  have ls : (";" : Str).length = 1 := by decide
  have lm : ((Txt.mul "0" (5 - ((dgs z.length).length : Int))).length : Int) = 5 - ((dgs z.length).length : Int) := len_mul1 l0 (by omega)
  unfold fr
  simp only [Str.length_append]
  rw [lc, ls]
  omega
theorem frs_sum : ∀ {zs : List Str}, (∀ z ∈ zs, Fx z) → ((zs.map fr).map (·.length)).sum ≤ zs.length * 80007
  | [], _ => by simp
  | z :: zs, h => by
    have := frs_sum (zs := zs) fun w hw => h w (List.mem_cons_of_mem _ hw)
    have e := fr_len (h z (List.mem_cons_self ..))
    have := (h z (List.mem_cons_self ..)).fl
    simp only [List.map_cons, List.sum_cons, List.length_cons, e]
    omega
theorem w_all {ds : List Df} (D : Frm ds) {k : Nat} {a : AV} {zs : List Str} {ah : AH} (R : Row ah a zs) : Yes (cl ds (k + 4) "all_framed" [a] ah) fun v ah' => v = .str (frs zs) ∧ ah' = ah := by
  obtain ⟨g, h1, h2⟩ := R.src
  obtain ⟨dt, ft, hN, ht⟩ := D.g_all_framed
  rw [cl_eq ft]
  simp only [semD, hN, ht, q_all_framed]
  walk_at "ko_ev_K10w"
  simp only [show startA ["texts", "text"] [a] = [some a, none] from rfl]
  walk_at "ko_li_K10w"
  refine ⟨D.a_check_texts.symm, (w_check D R).imp fun v ah1 e1 => ?_⟩
  subst e1
  refine ⟨rfl, ?_⟩
  rw [h1]
  walk_at "ko_ar_K10w"
  have hlen := R.len
  have hl : zs.length ≤ 100000 := by omega
  refine (comp_mapg (g := AV.str) (f := fun z => .str (fr z)) h2 hl fun z hz => ?_).imp fun v ah2 ⟨e1, e2⟩ => ?_
  · rw [y_call, y_cons, y_v]
    show Yes (aNil _ _) _
    rw [y_nil]
    exact ⟨D.a_framed.symm, w_framed D (R.tx z hz)⟩
  subst e1 e2
  have hm : zs.map (fun z => AV.str (fr z)) = (zs.map fr).map .str := by rw [List.map_map]; rfl
  have hsum := R.sm
  rw [hm, join_str (by omega)]
  exact ⟨_, rfl, rfl, by first | rfl | trivial⟩
end Ko

namespace K10
open PySem L2 Ko NumText
local macro_rules | `(tactic| walk_at "ko_ev_K10b") => `(tactic| simp only [YesS.fin, semD, den, mkE, mkT, mkX, mkS, YesS.seq, YesS.nil, YesS.ret, YesS.ifS, YesS.asg, y_c, y_v, y_f2, y_f1, y_fA, y_nil, y_cons, y_tup, y_lst, y_lstM, y_dic0, y_tF, y_bF, y_tAnd, y_tOr, y_tNot, y_not, y_and, y_or, y_if, y_call, y_kw, y_chain, y_slc, y_pN, y_pS, y_isi, y_ms, y_src, y_rng1, y_comp, y_yes, s_exp, s_par2, s_sub, s_for, ops_call, ops_ar, Yes.ok, nu_isascii, nu_isprintable, nu_isalpha, nu_islower, nu_isdigit, nu_join, nu_count, nu_startswith, nu_endswith, nu_zfill, nu_stripC])
local macro_rules | `(tactic| walk_at "ko_ar_K10b") => `(tactic| simp only [ex_some, ex_ite, bin_add, bin_sub, bin_mul, bin_div, bin_mod, bin_pow, add_ii, sub_ii, mul_ii, div_ii, mod_ii, pow_ii, neg_i, cmp_eq, cmp_ne, cmp_lt, cmp_le, cmp_gt, cmp_ge, cmp_is, cmp_isn, lt_ii, le_ii, gt_ii, ge_ii, eq_ii, ne_ii, tru_b, tru_i, as_b, int_i, abs_i, put_nm, put_tup, put_lst])
local macro_rules | `(tactic| walk_at "ko_li_K10b") => `(tactic| simp only [List.getElem?_cons_zero, List.getElem?_cons_succ, List.set_cons_succ, List.set_cons_zero, putl_nil, putl_cons, put_nm, put_tup, put_lst, Option.bind_some])

theorem drw : Drw ds := ⟨⟨_, rfl, rfl, rfl⟩, ⟨_, rfl, rfl, rfl⟩, ⟨_, rfl, rfl, rfl⟩, rfl⟩
theorem frm : Frm ds := ⟨⟨_, rfl, rfl, rfl⟩, ⟨_, rfl, rfl, rfl⟩, ⟨_, rfl, rfl, rfl⟩, ⟨_, rfl, rfl, rfl⟩, ⟨_, rfl, rfl, rfl⟩, ⟨_, rfl, rfl, rfl⟩, ⟨_, rfl, rfl, rfl⟩, ⟨_, rfl, rfl, rfl⟩, ⟨_, rfl, rfl, rfl⟩, ⟨_, rfl, rfl, rfl⟩, rfl, rfl, rfl, rfl, rfl, rfl, rfl, rfl, rfl, rfl⟩
theorem fd_signs : findD ds "is_signs" = some d_is_signs := by rfl
theorem fd_has : findD ds "has_frame" = some d_has_frame := by rfl
theorem fd_isl : findD ds "is_list" = some d_is_list := by rfl
theorem fd_int : findD ds "is_integer" = some d_is_integer := by rfl
theorem fd_count : findD ds "is_count" = some d_is_count := by rfl
theorem fd_framed : findD ds "framed" = some d_framed := by rfl
theorem fd_check : findD ds "check_texts" = some d_check_texts := by rfl
theorem fd_all : findD ds "all_framed" = some d_all_framed := by rfl
theorem fd_fin : findD ds "frames_in" = some d_frames_in := by rfl
theorem fd_whole : findD ds "is_whole" = some d_is_whole := by rfl
theorem fd_cut : findD ds "cut_at" = some d_cut_at := by rfl
/-- a value that can be judged -/
structure VOk (ah : AH) (v : AV) : Prop where
  ty : ∃ t, tyA ah v = some t
  len : ∀ z, v = .str z → z.length ≤ 200000
def sgB : AV → Bool | .str z => Txt.isascii z && Txt.isprintable z | _ => false
def hfB : AV → Bool | .str z => Txt.isascii z && Txt.isprintable z && decide (z.length ≤ 80000) | _ => false
theorem ty_str {ah : AH} {v : AV} {t : String} (h : tyA ah v = some t) : (∃ z, v = .str z ∧ t = "str") ∨ ((∀ z, v ≠ .str z) ∧ [Ty.str].any (isTy t) = false) := by
  cases v with
  | str z => cases h; exact .inl ⟨z, rfl, rfl⟩
  | ref n =>
    refine .inr ⟨fun z => by simp, ?_⟩
    simp only [tyA] at h
    split at h
    · cases h; rfl
    · cases h; rfl
    · cases h
  | _ => refine .inr ⟨fun z => by simp, ?_⟩; cases h; rfl
theorem v_signs {k : Nat} {v : AV} {ah : AH} (h : VOk ah v) : Yes (cl ds (k + 1) "is_signs" [v] ah) fun r ah' => r = .bl (sgB v) ∧ ah' = ah := by
  obtain ⟨t, ht⟩ := h.ty
  rw [cl_eq fd_signs]
  simp only [d_is_signs, t_is_signs]
  walk_at "ko_ev_K10b"
  simp only [show startA ["value"] [v] = [some v] from rfl]
  walk_at "ko_li_K10b"
  rcases ty_str ht with ⟨z, rfl, rfl⟩ | ⟨h1, h2⟩
  · refine ⟨"str", rfl, true, rfl, ?_⟩
    rw [if_pos rfl]
    refine ⟨rfl, _, rfl, Txt.isascii z, rfl, ?_⟩
    cases e : Txt.isascii z with
    | true =>
      rw [if_pos rfl]
      refine ⟨rfl, _, rfl, ?_, by first | rfl | trivial⟩
      simp only [sgB, e, Bool.true_and]
    | false =>
      rw [if_neg Bool.false_ne_true]
      refine ⟨?_, by first | rfl | trivial⟩
      simp only [sgB, e, Bool.false_and]
  · refine ⟨t, ht, false, by rw [h2]; rfl, ?_⟩
    rw [if_neg Bool.false_ne_true, h2]
    refine ⟨?_, by first | rfl | trivial⟩
    cases v <;> first | rfl | exact absurd rfl (h1 _)
theorem v_has {k : Nat} {v : AV} {ah : AH} (h : VOk ah v) : Yes (cl ds (k + 2) "has_frame" [v] ah) fun r ah' => r = .bl (hfB v) ∧ ah' = ah := by
  rw [cl_eq fd_has]
  simp only [d_has_frame, t_has_frame]
  walk_at "ko_ev_K10b"
  simp only [show startA ["value"] [v] = [some v] from rfl]
  walk_at "ko_li_K10b"
  refine ⟨rfl, (v_signs h).imp fun r ah1 ⟨e1, e2⟩ => ?_⟩
  subst e1 e2
  simp only [tru_b, ex_some]
  cases e : sgB v with
  | false =>
    rw [if_neg Bool.false_ne_true]
    refine ⟨?_, by first | rfl | trivial⟩
    cases v with
    | str z =>
      have e' : (Txt.isascii z && Txt.isprintable z) = false := e
      show AV.bl false = AV.bl (Txt.isascii z && Txt.isprintable z && decide (z.length ≤ 80000))
      rw [e', Bool.false_and]
    | _ => rfl
  | true =>
    rw [if_pos rfl]
    cases v with
    | str z =>
      have hl := h.len z rfl
      rw [len_s, if_pos (by rw [sz]; omega), ex_some, cmp_le, le_ii, ex_some]
      refine ⟨?_, by first | rfl | trivial⟩
      have e' : (Txt.isascii z && Txt.isprintable z) = true := e
      show AV.bl (decide ((z.length : Int) ≤ 80000)) = AV.bl (Txt.isascii z && Txt.isprintable z && decide (z.length ≤ 80000))
      rw [e', Bool.true_and]
      congr 1
      exact decide_eq_decide.mpr (by omega)
    | _ => cases e
def iT (v : AV) : EX := ⟨"InvalidText", [("given", v)]⟩
def iC (v : AV) : EX := ⟨"InvalidCount", [("given", v)]⟩
theorem x_framed {k : Nat} {v : AV} {ah : AH} (h : VOk ah v) (hb : hfB v = false) : cl ds (k + 3) "framed" [v] ah = .ex (iT v) ah := by
  rw [cl_eq fd_framed]
  show SR.fin (seqF (ifS (tNotF (tF (callF (cl ds (k + 2) "has_frame") 1 (aCons (vF 0) aNil)))) (seqF (raiseF "InvalidText" ["given"] (aCons (vF 0) aNil)) nilF) nilF) _ [some v] ah) = _
  rw [sx_if (ah1 := ah) ?_ (sx_raise (ah1 := ah) (xs := [v]) (fs := [("given", v)]) rfl rfl)]
  · rfl
  · walk_at "ko_ev_K10b"
    walk_at "ko_li_K10b"
    refine ⟨rfl, (v_has h).imp fun r ah1 ⟨e1, e2⟩ => ?_⟩
    subst e1 e2
    rw [hb]
    simp only [tru_b, ex_some]
    exact ⟨by first | rfl | trivial, by first | rfl | trivial⟩
theorem x_fin {k : Nat} {v : AV} {ah : AH} (h : VOk ah v) (hb : sgB v = false) : cl ds (k + 2) "frames_in" [v] ah = .ex (iT v) ah := by
  rw [cl_eq fd_fin]
  show SR.fin (seqF (ifS (tNotF (tF (callF (cl ds (k + 1) "is_signs") 1 (aCons (vF 0) aNil)))) (seqF (raiseF "InvalidText" ["given"] (aCons (vF 0) aNil)) nilF) nilF) _ [some v, none, none, none] ah) = _
  rw [sx_if (ah1 := ah) ?_ (sx_raise (ah1 := ah) (xs := [v]) (fs := [("given", v)]) rfl rfl)]
  · rfl
  · walk_at "ko_ev_K10b"
    walk_at "ko_li_K10b"
    refine ⟨rfl, (v_signs h).imp fun r ah1 ⟨e1, e2⟩ => ?_⟩
    subst e1 e2
    rw [hb]
    simp only [tru_b, ex_some]
    exact ⟨by first | rfl | trivial, by first | rfl | trivial⟩
theorem v_whole {k : Nat} {v : AV} {ah : AH} (h : VOk ah v) (hb : sgB v = false) : Yes (cl ds (k + 3) "is_whole" [v] ah) fun r ah' => r = .bl false ∧ ah' = ah := by
  rw [cl_eq fd_whole]
  simp only [d_is_whole, t_is_whole]
  walk_at "ko_ev_K10b"
  simp only [show startA ["value"] [v] = [some v] from rfl]
  walk_at "ko_li_K10b"
  refine ⟨rfl, (v_signs h).imp fun r ah1 ⟨e1, e2⟩ => ?_⟩
  subst e1 e2
  rw [hb]
  simp only [tru_b, ex_some]
  rw [if_neg Bool.false_ne_true]
  exact ⟨by first | rfl | trivial, by first | rfl | trivial⟩
/-- no list and no tuple -/
def isLT (ah : AH) (v : AV) : Bool := match tyA ah v with | some t => [Ty.list, .tuple].any (isTy t) | none => false
theorem v_isl {k : Nat} {v : AV} {ah : AH} (h : VOk ah v) : Yes (cl ds (k + 1) "is_list" [v] ah) fun r ah' => r = .bl (isLT ah v) ∧ ah' = ah := by
  obtain ⟨t, ht⟩ := h.ty
  rw [cl_eq fd_isl]
  simp only [d_is_list, t_is_list]
  walk_at "ko_ev_K10b"
  simp only [show startA ["value"] [v] = [some v] from rfl]
  walk_at "ko_li_K10b"
  refine ⟨t, ht, ?_, by first | rfl | trivial⟩
  unfold isLT
  rw [ht]
/-- what is no list -/
theorem x_noList {k : Nat} {v : AV} {ah : AH} (h : VOk ah v) (hb : isLT ah v = false) : cl ds (k + 2) "check_texts" [v] ah = .ex (iT v) ah := by
  rw [cl_eq fd_check]
  show SR.fin (seqF (ifS (tNotF (tF (callF (cl ds (k + 1) "is_list") 1 (aCons (vF 0) aNil)))) (seqF (raiseF "InvalidText" ["given"] (aCons (vF 0) aNil)) nilF) nilF) _ [some v, none] ah) = _
  rw [sx_if (ah1 := ah) ?_ (sx_raise (ah1 := ah) (xs := [v]) (fs := [("given", v)]) rfl rfl)]
  · rfl
  · walk_at "ko_ev_K10b"
    walk_at "ko_li_K10b"
    refine ⟨rfl, (v_isl h).imp fun r ah1 ⟨e1, e2⟩ => ?_⟩
    subst e1 e2
    rw [hb]
    simp only [tru_b, ex_some]
    exact ⟨by first | rfl | trivial, by first | rfl | trivial⟩
/-- the first wrong thing of a list -/
theorem x_bad {k : Nat} {a v : AV} {gs bs : List AV} {ah : AH} (ty : isLT ah a = true) (va : VOk ah a) (src : seqSrc ah a = some ⟨gs ++ v :: bs, always⟩) (hg : ∀ g ∈ gs, VOk ah g ∧ hfB g = true) (h : VOk ah v) (hb : hfB v = false) :
    cl ds (k + 3) "check_texts" [a] ah = .ex (iT v) ah := by
  rw [cl_eq fd_check]
  show SR.fin (seqF (ifS (tNotF (tF (callF (cl ds (k + 2) "is_list") 1 (aCons (vF 0) aNil)))) (seqF (raiseF "InvalidText" ["given"] (aCons (vF 0) aNil)) nilF) nilF)
    (seqF (forF (.nm 1) (srcF (vF 0)) (seqF (ifS (tNotF (tF (callF (cl ds (k + 2) "has_frame") 1 (aCons (vF 1) aNil)))) (seqF (raiseF "InvalidText" ["given"] (aCons (vF 1) aNil)) nilF) nilF) nilF)) nilF) [some a, none] ah) = _
  rw [sx_skip (ah1 := ah) ?_]
  · have loop : ∀ (gs : List AV) (o : Option AV), (∀ g ∈ gs, VOk ah g ∧ hfB g = true) → forV always (.nm 1) (seqF (ifS (tNotF (tF (callF (cl ds (k + 2) "has_frame") 1 (aCons (vF 1) aNil)))) (seqF (raiseF "InvalidText" ["given"] (aCons (vF 1) aNil)) nilF) nilF) nilF) (gs ++ v :: bs) [some a, o] ah = .ex (iT v) [some a, some v] ah := by
      intro gs
      induction gs with
      | nil =>
        intro o _
        rw [List.nil_append]
        refine fx_stop (ρ1 := [some a, some v]) rfl (sx_if (ah1 := ah) ?_ (sx_raise (ah1 := ah) (xs := [v]) (fs := [("given", v)]) rfl rfl))
        · walk_at "ko_ev_K10b"
          walk_at "ko_li_K10b"
          refine ⟨rfl, (v_has h).imp fun r ah1 ⟨e1, e2⟩ => ?_⟩
          subst e1 e2
          rw [hb]
          simp only [tru_b, ex_some]
          exact ⟨by first | rfl | trivial, by first | rfl | trivial⟩
      | cons g gs ih =>
        intro o hgs
        obtain ⟨h1, h2⟩ := hgs g (List.mem_cons_self ..)
        rw [List.cons_append, fx_go (ρ1 := [some a, some g]) (ρ2 := [some a, some g]) (ah2 := ah) rfl ?_]
        · exact ih (some g) fun z hz => hgs z (List.mem_cons_of_mem _ hz)
        · rw [sx_skip (ah1 := ah) ?_]
          · rfl
          walk_at "ko_ev_K10b"
          walk_at "ko_li_K10b"
          refine ⟨rfl, (v_has h1).imp fun r ah1 ⟨e1, e2⟩ => ?_⟩
          subst e1 e2
          rw [h2]
          simp only [tru_b, ex_some]
          exact ⟨by first | rfl | trivial, by first | rfl | trivial⟩
    rw [sx_for (sr := ⟨gs ++ v :: bs, always⟩) (ah1 := ah) ?_ (loop gs none hg)]
    · rfl
    · show (Ot.of (seqSrc ah a) ah) = _
      rw [src]; rfl
  · walk_at "ko_ev_K10b"
    walk_at "ko_li_K10b"
    refine ⟨rfl, (v_isl va).imp fun r ah1 ⟨e1, e2⟩ => ?_⟩
    subst e1 e2
    rw [ty]
    simp only [tru_b, ex_some]
    exact ⟨by first | rfl | trivial, by first | rfl | trivial⟩
theorem x_all {k : Nat} {a : AV} {x : EX} {ah : AH} (h : cl ds (k + 1) "check_texts" [a] ah = .ex x ah) : cl ds (k + 2) "all_framed" [a] ah = .ex x ah := by
  rw [cl_eq fd_all]
  show SR.fin (seqF (expF (callF (cl ds (k + 1) "check_texts") 1 (aCons (vF 0) aNil))) _ [some a, none] ah) = _
  rw [sx_exp (x := x) (ah1 := ah) (by show cl ds (k + 1) "check_texts" [a] ah = _; exact h)]
  rfl
theorem x_cut {k : Nat} {a s : AV} {x : EX} {ah : AH} (h : cl ds (k + 1) "check_texts" [a] ah = .ex x ah) : cl ds (k + 2) "cut_at" [a, s] ah = .ex x ah := by
  rw [cl_eq fd_cut]
  show SR.fin (seqF (expF (callF (cl ds (k + 1) "check_texts") 1 (aCons (vF 0) aNil))) _ [some a, some s, none, none, none] ah) = _
  rw [sx_exp (x := x) (ah1 := ah) (by show cl ds (k + 1) "check_texts" [a] ah = _; exact h)]
  rfl
end K10

namespace K10
open PySem L2 Ko NumText
local macro_rules | `(tactic| walk_at "ko_ev_K10c") => `(tactic| simp only [YesS.fin, semD, den, mkE, mkT, mkX, mkS, YesS.seq, YesS.nil, YesS.ret, YesS.ifS, YesS.asg, y_c, y_v, y_f2, y_f1, y_fA, y_nil, y_cons, y_tup, y_lst, y_lstM, y_dic0, y_tF, y_bF, y_tAnd, y_tOr, y_tNot, y_not, y_and, y_or, y_if, y_call, y_kw, y_chain, y_slc, y_pN, y_pS, y_isi, y_ms, y_src, y_rng1, y_comp, y_yes, s_exp, s_par2, s_sub, s_for, ops_call, ops_ar, Yes.ok, nu_isascii, nu_isprintable, nu_isalpha, nu_islower, nu_isdigit, nu_join, nu_count, nu_startswith, nu_endswith, nu_zfill, nu_stripC])
local macro_rules | `(tactic| walk_at "ko_ar_K10c") => `(tactic| simp only [ex_some, ex_ite, bin_add, bin_sub, bin_mul, bin_div, bin_mod, bin_pow, add_ii, sub_ii, mul_ii, div_ii, mod_ii, pow_ii, neg_i, cmp_eq, cmp_ne, cmp_lt, cmp_le, cmp_gt, cmp_ge, cmp_is, cmp_isn, lt_ii, le_ii, gt_ii, ge_ii, eq_ii, ne_ii, tru_b, tru_i, as_b, int_i, abs_i, put_nm, put_tup, put_lst])
local macro_rules | `(tactic| walk_at "ko_li_K10c") => `(tactic| simp only [List.getElem?_cons_zero, List.getElem?_cons_succ, List.set_cons_succ, List.set_cons_zero, putl_nil, putl_cons, put_nm, put_tup, put_lst, Option.bind_some])

theorem fd_met : findD ds "_law_met" = some d__law_met := by rfl
theorem sx_ret {a : Rho → AH → Ot AV} {rest : Rho → AH → SR} {x : EX} {ρ : Rho} {ah ah1 : AH} (ha : a ρ ah = .ex x ah1) : seqF (retF a) rest ρ ah = .ex x ρ ah1 := by
  unfold seqF retF
  rw [ha]
  rfl
theorem lst2 {v : AV} {g : Rho → AH → Ot AV} {x : EX} {ρ : Rho} {ah : AH} (h : g ρ ah = .ex x ah) : lstF (aCons (cF v) (aCons g aNil)) ρ ah = .ex x ah := by
  show Ot.bind (Ot.bind (.ok v ah) fun x ah1 => Ot.bind (Ot.bind (g ρ ah1) fun x ah1 => _) _) _ = _
  show Ot.bind (Ot.bind (Ot.bind (g ρ ah) fun x ah1 => _) _) _ = _
  rw [h]
  rfl
def doorC (k d : Nat) (thing more : AV) (ah : AH) : Ot AV := match d with
  | 0 => cl ds (k + 1) "framed" [thing] ah
  | 1 => cl ds (k + 1) "framed" [thing] ah
  | 2 => cl ds (k + 1) "frames_in" [thing] ah
  | 3 => cl ds (k + 1) "frames_in" [thing] ah
  | 4 => cl ds (k + 1) "all_framed" [more] ah
  | 5 => cl ds (k + 1) "all_framed" [more] ah
  | 6 => cl ds (k + 1) "cut_at" [more, .int 5] ah
  | _ => cl ds (k + 1) "cut_at" [more, thing] ah
def metB : T := match t__law_met with | .cons (.sTry b _) _ => b | t => t
def metH : List Hd := match t__law_met with | .cons (.sTry _ h) _ => h | _ => []
theorem met_eq {k : Nat} {d thing more : AV} {ah : AH} : cl ds (k + 2) "_law_met" [d, thing, more] ah = (seqF (tryF ((den (ops ds (k + 1)) metB).x) metH) nilF [some d, some thing, some more, none] ah).fin := by
  rw [cl_eq fd_met]; rfl
theorem met_0 {k : Nat} {thing more : AV} {x : EX} {ah : AH} (h : doorC k 0 thing more ah = .ex x ah) : (den (ops ds (k + 1)) metB).x [some (.int 0), some thing, some more, none] ah = .ex x [some (.int 0), some thing, some more, none] ah := by
  simp only [metB, t__law_met, den, mkX, mkT, mkE, cmp_eq]
  exact sx_if (ah1 := ah) ⟨rfl, rfl⟩ (sx_ret (lst2 h))
theorem met_1 {k : Nat} {thing more : AV} {x : EX} {ah : AH} (h : doorC k 1 thing more ah = .ex x ah) : (den (ops ds (k + 1)) metB).x [some (.int 1), some thing, some more, none] ah = .ex x [some (.int 1), some thing, some more, none] ah := by
  simp only [metB, t__law_met, den, mkX, mkT, mkE, cmp_eq]
  refine Eq.trans (sx_skip (ah1 := ah) (by exact ⟨rfl, rfl⟩)) ?_
  exact sx_if (ah1 := ah) ⟨rfl, rfl⟩ (sx_ret (lst2 h))
theorem met_2 {k : Nat} {thing more : AV} {x : EX} {ah : AH} (h : doorC k 2 thing more ah = .ex x ah) : (den (ops ds (k + 1)) metB).x [some (.int 2), some thing, some more, none] ah = .ex x [some (.int 2), some thing, some more, none] ah := by
  simp only [metB, t__law_met, den, mkX, mkT, mkE, cmp_eq]
  refine Eq.trans (sx_skip (ah1 := ah) (by exact ⟨rfl, rfl⟩)) ?_
  refine Eq.trans (sx_skip (ah1 := ah) (by exact ⟨rfl, rfl⟩)) ?_
  exact sx_if (ah1 := ah) ⟨rfl, rfl⟩ (sx_ret (lst2 h))
theorem met_3 {k : Nat} {thing more : AV} {x : EX} {ah : AH} (h : doorC k 3 thing more ah = .ex x ah) : (den (ops ds (k + 1)) metB).x [some (.int 3), some thing, some more, none] ah = .ex x [some (.int 3), some thing, some more, none] ah := by
  simp only [metB, t__law_met, den, mkX, mkT, mkE, cmp_eq]
  refine Eq.trans (sx_skip (ah1 := ah) (by exact ⟨rfl, rfl⟩)) ?_
  refine Eq.trans (sx_skip (ah1 := ah) (by exact ⟨rfl, rfl⟩)) ?_
  refine Eq.trans (sx_skip (ah1 := ah) (by exact ⟨rfl, rfl⟩)) ?_
  exact sx_if (ah1 := ah) ⟨rfl, rfl⟩ (sx_ret (lst2 h))
theorem met_4 {k : Nat} {thing more : AV} {x : EX} {ah : AH} (h : doorC k 4 thing more ah = .ex x ah) : (den (ops ds (k + 1)) metB).x [some (.int 4), some thing, some more, none] ah = .ex x [some (.int 4), some thing, some more, none] ah := by
  simp only [metB, t__law_met, den, mkX, mkT, mkE, cmp_eq]
  refine Eq.trans (sx_skip (ah1 := ah) (by exact ⟨rfl, rfl⟩)) ?_
  refine Eq.trans (sx_skip (ah1 := ah) (by exact ⟨rfl, rfl⟩)) ?_
  refine Eq.trans (sx_skip (ah1 := ah) (by exact ⟨rfl, rfl⟩)) ?_
  refine Eq.trans (sx_skip (ah1 := ah) (by exact ⟨rfl, rfl⟩)) ?_
  exact sx_if (ah1 := ah) ⟨rfl, rfl⟩ (sx_ret (lst2 h))
theorem met_5 {k : Nat} {thing more : AV} {x : EX} {ah : AH} (h : doorC k 5 thing more ah = .ex x ah) : (den (ops ds (k + 1)) metB).x [some (.int 5), some thing, some more, none] ah = .ex x [some (.int 5), some thing, some more, none] ah := by
  simp only [metB, t__law_met, den, mkX, mkT, mkE, cmp_eq]
  refine Eq.trans (sx_skip (ah1 := ah) (by exact ⟨rfl, rfl⟩)) ?_
  refine Eq.trans (sx_skip (ah1 := ah) (by exact ⟨rfl, rfl⟩)) ?_
  refine Eq.trans (sx_skip (ah1 := ah) (by exact ⟨rfl, rfl⟩)) ?_
  refine Eq.trans (sx_skip (ah1 := ah) (by exact ⟨rfl, rfl⟩)) ?_
  refine Eq.trans (sx_skip (ah1 := ah) (by exact ⟨rfl, rfl⟩)) ?_
  exact sx_if (ah1 := ah) ⟨rfl, rfl⟩ (sx_ret (lst2 h))
theorem met_6 {k : Nat} {thing more : AV} {x : EX} {ah : AH} (h : doorC k 6 thing more ah = .ex x ah) : (den (ops ds (k + 1)) metB).x [some (.int 6), some thing, some more, none] ah = .ex x [some (.int 6), some thing, some more, none] ah := by
  simp only [metB, t__law_met, den, mkX, mkT, mkE, cmp_eq]
  refine Eq.trans (sx_skip (ah1 := ah) (by exact ⟨rfl, rfl⟩)) ?_
  refine Eq.trans (sx_skip (ah1 := ah) (by exact ⟨rfl, rfl⟩)) ?_
  refine Eq.trans (sx_skip (ah1 := ah) (by exact ⟨rfl, rfl⟩)) ?_
  refine Eq.trans (sx_skip (ah1 := ah) (by exact ⟨rfl, rfl⟩)) ?_
  refine Eq.trans (sx_skip (ah1 := ah) (by exact ⟨rfl, rfl⟩)) ?_
  refine Eq.trans (sx_skip (ah1 := ah) (by exact ⟨rfl, rfl⟩)) ?_
  exact sx_if (ah1 := ah) ⟨rfl, rfl⟩ (sx_ret (lst2 h))
theorem met_7 {k : Nat} {thing more : AV} {x : EX} {ah : AH} (h : doorC k 7 thing more ah = .ex x ah) : (den (ops ds (k + 1)) metB).x [some (.int 7), some thing, some more, none] ah = .ex x [some (.int 7), some thing, some more, none] ah := by
  simp only [metB, t__law_met, den, mkX, mkT, mkE, cmp_eq]
  refine Eq.trans (sx_skip (ah1 := ah) (by exact ⟨rfl, rfl⟩)) ?_
  refine Eq.trans (sx_skip (ah1 := ah) (by exact ⟨rfl, rfl⟩)) ?_
  refine Eq.trans (sx_skip (ah1 := ah) (by exact ⟨rfl, rfl⟩)) ?_
  refine Eq.trans (sx_skip (ah1 := ah) (by exact ⟨rfl, rfl⟩)) ?_
  refine Eq.trans (sx_skip (ah1 := ah) (by exact ⟨rfl, rfl⟩)) ?_
  refine Eq.trans (sx_skip (ah1 := ah) (by exact ⟨rfl, rfl⟩)) ?_
  refine Eq.trans (sx_skip (ah1 := ah) (by exact ⟨rfl, rfl⟩)) ?_
  exact sx_ret (lst2 h)

theorem met_x {k d : Nat} {thing more : AV} {x : EX} {ah : AH} (hd : d < 8) (h : doorC k d thing more ah = .ex x ah) : (den (ops ds (k + 1)) metB).x [some (.int d), some thing, some more, none] ah = .ex x [some (.int d), some thing, some more, none] ah := by
  match d, hd with
  | 0, _ => exact met_0 h
  | 1, _ => exact met_1 h
  | 2, _ => exact met_2 h
  | 3, _ => exact met_3 h
  | 4, _ => exact met_4 h
  | 5, _ => exact met_5 h
  | 6, _ => exact met_6 h
  | 7, _ => exact met_7 h
theorem met_T {k d : Nat} {thing more v : AV} {ah : AH} (hd : d < 8) (h : doorC k d thing more ah = .ex (iT v) ah) : cl ds (k + 2) "_law_met" [.int d, thing, more] ah = .ok (.lst [.str "text", v, .bl true, .bl false]) ah := by
  rw [met_eq]
  unfold seqF
  rw [sx_try (met_x hd h)]
  rfl
theorem met_C {k d : Nat} {thing more v : AV} {ah : AH} (hd : d < 8) (h : doorC k d thing more ah = .ex (iC v) ah) : cl ds (k + 2) "_law_met" [.int d, thing, more] ah = .ok (.lst [.str "count", v, .bl true, .bl false]) ah := by
  rw [met_eq]
  unfold seqF
  rw [sx_try (met_x hd h)]
  rfl
end K10

namespace K10
open PySem L2 Ko NumText
local macro_rules | `(tactic| walk_at "ko_ev_K10d") => `(tactic| simp only [YesS.fin, semD, den, mkE, mkT, mkX, mkS, YesS.seq, YesS.nil, YesS.ret, YesS.ifS, YesS.asg, y_c, y_v, y_f2, y_f1, y_fA, y_nil, y_cons, y_tup, y_lst, y_lstM, y_dic0, y_tF, y_bF, y_tAnd, y_tOr, y_tNot, y_not, y_and, y_or, y_if, y_call, y_kw, y_chain, y_slc, y_pN, y_pS, y_isi, y_ms, y_src, y_rng1, y_comp, y_yes, s_exp, s_par2, s_sub, s_for, ops_call, ops_ar, Yes.ok, nu_isascii, nu_isprintable, nu_isalpha, nu_islower, nu_isdigit, nu_join, nu_count, nu_startswith, nu_endswith, nu_zfill, nu_stripC])
local macro_rules | `(tactic| walk_at "ko_ar_K10d") => `(tactic| simp only [ex_some, ex_ite, bin_add, bin_sub, bin_mul, bin_div, bin_mod, bin_pow, add_ii, sub_ii, mul_ii, div_ii, mod_ii, pow_ii, neg_i, cmp_eq, cmp_ne, cmp_lt, cmp_le, cmp_gt, cmp_ge, cmp_is, cmp_isn, lt_ii, le_ii, gt_ii, ge_ii, eq_ii, ne_ii, tru_b, tru_i, as_b, int_i, abs_i, put_nm, put_tup, put_lst])
local macro_rules | `(tactic| walk_at "ko_li_K10d") => `(tactic| simp only [List.getElem?_cons_zero, List.getElem?_cons_succ, List.set_cons_succ, List.set_cons_zero, putl_nil, putl_cons, put_nm, put_tup, put_lst, Option.bind_some])

theorem fd_copy : findD ds "_law_copy" = some d__law_copy := by rfl
theorem fd_ismet : findD ds "_law_is_met" = some d__law_is_met := by rfl
/-- a value that can be shown -/
structure Val (v : AV) : Prop where
  ok : okA v = true
  bk : bkA v ≤ 4000
  dp : dpA v ≤ 5
  len : ∀ z, v = .str z → z.length ≤ 1000
/-- t is passed for v: a list or a dict of its own, or v itself -/
inductive Thg (ah : AH) : AV → AV → Prop
  | non : Thg ah .non .non
  | bl (b : Bool) : Thg ah (.bl b) (.bl b)
  | int (i : Int) : Thg ah (.int i) (.int i)
  | str (z : Str) : Thg ah (.str z) (.str z)
  | tup (xs : List AV) : Thg ah (.tup xs) (.tup xs)
  | lst {n : Nat} {xs : List AV} : ah[n]? = some (.lst xs) → Thg ah (.ref n) (.lst xs)
  | dct {n : Nat} {kvs : List (Key × AV)} : ah[n]? = some (.dct kvs) → Thg ah (.ref n) (.dct kvs)
theorem Thg.dat {ah : AH} {t v : AV} (h : Thg ah t v) (o : okA v = true) : ∃ d, dat v = some d ∧ datH ah t = some d := by
  obtain ⟨d, e, _⟩ := okA_dat o
  refine ⟨d, e, ?_⟩
  cases h with
  | lst h =>
    show datR ah _ = _
    unfold datR
    rw [h]
    exact e
  | dct h =>
    show datR ah _ = _
    unfold datR
    rw [h]
    exact e
  | _ => exact dat_H e
theorem repr_as {ah : AH} {a v : AV} {d : PyData} (h1 : Ko.dat v = some d) (h2 : datH ah a = some d) (ok : okA v = true) (hb : bkA v ≤ 10000) (hd : dpA v ≤ 60) : ∃ z, reprF ah a = some (.str z) := by
  obtain ⟨z, hz⟩ := repr_ok ok hb hd
  refine ⟨z, ?_⟩
  rw [← hz ah]
  unfold reprF
  rw [h2, dat_H h1]
/-- a list of what is told -/
theorem repr_told {ah : AH} {t v : AV} {w : Str} (h : Thg ah t v) (V1 : okA v = true) (V2 : bkA v ≤ 5000) (V3 : dpA v ≤ 6) (hw : w = "text" ∨ w = "count") : ∃ z, biF .repr ah [.lst [.str w, t, .bl true, .bl false]] = some (.str z) := by
  obtain ⟨d, e1, e2⟩ := h.dat V1
  have hok : okA (.str w) = true ∧ bkA (.str w) ≤ 10 := by rcases hw with rfl | rfl <;> exact ⟨by decide +kernel, by decide +kernel⟩
  refine repr_as (v := .lst [.str w, v, .bl true, .bl false]) (d := .list [.str w, d, .bool true, .bool false]) ?_ ?_ ?_ ?_ ?_
  · simp only [Ko.dat, datL, e1, Option.bind_some, Option.map_some]
  · simp only [datH, datHL, e2, Option.bind_some, Option.map_some]
  · simp only [okA, okL, V1, Bool.and_true]
    have := hok.1
    simpa only [okA] using this
  · have := hok.2
    simp only [bkA, bkL] at *
    omega
  · simp only [dpA, dpL]
    omega
theorem ty_refL {ah : AH} {n : Nat} {xs : List AV} (h : ah[n]? = some (.lst xs)) : tyA ah (.ref n) = some "list" := by
  show (match ah[n]? with | some (.lst _) => some "list" | some (.dct _) => some "dict" | _ => none) = _
  rw [h]
theorem ty_refD {ah : AH} {n : Nat} {kvs : List (Key × AV)} (h : ah[n]? = some (.dct kvs)) : tyA ah (.ref n) = some "dict" := by
  show (match ah[n]? with | some (.lst _) => some "list" | some (.dct _) => some "dict" | _ => none) = _
  rw [h]
theorem Thg.ty {ah : AH} {t v : AV} (h : Thg ah t v) : ∃ y, tyA ah t = some y := by
  cases h with
  | lst h => exact ⟨_, ty_refL h⟩
  | dct h => exact ⟨_, ty_refD h⟩
  | _ => exact ⟨_, rfl⟩
theorem Thg.vok {ah : AH} {t v : AV} (h : Thg ah t v) (V : Val v) : VOk ah t := ⟨h.ty, fun z e => by
  subst e
  cases h
  exact Nat.le_trans (V.len _ rfl) (by decide)⟩
theorem s_putD {o i a : Rho → AH → Ot AV} {ρ : Rho} {ah : AH} {N : Rho → AH → Prop} {P : AV → AH → Prop} : YesS (putDF o i a ρ ah) N P ↔ Yes (a ρ ah) fun v ah1 => Yes (o ρ ah1) fun x ah2 => Yes (i ρ ah2) fun y ah3 => ∃ ah4, putDA ah3 x y v = some ah4 ∧ N ρ ah4 := by
  unfold putDF; simp only [YesS.to]
  constructor <;> intro h <;> refine h.imp fun v ah q => q.imp fun x ah q => q.imp fun y ah q => ?_
  · cases e : putDA ah x y v with
    | none => rw [e] at q; exact q.elim
    | some d => rw [e] at q; exact ⟨_, rfl, q⟩
  · obtain ⟨d, e, q⟩ := q
    rw [e]; exact q
theorem putA_ok : ∀ {kvs : List (Key × AV)}, okK kvs = true → okK (putA kvs (.inr "more") (.int 1)) = true ∧ bkK (putA kvs (.inr "more") (.int 1)) ≤ bkK kvs + 20 ∧ dpK (putA kvs (.inr "more") (.int 1)) ≤ dpK kvs := by
  have snoc : ∀ {kvs : List (Key × AV)}, okK kvs = true → okK (kvs ++ [(.inr "more", .int 1)]) = true ∧ bkK (kvs ++ [(.inr "more", .int 1)]) ≤ bkK kvs + 20 ∧ dpK (kvs ++ [(.inr "more", .int 1)]) ≤ dpK kvs := by
    intro kvs
    induction kvs with
    | nil => intro _; exact ⟨by decide +kernel, by decide +kernel, by decide +kernel⟩
    | cons p kvs ih =>
      obtain ⟨k, x⟩ := p
      intro h
      simp only [okK, Bool.and_eq_true] at h
      obtain ⟨h1, h2, h3⟩ := ih h.2
      simp only [List.cons_append, okK, bkK, dpK, h.1.1, h.1.2, h1, Bool.and_self, true_and]
      omega
  have mapd : ∀ {kvs : List (Key × AV)}, okK kvs = true → okK (kvs.map fun kv => if kv.1 = .inr "more" then (kv.1, AV.int 1) else kv) = true ∧ bkK (kvs.map fun kv => if kv.1 = .inr "more" then (kv.1, AV.int 1) else kv) ≤ bkK kvs + 20 ∧ dpK (kvs.map fun kv => if kv.1 = .inr "more" then (kv.1, AV.int 1) else kv) ≤ dpK kvs := by
    intro kvs
    have : ∀ {kvs : List (Key × AV)}, okK kvs = true → okK (kvs.map fun kv => if kv.1 = .inr "more" then (kv.1, AV.int 1) else kv) = true ∧ bkK (kvs.map fun kv => if kv.1 = .inr "more" then (kv.1, AV.int 1) else kv) ≤ bkK kvs ∧ dpK (kvs.map fun kv => if kv.1 = .inr "more" then (kv.1, AV.int 1) else kv) ≤ dpK kvs := by
      intro kvs
      induction kvs with
      | nil => intro _; exact ⟨rfl, Nat.le_refl _, Nat.le_refl _⟩
      | cons p kvs ih =>
        obtain ⟨k, x⟩ := p
        intro h
        simp only [okK, Bool.and_eq_true] at h
        obtain ⟨h1, h2, h3⟩ := ih h.2
        rw [List.map_cons]
        by_cases e : k = .inr "more"
        · rw [if_pos e]
          have i1 : okA (.int 1) = true := by decide +kernel
          have i2 : bkA (.int 1) = 0 := rfl
          have i3 : dpA (.int 1) = 0 := rfl
          simp only [okK, bkK, dpK, h.1.1, h1, i1, i2, i3, Bool.and_self, true_and]
          omega
        · rw [if_neg e]
          simp only [okK, bkK, dpK, h.1.1, h.1.2, h1, Bool.and_self, true_and]
          omega
    intro h
    obtain ⟨a, b, c⟩ := this h
    exact ⟨a, by omega, c⟩
  intro kvs h
  unfold putA
  split
  · exact mapd h
  · exact snoc h
theorem c_is_met {k : Nat} {t v : AV} {w : Str} {ah : AH} (h : Thg ah t v) (V : Val v) (hw : w = "text" ∨ w = "count") : Yes (cl ds (k + 1) "_law_is_met" [.lst [.str w, t, .bl true, .bl false], .str w, t] ah) fun r ah' => r = .bl true ∧ (ah' = ah ∨ ∃ n o, t = .ref n ∧ ah' = ah.set n o) := by
  obtain ⟨z, hz⟩ := repr_told h V.ok (by have := V.bk; omega) (by have := V.dp; omega) hw
  have es : ∀ {ah : AH} {z : Str}, eqF ah (.str z) (.str z) = some (.bl true) := fun {ah z} => by
    show some (AV.bl (decide (z = z))) = _
    rw [decide_eq_true rfl]
  have nes : ∀ {ah : AH} {z : Str}, neF ah (.str z) (.str z) = some (.bl false) := fun {ah z} => by
    show some (AV.bl (!decide (z = z))) = _
    rw [decide_eq_true rfl]; rfl
  rw [cl_eq fd_ismet]
  simp only [d__law_is_met, t__law_is_met]
  walk_at "ko_ev_K10d"
  simp only [show startA ["told", "word", "thing", "due"] [.lst [.str w, t, .bl true, .bl false], .str w, t] = [some (.lst [.str w, t, .bl true, .bl false]), some (.str w), some t, none] from rfl]
  walk_at "ko_li_K10d"
  refine ⟨by show 4 ≤ sizeLine; decide, ?_⟩
  rw [hz]
  simp only [ex_some]
  rw [cmp_ne, nes]
  simp only [ex_some, as_b]
  rw [if_neg (by decide)]
  walk_at "ko_ev_K10d"
  walk_at "ko_li_K10d"
  cases h with
  | lst h =>
    rename_i n xs
    refine ⟨"list", ty_refL h, true, rfl, ?_⟩
    rw [if_pos rfl]
    walk_at "ko_ev_K10d"
    simp only [y_app]
    walk_at "ko_ev_K10d"
    walk_at "ko_li_K10d"
    have hlen : xs.length < sizeLine := by
      have := V.bk
      have hb : ∀ ys : List AV, ys.length ≤ bkL ys := fun ys => by
        induction ys with
        | nil => exact Nat.le_refl _
        | cons y ys ih => simp only [List.length_cons, bkL]; omega
      have := hb xs
      simp only [bkA] at *
      rw [sz]
      omega
    refine ⟨?_, ah.set n (.lst (xs ++ [.str "more"])), ?_, ?_⟩
    · show (match ah[n]? with | some (.lst _) => true | _ => false) = true
      rw [h]
    · show (match ah[n]? with | some (.lst xs) => if xs.length < sizeLine then some (ah.set n (.lst (xs ++ [AV.str "more"]))) else none | _ => none) = _
      rw [h]
      show (if xs.length < sizeLine then _ else _) = _
      rw [if_pos hlen]
    have h' : (ah.set n (.lst (xs ++ [.str "more"])))[n]? = some (.lst (xs ++ [.str "more"])) := List.getElem?_set_self (List.getElem?_eq_some_iff.mp h).1
    have o1 := V.ok
    have o2 := V.bk
    have o3 := V.dp
    simp only [okA, bkA, dpA] at o1 o2 o3
    have m1 : okL [.str "more"] = true := by decide +kernel
    have m2 : bkL [.str "more"] ≤ 10 := by decide +kernel
    have m3 : dpL [.str "more"] = 0 := by decide +kernel
    obtain ⟨z', hz'⟩ := repr_told (w := w) (.lst h') (by simp only [okA, okL_app, o1, m1, Bool.and_self]) (by simp only [bkA, bkL_app]; omega) (by simp only [dpA, dpL_app]; omega) hw
    refine ⟨"list", ty_refL h', false, rfl, ?_⟩
    rw [if_neg (by decide)]
    walk_at "ko_ev_K10d"
    walk_at "ko_li_K10d"
    rw [hz']
    exact ⟨_, rfl, _, rfl, _, by rw [cmp_eq, es], rfl, .inr ⟨n, _, rfl, rfl⟩⟩
  | dct h =>
    rename_i n kvs
    refine ⟨"dict", ty_refD h, false, rfl, ?_⟩
    rw [if_neg (by decide)]
    walk_at "ko_ev_K10d"
    walk_at "ko_li_K10d"
    refine ⟨"dict", ty_refD h, true, rfl, ?_⟩
    rw [if_pos rfl]
    walk_at "ko_ev_K10d"
    rw [s_putD]
    walk_at "ko_ev_K10d"
    walk_at "ko_li_K10d"
    have o1 := V.ok
    have o2 := V.bk
    have o3 := V.dp
    simp only [okA, bkA, dpA] at o1 o2 o3
    have hlen : kvs.length < sizeLine := by
      have hb : ∀ ys : List (Key × AV), ys.length ≤ bkK ys := fun ys => by
        induction ys with
        | nil => exact Nat.le_refl _
        | cons y ys ih => obtain ⟨k, x⟩ := y; simp only [List.length_cons, bkK]; omega
      have := hb kvs
      rw [sz]
      omega
    refine ⟨ah.set n (.dct (putA kvs (.inr "more") (.int 1))), ?_, ?_⟩
    · show (match ah[n]? with | some (.dct kvs) => (keyA (.str "more")).bind fun k => if kvs.length < sizeLine then some (ah.set n (.dct (putA kvs k (.int 1)))) else none | _ => none) = _
      rw [h]
      show (if kvs.length < sizeLine then _ else _) = _
      rw [if_pos hlen]
    have h' : (ah.set n (.dct (putA kvs (.inr "more") (.int 1))))[n]? = some (.dct (putA kvs (.inr "more") (.int 1))) := List.getElem?_set_self (List.getElem?_eq_some_iff.mp h).1
    obtain ⟨q1, q2, q3⟩ := putA_ok o1
    obtain ⟨z', hz'⟩ := repr_told (w := w) (.dct h') (by simp only [okA]; exact q1) (by simp only [bkA]; omega) (by simp only [dpA]; omega) hw
    rw [hz']
    exact ⟨_, rfl, _, rfl, _, by rw [cmp_eq, es], rfl, .inr ⟨n, _, rfl, rfl⟩⟩
  | _ =>
    refine ⟨_, rfl, false, rfl, ?_⟩
    rw [if_neg (by decide)]
    walk_at "ko_ev_K10d"
    walk_at "ko_li_K10d"
    refine ⟨_, rfl, false, rfl, ?_⟩
    rw [if_neg (by decide)]
    walk_at "ko_ev_K10d"
    walk_at "ko_li_K10d"
    rw [hz]
    exact ⟨_, rfl, _, rfl, _, by rw [cmp_eq, es], rfl, .inl (by first | rfl | trivial)⟩
end K10

namespace K10
open PySem L2 Ko NumText
local macro_rules | `(tactic| walk_at "ko_ev_K10e") => `(tactic| simp only [YesS.fin, semD, den, mkE, mkT, mkX, mkS, YesS.seq, YesS.nil, YesS.ret, YesS.ifS, YesS.asg, y_c, y_v, y_f2, y_f1, y_fA, y_nil, y_cons, y_tup, y_lst, y_lstM, y_dic0, y_tF, y_bF, y_tAnd, y_tOr, y_tNot, y_not, y_and, y_or, y_if, y_call, y_kw, y_chain, y_slc, y_pN, y_pS, y_isi, y_ms, y_src, y_rng1, y_comp, y_yes, s_exp, s_par2, s_sub, s_for, ops_call, ops_ar, Yes.ok, nu_isascii, nu_isprintable, nu_isalpha, nu_islower, nu_isdigit, nu_join, nu_count, nu_startswith, nu_endswith, nu_zfill, nu_stripC])
local macro_rules | `(tactic| walk_at "ko_ar_K10e") => `(tactic| simp only [ex_some, ex_ite, bin_add, bin_sub, bin_mul, bin_div, bin_mod, bin_pow, add_ii, sub_ii, mul_ii, div_ii, mod_ii, pow_ii, neg_i, cmp_eq, cmp_ne, cmp_lt, cmp_le, cmp_gt, cmp_ge, cmp_is, cmp_isn, lt_ii, le_ii, gt_ii, ge_ii, eq_ii, ne_ii, tru_b, tru_i, as_b, int_i, abs_i, put_nm, put_tup, put_lst])
local macro_rules | `(tactic| walk_at "ko_li_K10e") => `(tactic| simp only [List.getElem?_cons_zero, List.getElem?_cons_succ, List.set_cons_succ, List.set_cons_zero, putl_nil, putl_cons, put_nm, put_tup, put_lst, Option.bind_some])

theorem y_lstC {a : Rho → AH → Ot AV} {ρ : Rho} {ah : AH} {P : AV → AH → Prop} : Yes (lstMF a ρ ah) P ↔ Yes (a ρ ah) fun x ah1 => ∃ xs, seqA ah1 x = some xs ∧ P (.ref ah1.length) (ah1 ++ [.lst xs]) := by
  unfold lstMF; simp only [Yes.bind]
  constructor <;> intro h <;> refine h.imp fun x ah q => ?_
  · cases e : seqA ah x with
    | none => rw [e] at q; exact q.elim
    | some d => rw [e] at q; exact ⟨_, rfl, q⟩
  · obtain ⟨d, e, q⟩ := q
    rw [e]; exact q
theorem y_dicC {a : Rho → AH → Ot AV} {ρ : Rho} {ah : AH} {P : AV → AH → Prop} : Yes (dicMF a ρ ah) P ↔ Yes (a ρ ah) fun x ah1 => ∃ kvs, dictSrc ah1 x = some kvs ∧ P (.ref ah1.length) (ah1 ++ [.dct kvs]) := by
  unfold dicMF; simp only [Yes.bind]
  constructor <;> intro h <;> refine h.imp fun x ah q => ?_
  · cases e : dictSrc ah x with
    | none => rw [e] at q; exact q.elim
    | some d => rw [e] at q; exact ⟨_, rfl, q⟩
  · obtain ⟨d, e, q⟩ := q
    rw [e]; exact q
theorem fd_text : findD ds "_law_text" = some d__law_text := by rfl
theorem fd_bad : findD ds "_law_bad" = some d__law_bad := by rfl
theorem fd_nol : findD ds "_law_no_list" = some d__law_no_list := by rfl
theorem fd_noc : findD ds "_law_no_count" = some d__law_no_count := by rfl
/-- the signs of texts -/
abbrev Sg (c : Nat) : Prop := c = 97 ∨ c = 98 ∨ c = 32 ∨ c = 58 ∨ c = 59 ∨ (48 ≤ c ∧ c ≤ 57) ∨ c = 126
theorem sgs_ok : Chs Sg "ab :;0123456789~" := by
  have h : (Ls "ab :;0123456789~").all (fun c => decide (c = 97 ∨ c = 98 ∨ c = 32 ∨ c = 58 ∨ c = 59 ∨ (48 ≤ c ∧ c ≤ 57) ∨ c = 126)) = true := by decide +kernel
  exact fun c hc => of_decide_eq_true (List.all_eq_true.mp h c hc)
theorem sgs_len : ("ab :;0123456789~" : Str).length = 16 := by decide +kernel
/-- a drawn text -/
structure Tz (z : Str) : Prop where
  ch : ∀ c ∈ Ls z, Sg c
  len : z.length ≤ 6
theorem Tz.fx {z : Str} (h : Tz z) : Fx z := ⟨⟨fun c hc => by have := h.ch c hc; unfold Sg at this; omega, by have := h.len; omega⟩, by have := h.len; omega⟩
theorem c_text {k n : Nat} {F ah : AH} {c : Int} (h : Box F ah n c) (hc : c ≤ 80000) : Yes (cl ds (k + 2) "_law_text" [.ref n] ah) fun v ah' => ∃ z, v = .str z ∧ Tz z ∧ Box F ah' n (c + 7) := by
  rw [cl_eq fd_text]
  simp only [d__law_text, t__law_text]
  walk_at "ko_ev_K10e"
  simp only [show startA ["box", "signs", "turn"] [.ref n] = [some (.ref n), none, none] from rfl]
  walk_at "ko_li_K10e"
  refine ⟨rfl, drw.arity.symm, (take_ok drw h (by omega) (by decide) (by decide)).imp fun y ah2 ⟨j, e, j0, j1, B⟩ => ?_⟩
  subst e
  rw [rng_src j0 (by omega), ex_some]
  have hx : (rngL 0 j.toNat).length ≤ 6 := by rw [rngL_length]; omega
  refine (comp_draw drw (i := 1) (M := 16) (by rw [sgs_len]; rfl) sgs_ok rfl rfl (by decide) (by decide) (by decide) (by decide) (by show (rngL 0 j.toNat).length ≤ 1000; omega) B (by omega)).imp fun v ah3 ⟨ys, e, o, l, B⟩ => ?_
  subst e
  have l' : ys.length = (rngL 0 j.toNat).length := l
  obtain ⟨z, e, h1, h2⟩ := join_ones (ah := ah3) o (by omega)
  exact ⟨_, e, z, rfl, ⟨h1, by omega⟩, B.mono (by show c + 1 + ((rngL 0 j.toNat).length : Int) ≤ c + 7; omega)⟩
/-- a value that no door takes -/
structure BadV (v : AV) : Prop where
  val : Val v
  sg : sgB v = false
  hf : hfB v = false
theorem hf_of_sg {v : AV} (h : sgB v = false) : hfB v = false := by
  cases v with
  | str z =>
    have e' : (Txt.isascii z && Txt.isprintable z) = false := h
    show (Txt.isascii z && Txt.isprintable z && decide (z.length ≤ 80000)) = false
    rw [e', Bool.false_and]
  | _ => rfl
theorem np_of {z : Str} {c : Nat} (hc : c ∈ Ls z) (h : c = 10 ∨ c = 9) : sgB (.str z) = false := by
  have : Txt.isprintable z = false := by
    unfold Txt.isprintable
    rw [show ∀ p : Nat → Bool, z.cps.all p = z.cps.toList.all p from fun p => by simp]
    refine List.all_eq_false.mpr ⟨c, hc, ?_⟩
    rcases h with rfl | rfl <;> decide +kernel
  show (Txt.isascii z && Txt.isprintable z) = false
  rw [this, Bool.and_false]
theorem val_str {z : Str} (h : ∀ c ∈ Ls z, c < 1114112) (hl : z.length ≤ 1000) : Val (.str z) := by
  refine ⟨?_, ?_, ?_, fun w e => by cases e; exact hl⟩
  · simp only [okA]
    exact List.all_eq_true.mpr fun c hc => decide_eq_true (h c hc)
  · have : z.cps.size = z.length := rfl
    simp only [bkA]
    omega
  · simp only [dpA]; omega
theorem cut_le {z : Str} {lo hi : Option Int} : (cutS z lo hi).length ≤ z.length := by
  have e : Ls (cutS z lo hi) = ((Ls z).drop (HT.sIx z.length 0 lo)).take (HT.sIx z.length z.length hi - HT.sIx z.length 0 lo) := by unfold cutS; exact List.toList_toArray ..
  rw [len_ls, e, List.length_take, List.length_drop, ← len_ls]
  omega
/-- a sign put into a text -/
theorem bad_in {z : Str} (T : Tz z) {m : Nat} {s : Int} (hm : m = 10 ∨ m = 9) : BadV (.str (cutS z none (some s) ++ ⟨#[m]⟩ ++ cutS z (some s) none)) := by
  have cut : ∀ lo hi, ∃ a b, Ls (cutS z lo hi) = ((Ls z).drop a).take b := fun lo hi => ⟨_, _, by unfold cutS; exact List.toList_toArray ..⟩
  obtain ⟨a, b, e1⟩ := cut none (some s)
  obtain ⟨a', b', e2⟩ := cut (some s) none
  have hm' : m ∈ Ls (cutS z none (some s) ++ ⟨#[m]⟩ ++ cutS z (some s) none) := by rw [ls_app, ls_app]; simp
  have hT : ∀ c ∈ Ls z, c < 1114112 := fun c hc => by have := T.ch c hc; unfold Sg at this; omega
  have sg := np_of hm' hm
  refine ⟨val_str (fun c hc => ?_) ?_, sg, hf_of_sg sg⟩
  · rw [ls_app, ls_app, List.mem_append, List.mem_append] at hc
    rcases hc with (hc | hc) | hc
    · rw [e1] at hc; exact hT c (List.mem_of_mem_drop (List.mem_of_mem_take hc))
    · simp at hc; omega
    · rw [e2] at hc; exact hT c (List.mem_of_mem_drop (List.mem_of_mem_take hc))
  · have l1 : (cutS z none (some s)).length ≤ 6 := Nat.le_trans (cut_le) T.len
    have l2 : (cutS z (some s) none).length ≤ 6 := Nat.le_trans (cut_le) T.len
    rw [Str.length_append, Str.length_append]
    show _ + 1 + _ ≤ _
    omega
theorem c_bad {k n : Nat} {F ah : AH} {c : Int} (h : Box F ah n c) (hc : c ≤ 70000) : Yes (cl ds (k + 3) "_law_bad" [.ref n] ah) fun v ah' => BadV v ∧ Box F ah' n (c + 9) := by
  rw [cl_eq fd_bad]
  simp only [d__law_bad, t__law_bad]
  walk_at "ko_ev_K10e"
  simp only [show startA ["box", "way", "row", "spot"] [.ref n] = [some (.ref n), none, none, none] from rfl]
  walk_at "ko_li_K10e"
  refine ⟨drw.arity.symm, (take_ok drw h (by omega) (by decide) (by decide)).imp fun y ah2 ⟨way, e, j0, j1, B⟩ => ?_⟩
  subst e
  try walk_at "ko_li_K10e"
  walk_at "ko_ar_K10e"
  by_cases g : way < 4
  · rw [if_pos (decide_eq_true g)]
    try walk_at "ko_ev_K10e"
    try walk_at "ko_li_K10e"
    refine ⟨rfl, (c_text B (by omega)).imp fun y ah3 ⟨z, e, T, B⟩ => ?_⟩
    subst e
    have hl := T.len
    try walk_at "ko_li_K10e"
    rw [len_s, if_pos (by rw [sz]; omega), ex_some]
    try walk_at "ko_ar_K10e"
    refine ⟨drw.arity.symm, (take_ok drw B (by omega) (by omega) (by omega)).imp fun y ah4 ⟨s, e, s0, s1, B⟩ => ?_⟩
    subst e
    try walk_at "ko_li_K10e"
    have hl' : ∀ lo hi, (cutS z lo hi).length ≤ 6 := fun lo hi => Nat.le_trans cut_le hl
    refine ⟨s, rfl, ?_⟩
    rw [slc_s, if_pos (by rw [sz]; omega), ex_some]
    refine ⟨by decide, ?_⟩
    have hm : ∃ m : Nat, (m = 10 ∨ m = 9) ∧ ixF ah4 (.str "\n\t") (.int (way % 2)) = some (.str ⟨#[m]⟩) := by
      have h2 : way % 2 = 0 ∨ way % 2 = 1 := by omega
      rcases h2 with e | e
      · exact ⟨10, .inl rfl, by rw [e]; exact ix_s (k := 0) (by decide +kernel) (by decide +kernel)⟩
      · exact ⟨9, .inr rfl, by rw [e]; exact ix_s (k := 1) (by decide +kernel) (by decide +kernel)⟩
    obtain ⟨m, hm, em⟩ := hm
    have e1 : (⟨#[m]⟩ : Str).length = 1 := rfl
    have q1 := hl' none (some s)
    have q2 := hl' (some s) none
    rw [em, ex_some, add_ss, if_pos (by rw [e1, sz]; omega), ex_some]
    refine ⟨s, rfl, ?_⟩
    rw [slc_s, if_pos (by rw [sz]; omega), ex_some, add_ss, if_pos (by rw [Str.length_append, e1, sz]; omega), ex_some]
    exact ⟨bad_in T hm, B.mono (by omega)⟩
  · rw [if_neg (by simpa using g)]
    try walk_at "ko_ev_K10e"
    try walk_at "ko_li_K10e"
    refine ⟨by show 1 ≤ sizeLine; decide, by show 2 ≤ sizeLine; decide, by show 8 ≤ sizeLine; decide, _, sub_ii, ?_⟩
    obtain ⟨x, hx, e⟩ := atI_in (xs := [AV.non, AV.bl true, AV.bl false, AV.int 0, AV.int 7, AV.lst [AV.str "a"], AV.tup [AV.str "a", AV.str "b"], AV.dct []]) (k := way - 4) (by omega) (by show way - 4 < 8; omega)
    refine ⟨x, e, ?_, B.mono (by omega)⟩
    simp only [List.mem_cons, List.not_mem_nil, or_false] at hx
    rcases hx with rfl | rfl | rfl | rfl | rfl | rfl | rfl | rfl <;> exact ⟨⟨by decide +kernel, by decide +kernel, by decide +kernel, fun z e => by cases e⟩, rfl, rfl⟩
/-- what is no list -/
structure NoL (v : AV) : Prop where
  val : Val v
  nl : ∀ {ah : AH} {t : AV}, Thg ah t v → isLT ah t = false
theorem c_nol {k n : Nat} {F ah : AH} {c : Int} (h : Box F ah n c) (hc : c ≤ 70000) : Yes (cl ds (k + 2) "_law_no_list" [.ref n] ah) fun v ah' => NoL v ∧ Box F ah' n (c + 1) := by
  rw [cl_eq fd_nol]
  simp only [d__law_no_list, t__law_no_list]
  walk_at "ko_ev_K10e"
  simp only [show startA ["box"] [.ref n] = [some (.ref n)] from rfl]
  walk_at "ko_li_K10e"
  refine ⟨by show 8 ≤ sizeLine; decide, drw.arity.symm, (take_ok drw h (by omega) (by decide) (by decide)).imp fun y ah2 ⟨j, e, j0, j1, B⟩ => ?_⟩
  subst e
  obtain ⟨x, hx, e⟩ := atI_in (xs := [AV.non, AV.bl true, AV.int 0, AV.int 12, AV.str "abc", AV.str "", AV.dct [], AV.str "00001:x;"]) (k := j) (by omega) (by show j < 8; omega)
  refine ⟨x, e, ?_, B⟩
  simp only [List.mem_cons, List.not_mem_nil, or_false] at hx
  rcases hx with rfl | rfl | rfl | rfl | rfl | rfl | rfl | rfl
  case inr.inr.inr.inr.inr.inr.inl =>
    refine ⟨⟨by decide +kernel, by decide +kernel, by decide +kernel, fun z e => by cases e⟩, fun {ah t} h => ?_⟩
    cases h with
    | dct h =>
      unfold isLT
      rw [ty_refD h]; rfl
  all_goals exact ⟨⟨by decide +kernel, by decide +kernel, by decide +kernel, fun z e => by cases e <;> decide +kernel⟩, fun {ah t} h => by cases h; rfl⟩
/-- what is no count -/
structure NoC (v : AV) : Prop where
  val : Val v
  nc : ∀ i, v = .int i → i < 0
theorem c_noc {k n : Nat} {F ah : AH} {c : Int} (h : Box F ah n c) (hc : c ≤ 70000) : Yes (cl ds (k + 2) "_law_no_count" [.ref n] ah) fun v ah' => NoC v ∧ Box F ah' n (c + 1) := by
  rw [cl_eq fd_noc]
  simp only [d__law_no_count, t__law_no_count]
  walk_at "ko_ev_K10e"
  simp only [show startA ["box"] [.ref n] = [some (.ref n)] from rfl]
  walk_at "ko_li_K10e"
  walk_at "ko_ar_K10e"
  refine ⟨⟨by decide, by decide, by decide⟩, by show 1 ≤ sizeLine; decide, by show 0 ≤ sizeLine; decide, by show 0 ≤ sizeLine; decide, by show 10 ≤ sizeLine; decide, drw.arity.symm, (take_ok drw h (by omega) (by decide) (by decide)).imp fun y ah2 ⟨j, e, j0, j1, B⟩ => ?_⟩
  subst e
  obtain ⟨x, hx, e⟩ := atI_in (xs := [AV.non, AV.bl true, AV.bl false, AV.int (-1), AV.int (-10 ^ Int.toNat 14), AV.str "3", AV.lst [AV.int 3], AV.lst [], AV.tup [], AV.dct []]) (k := j) (by omega) (by show j < 10; omega)
  refine ⟨x, e, ?_, B⟩
  simp only [List.mem_cons, List.not_mem_nil, or_false] at hx
  rcases hx with rfl | rfl | rfl | rfl | rfl | rfl | rfl | rfl | rfl | rfl <;> exact ⟨⟨by decide +kernel, by decide +kernel, by decide +kernel, fun z e => by cases e <;> decide +kernel⟩, fun i e => by cases e <;> decide +kernel⟩
/-- a value passed: a copy -/
theorem c_copy {k : Nat} {v : AV} {ah : AH} (V : Val v) : Yes (cl ds (k + 1) "_law_copy" [v] ah) fun t ah' => Thg ah' t v ∧ ((t = v ∧ ah' = ah ∧ ∀ ah'', Thg ah'' t v) ∨ (t = .ref ah.length ∧ ∃ o, ah' = ah ++ [o])) := by
  rw [cl_eq fd_copy]
  simp only [d__law_copy, t__law_copy]
  walk_at "ko_ev_K10e"
  simp only [show startA ["thing"] [v] = [some v] from rfl]
  walk_at "ko_li_K10e"
  cases v with
  | ref n => exact absurd V.ok (by simp [okA])
  | lst xs =>
    refine ⟨"list", rfl, true, rfl, ?_⟩
    rw [if_pos rfl]
    walk_at "ko_ev_K10e"
    rw [y_lstC, y_v]
    try walk_at "ko_li_K10e"
    exact ⟨xs, rfl, .lst get_last, .inr ⟨by first | rfl | trivial, _, rfl⟩⟩
  | dct kvs =>
    refine ⟨"dict", rfl, false, rfl, ?_⟩
    rw [if_neg (by decide)]
    walk_at "ko_ev_K10e"
    try walk_at "ko_li_K10e"
    refine ⟨"dict", rfl, true, rfl, ?_⟩
    rw [if_pos rfl]
    rw [y_dicC, y_v]
    try walk_at "ko_li_K10e"
    exact ⟨kvs, rfl, .dct get_last, .inr ⟨by first | rfl | trivial, _, rfl⟩⟩
  | non => exact ⟨_, rfl, false, rfl, by rw [if_neg (by decide)]; walk_at "ko_ev_K10e"; (try walk_at "ko_li_K10e"); exact ⟨_, rfl, false, rfl, by rw [if_neg (by decide)]; exact ⟨.non, .inl ⟨by first | rfl | trivial, by first | rfl | trivial, fun _ => .non⟩⟩⟩⟩
  | bl b => exact ⟨_, rfl, false, rfl, by rw [if_neg (by decide)]; walk_at "ko_ev_K10e"; (try walk_at "ko_li_K10e"); exact ⟨_, rfl, false, rfl, by rw [if_neg (by decide)]; exact ⟨.bl b, .inl ⟨by first | rfl | trivial, by first | rfl | trivial, fun _ => .bl b⟩⟩⟩⟩
  | int b => exact ⟨_, rfl, false, rfl, by rw [if_neg (by decide)]; walk_at "ko_ev_K10e"; (try walk_at "ko_li_K10e"); exact ⟨_, rfl, false, rfl, by rw [if_neg (by decide)]; exact ⟨.int b, .inl ⟨by first | rfl | trivial, by first | rfl | trivial, fun _ => .int b⟩⟩⟩⟩
  | str b => exact ⟨_, rfl, false, rfl, by rw [if_neg (by decide)]; walk_at "ko_ev_K10e"; (try walk_at "ko_li_K10e"); exact ⟨_, rfl, false, rfl, by rw [if_neg (by decide)]; exact ⟨.str b, .inl ⟨by first | rfl | trivial, by first | rfl | trivial, fun _ => .str b⟩⟩⟩⟩
  | tup b => exact ⟨_, rfl, false, rfl, by rw [if_neg (by decide)]; walk_at "ko_ev_K10e"; (try walk_at "ko_li_K10e"); exact ⟨_, rfl, false, rfl, by rw [if_neg (by decide)]; exact ⟨.tup b, .inl ⟨by first | rfl | trivial, by first | rfl | trivial, fun _ => .tup b⟩⟩⟩⟩
end K10

namespace K10
open PySem L2 Ko NumText
local macro_rules | `(tactic| walk_at "ko_ev_K10f") => `(tactic| simp only [YesS.fin, semD, den, mkE, mkT, mkX, mkS, YesS.seq, YesS.nil, YesS.ret, YesS.ifS, YesS.asg, y_c, y_v, y_f2, y_f1, y_fA, y_nil, y_cons, y_tup, y_lst, y_lstM, y_dic0, y_tF, y_bF, y_tAnd, y_tOr, y_tNot, y_not, y_and, y_or, y_if, y_call, y_kw, y_chain, y_slc, y_pN, y_pS, y_isi, y_ms, y_src, y_rng1, y_comp, y_yes, s_exp, s_par2, s_sub, s_for, ops_call, ops_ar, Yes.ok, nu_isascii, nu_isprintable, nu_isalpha, nu_islower, nu_isdigit, nu_join, nu_count, nu_startswith, nu_endswith, nu_zfill, nu_stripC])
local macro_rules | `(tactic| walk_at "ko_ar_K10f") => `(tactic| simp only [ex_some, ex_ite, bin_add, bin_sub, bin_mul, bin_div, bin_mod, bin_pow, add_ii, sub_ii, mul_ii, div_ii, mod_ii, pow_ii, neg_i, cmp_eq, cmp_ne, cmp_lt, cmp_le, cmp_gt, cmp_ge, cmp_is, cmp_isn, lt_ii, le_ii, gt_ii, ge_ii, eq_ii, ne_ii, tru_b, tru_i, as_b, int_i, abs_i, put_nm, put_tup, put_lst])
local macro_rules | `(tactic| walk_at "ko_li_K10f") => `(tactic| simp only [List.getElem?_cons_zero, List.getElem?_cons_succ, List.set_cons_succ, List.set_cons_zero, putl_nil, putl_cons, put_nm, put_tup, put_lst, Option.bind_some])

theorem fd_tref : findD ds "_law_texts_refused" = some d__law_texts_refused := by rfl
theorem fd_lref : findD ds "_law_lists_refused" = some d__law_lists_refused := by rfl
theorem thg_sg {ah : AH} {t v : AV} (h : Thg ah t v) (b : sgB v = false) : sgB t = false := by
  cases h <;> first | exact b | rfl
theorem thg_hf {ah : AH} {t v : AV} (h : Thg ah t v) (b : hfB v = false) : hfB t = false := by
  cases h <;> first | exact b | rfl
theorem Thg.app {ah tl : AH} {t v : AV} (h : Thg ah t v) : Thg (ah ++ tl) t v := by
  cases h with
  | lst h => exact .lst (by rw [List.getElem?_append_left (List.getElem?_eq_some_iff.mp h).1]; exact h)
  | dct h => exact .dct (by rw [List.getElem?_append_left (List.getElem?_eq_some_iff.mp h).1]; exact h)
  | non => exact .non
  | bl b => exact .bl b
  | int b => exact .int b
  | str b => exact .str b
  | tup b => exact .tup b
/-- a door for texts refuses -/
theorem door_bad {k d : Nat} {v t more : AV} {ah : AH} (hd : d < 4) (T : Thg ah t v) (B : BadV v) : cl ds (k + 6) "_law_met" [.int d, t, more] ah = .ok (.lst [.str "text", t, .bl true, .bl false]) ah := by
  refine met_T (k := k + 4) (Nat.lt_of_lt_of_le hd (by decide)) ?_
  have a1 := x_framed (k := k + 2) (T.vok B.val) (thg_hf T B.hf)
  have a2 := x_fin (k := k + 3) (T.vok B.val) (thg_sg T B.sg)
  match d, hd with
  | 0, _ => exact a1
  | 1, _ => exact a1
  | 2, _ => exact a2
  | 3, _ => exact a2
/-- a door for lists refuses -/
theorem door_list {k d : Nat} {t v more : AV} {ah : AH} (hd : 4 ≤ d ∧ d < 8) (h : cl ds (k + 1) "check_texts" [more] ah = .ex (iT v) ah) : cl ds (k + 3) "_law_met" [.int d, t, more] ah = .ok (.lst [.str "text", v, .bl true, .bl false]) ah := by
  refine met_T (k := k + 1) hd.2 ?_
  match d, hd with
  | 4, _ => exact x_all (k := k) h
  | 5, _ => exact x_all (k := k) h
  | 6, _ => exact x_cut (k := k) h
  | 7, _ => exact x_cut (k := k) h
  | 0, h => omega
  | 1, h => omega
  | 2, h => omega
  | 3, h => omega
/-- the copy, the door, what it tells -/
theorem box_thg {F ah ah' : AH} {n : Nat} {c : Int} {v t : AV} (B : Box F ah n c) (h : (t = v ∧ ah' = ah ∧ ∀ ah'', Thg ah'' t v) ∨ (t = .ref ah.length ∧ ∃ o, ah' = ah ++ [o])) : Box ah' ah' n c := by
  rcases h with ⟨_, rfl, _⟩ | ⟨_, o, rfl⟩
  · exact B.here
  · exact B.app
theorem box_met {ah ah1 ah2 : AH} {n : Nat} {c : Int} {v t : AV} (hn : n < ah.length) (B : Box ah1 ah1 n c) (h : (t = v ∧ ah1 = ah ∧ ∀ ah'', Thg ah'' t v) ∨ (t = .ref ah.length ∧ ∃ o, ah1 = ah ++ [o])) (T : ∀ m, v ≠ .ref m) (q : ah2 = ah1 ∨ ∃ m o, t = .ref m ∧ ah2 = ah1.set m o) : Box ah2 ah2 n c := by
  rcases q with rfl | ⟨m, o, e, rfl⟩
  · exact B
  · rcases h with ⟨e1, _, _⟩ | ⟨e1, _⟩
    · rw [← e1] at T
      exact absurd e (T m)
    · rw [e1] at e
      cases e
      exact B.put (by omega)
theorem val_ref {v : AV} (V : Val v) : ∀ m, v ≠ .ref m := fun m e => by
  have := V.ok
  rw [e] at this
  simp [okA] at this
theorem datHL_app {ah : AH} : ∀ {xs ys : List AV}, datHL ah (xs ++ ys) = (datHL ah xs).bind fun a => (datHL ah ys).map (a ++ ·)
  | [], ys => by
    show datHL ah ys = (datHL ah ys).map _
    cases datHL ah ys <;> rfl
  | x :: xs, ys => by
    simp only [List.cons_append, datHL, datHL_app]
    cases datH ah x with
    | none => rfl
    | some d =>
      cases datHL ah xs with
      | none => rfl
      | some e =>
        simp only [Option.bind_some, Option.map_some]
        cases datHL ah ys <;> rfl
theorem datL_app : ∀ {xs ys : List AV}, datL (xs ++ ys) = (datL xs).bind fun a => (datL ys).map (a ++ ·)
  | [], ys => by
    show datL ys = (datL ys).map _
    cases datL ys <;> rfl
  | x :: xs, ys => by
    simp only [List.cons_append, datL, datL_app]
    cases Ko.dat x with
    | none => rfl
    | some d =>
      cases datL xs with
      | none => rfl
      | some e =>
        simp only [Option.bind_some, Option.map_some]
        cases datL ys <;> rfl
/-- it shows like xs' -/
def LL (ah : AH) (xs xs' : List AV) : Prop := ∃ d, datL xs' = some d ∧ datHL ah xs = some d
theorem LL.frz {ah : AH} {xs : List AV} (h : okL xs = true) : LL ah xs xs := by
  obtain ⟨d, e, _⟩ := okL_dat h
  exact ⟨d, e, datL_H e⟩
theorem LL.one {ah : AH} {t v : AV} (h : Thg ah t v) (o : okA v = true) : LL ah [t] [v] := by
  obtain ⟨d, e1, e2⟩ := h.dat o
  exact ⟨[d], by simp only [datL, e1, Option.bind_some, Option.map_some], by simp only [datHL, e2, Option.bind_some, Option.map_some]⟩
theorem LL.cat {ah : AH} {xs xs' ys ys' : List AV} (h : LL ah xs xs') (g : LL ah ys ys') : LL ah (xs ++ ys) (xs' ++ ys') := by
  obtain ⟨d, d1, d2⟩ := h
  obtain ⟨e, e1, e2⟩ := g
  exact ⟨d ++ e, by rw [datL_app, d1, e1]; rfl, by rw [datHL_app, d2, e2]; rfl⟩
theorem repr_LL {ah : AH} {xs xs' : List AV} (h : LL ah xs xs') (o1 : okL xs' = true) (o2 : bkL xs' ≤ 9000) (o3 : dpL xs' ≤ 50) : (∃ z, biF .repr ah [.lst xs] = some (.str z)) ∧ ∃ z, biF .repr ah [.tup xs] = some (.str z) := by
  obtain ⟨d, d1, d2⟩ := h
  refine ⟨repr_as (v := .lst xs') (d := .list d) ?_ ?_ ?_ ?_ ?_, repr_as (v := .tup xs') (d := .tuple d) ?_ ?_ ?_ ?_ ?_⟩
  · simp only [Ko.dat, d1, Option.map_some]
  · simp only [datH, d2, Option.map_some]
  · simpa only [okA] using o1
  · simp only [bkA]; omega
  · simp only [dpA]; omega
  · simp only [Ko.dat, d1, Option.map_some]
  · simp only [datH, d2, Option.map_some]
  · simpa only [okA] using o1
  · simp only [bkA]; omega
  · simp only [dpA]; omega
theorem txts_ok : ∀ {ws : List Str}, (∀ w ∈ ws, Tz w) → okL (ws.map .str) = true ∧ bkL (ws.map .str) ≤ 7 * ws.length ∧ dpL (ws.map .str) = 0
  | [], _ => ⟨rfl, Nat.le_refl _, rfl⟩
  | w :: ws, h => by
    have T := h w (List.mem_cons_self ..)
    obtain ⟨a, b, c⟩ := txts_ok (ws := ws) fun x hx => h x (List.mem_cons_of_mem _ hx)
    have v := val_str (z := w) (fun c hc => by have := T.ch c hc; omega) (by have := T.len; omega)
    have v1 := v.ok
    have l : bkA (.str w) ≤ 6 := T.len
    have l2 : dpA (.str w) = 0 := rfl
    simp only [List.map_cons, okL, bkL, dpL, v1, a, c, l2, List.length_cons, Bool.and_self, true_and]
    omega
theorem rep_ok {v : AV} (V : Val v) : ∀ j, okL (List.replicate j v) = true ∧ bkL (List.replicate j v) ≤ 4001 * j ∧ dpL (List.replicate j v) ≤ 5
  | 0 => ⟨rfl, Nat.le_refl _, Nat.zero_le _⟩
  | j + 1 => by
    obtain ⟨a, b, c⟩ := rep_ok V j
    have v1 := V.ok
    have v2 := V.bk
    have v3 := V.dp
    simp only [List.replicate_succ, okL, bkL, dpL, v1, a, Bool.and_self, true_and]
    omega
theorem rep_flat {x : AV} : ∀ j : Nat, (List.replicate j [x]).flatten = List.replicate j x
  | 0 => rfl
  | j + 1 => by rw [List.replicate_succ, List.flatten_cons, rep_flat j, List.replicate_succ]; rfl
theorem mul_l {ah : AH} {x : AV} {j : Int} (h0 : 0 ≤ j) (h1 : j ≤ 10000) : mulF ah (.lst [x]) (.int j) = some (.lst (List.replicate j.toNat x)) := by
  show (some [x]).bind (fun xs => if -(2 ^ 63) ≤ j ∧ j < 2 ^ 63 ∧ xs.length * j.toNat ≤ sizeLine then some (AV.lst (List.replicate j.toNat xs).flatten) else none) = _
  rw [Option.bind_some, if_pos ⟨by omega, by omega, by rw [sz]; simp; omega⟩, rep_flat]
theorem cut_take {zs : List Str} {m : Nat} (h : m ≤ zs.length) : cutA (zs.map AV.str) none (some (m : Int)) = (zs.take m).map AV.str := by
  unfold cutA
  rw [show HT.sIx (zs.map AV.str).length 0 none = 0 from rfl, HT.sIx_nat, List.drop_zero, List.length_map, Nat.min_eq_left h, Nat.sub_zero, List.map_take]
theorem cut_drop {zs : List Str} {m : Nat} (h : m ≤ zs.length) : cutA (zs.map AV.str) (some (m : Int)) none = (zs.drop m).map AV.str := by
  unfold cutA
  rw [HT.sIx_nat, List.length_map, Nat.min_eq_left h, show HT.sIx zs.length zs.length none = zs.length from rfl, List.map_drop, List.take_of_length_le (by simp)]
theorem slc_l {ah : AH} {xs : List AV} {lo hi : Option Int} : slF ah (.lst xs) lo hi = some (.lst (cutA xs lo hi)) := rfl
/-- the lists of what is told are equal -/
theorem ne4 {ah : AH} {z : Str} (h : ∀ c ∈ Ls z, c < 1114112) : neF ah (.lst [.str "text", .str z, .bl true, .bl false]) (.lst [.str "text", .str z, .bl true, .bl false]) = some (.bl false) := by
  have hz : PyData.strOk z = true := by
    unfold PyData.strOk
    rw [show ∀ p : Nat → Bool, z.cps.all p = z.cps.toList.all p from fun p => by simp]
    exact List.all_eq_true.mpr fun c hc => decide_eq_true (h c hc)
  have ht : PyData.strOk "text" = true := by decide +kernel
  have d : datH ah (.lst [.str "text", .str z, .bl true, .bl false]) = some (.list [.str "text", .str z, .bool true, .bool false]) := rfl
  have s : SeqAt.shaped (.list [.str "text", .str z, .bool true, .bool false]) = true := by
    unfold SeqAt.shaped
    simp only [PyData.canLay0, PyData.canLayAll0, PyData.depth, PyData.depthAll, hz, ht]
    rfl
  show (eqD ah _ _).map (fun c => AV.bl (!c)) = _
  unfold eqD
  rw [d, Option.bind_some, Option.bind_some, if_pos ⟨s, s⟩]
  simp only [PyData.eqv, PyData.eqvAll, Option.map_some]
  simp
/-- a long text with a wrong sign -/
structure LBad (z : Str) : Prop where
  sg : sgB (.str z) = false
  ch : ∀ c ∈ Ls z, c < 1114112
  len : z.length ≤ 20000
theorem lbad {A B : Str} {m : Nat} (hm : m = 10 ∨ m = 9) (hA : ∀ c ∈ Ls A, c < 1114112) (hB : ∀ c ∈ Ls B, c < 1114112) (l : A.length + B.length ≤ 19000) : LBad (A ++ ⟨#[m]⟩ ++ B) := by
  have hm' : m ∈ Ls (A ++ ⟨#[m]⟩ ++ B) := by rw [ls_app, ls_app]; simp
  refine ⟨np_of hm' hm, fun c hc => ?_, ?_⟩
  · rw [ls_app, ls_app, List.mem_append, List.mem_append] at hc
    rcases hc with (hc | hc) | hc
    · exact hA c hc
    · simp at hc; omega
    · exact hB c hc
  · rw [Str.length_append, Str.length_append]
    show _ + 1 + _ ≤ _
    omega
theorem y_rng2 {a b : Rho → AH → Ot AV} {ρ : Rho} {ah : AH} {P : Sr → AH → Prop} : Yes (rngF2 a b ρ ah) P ↔ Yes (a ρ ah) fun x ah1 => Yes (b ρ ah1) fun y ah2 => ∃ c, rngSrc2 x y = some c ∧ P c ah2 := by
  unfold rngF2; simp only [Yes.bind, yes_of]
theorem isn_bb {ah : AH} {a b : Bool} : isNotF ah (.bl a) (.bl b) = some (.bl !decide (a = b)) := rfl
theorem is_bb {ah : AH} {a b : Bool} : isF ah (.bl a) (.bl b) = some (.bl (decide (a = b))) := rfl
theorem fr_sg {z : Str} (F : Fx z) : ∀ c ∈ Ls (fr z), 32 ≤ c ∧ c ≤ 126 := fun c hc => by
  obtain ⟨d1, d2, d3⟩ := dgs_ok F.fl
  unfold fr at hc
  simp only [ls_app, List.mem_append] at hc
  rw [colon, semi, ls_mul0 (by omega)] at hc
  rcases hc with (((hc | hc) | hc) | hc) | hc
  · have := (List.mem_replicate.mp hc).2; omega
  · have := d1 c hc; omega
  · simp at hc; omega
  · exact F.ch c hc
  · simp at hc; omega
theorem okA_ty {ah : AH} {v : AV} (h : okA v = true) : tyA ah v = some (match v with | .non => "NoneType" | .bl _ => "bool" | .int _ => "int" | .str _ => "str" | .tup _ => "tuple" | .lst _ => "list" | .dct _ => "dict" | .ref _ => "") := by
  cases v <;> first | rfl | (simp [okA] at h)
theorem c_tref {k n : Nat} {ah : AH} {c : Int} (B : Box ah ah n c) (hc : c ≤ 60000) : Yes (cl ds (k + 7) "_law_texts_refused" [.ref n] ah) fun v ah' => v = .bl true ∧ Box ah' ah' n (c + 300) := by
  rw [cl_eq fd_tref]
  simp only [d__law_texts_refused, t__law_texts_refused]
  walk_at "ko_ev_K10f"
  simp only [show startA ["box", "bad", "other", "door", "thing", "row", "mark", "spot", "rows", "more", "kept", "told", "turn"] [.ref n] = [some (.ref n), none, none, none, none, none, none, none, none, none, none, none, none] from rfl]
  walk_at "ko_li_K10f"
  refine ⟨rfl, (c_bad B (by omega)).imp fun bad ah1 ⟨V1, B⟩ => ⟨rfl, (c_bad B (by omega)).imp fun other ah2 ⟨V2, B⟩ => ?_⟩⟩
  have B := B.here
  rw [rng_src (by decide) (by decide), ex_some]
  refine forV_ok' (fun r ρ ah => (∀ x ∈ r, ∃ i : Nat, x = .int i ∧ i < 4) ∧ Box ah ah n (c + 9 + 9) ∧ ∃ b3 b4, ρ = [some (.ref n), some bad, some other, b3, b4, none, none, none, none, none, none, none, none]) _ _ _ ⟨fun x hx => ?_, B, _, _, rfl⟩ (fun ρ ah ⟨_, B, b3, b4, e⟩ => ?_) fun x xs ρ ah ⟨h1, B, b3, b4, e⟩ => ?_
  · obtain ⟨i, e, hi⟩ := rng_mem hx
    exact ⟨i, e, hi⟩
  · subst e
    walk_at "ko_li_K10f"
    refine ⟨by show 5 ≤ sizeLine; decide, drw.arity.symm, (take_ok drw B (by omega) (by decide) (by decide)).imp fun y ah2 ⟨j, e, j0, j1, B⟩ => ?_⟩
    subst e
    obtain ⟨x, hx, e⟩ := atI_in (xs := [AV.int 0, AV.int 3, AV.int 8, AV.int 150, AV.int 3000]) (k := j) j0 (by show j < 5; omega)
    have hq : ∃ q : Int, x = .int q ∧ 0 ≤ q ∧ q ≤ 3000 := by
      simp only [List.mem_cons, List.not_mem_nil, or_false] at hx
      rcases hx with rfl | rfl | rfl | rfl | rfl <;> exact ⟨_, rfl, by decide, by decide⟩
    obtain ⟨q, rfl, q0, q1⟩ := hq
    have la : ("a" : Str).length = 1 := by decide +kernel
    have lz : ((Txt.mul "a" q).length : Int) = q := len_mul1 la q0
    have cz : Chs (fun c => c = 97) (Txt.mul "a" q) := chs_mul fun c hc => by
      rw [show ("a" : Str).cps.toList = [97] from by decide +kernel] at hc
      simpa using hc
    refine ⟨_, e, .str (Txt.mul "a" q), by rw [bin_mul, mul_s, if_pos ⟨q0, by rw [la, sz]; omega, by omega⟩], ?_⟩
    have Z : Fx (Txt.mul "a" q) := ⟨⟨fun c hc => by have := cz c hc; omega, by omega⟩, by omega⟩
    generalize Txt.mul "a" q = z at Z lz cz ⊢
    refine ⟨rfl, (w_lframe frm Z).imp fun v ah3 ⟨e1, e2⟩ => ?_⟩
    subst e1 e2
    refine ⟨drw.arity.symm, (take_ok drw B (by omega) (by decide) (by decide)).imp fun y ah4 ⟨j, e, j0, j1, B⟩ => ?_⟩
    subst e
    have hm : ∃ m : Nat, (m = 10 ∨ m = 9) ∧ ixF ah4 (.str "\n\t") (.int j) = some (.str ⟨#[m]⟩) := by
      have h2 : j = 0 ∨ j = 1 := by omega
      rcases h2 with rfl | rfl
      · exact ⟨10, .inl rfl, ix_s (k := 0) (by decide +kernel) (by decide +kernel)⟩
      · exact ⟨9, .inr rfl, ix_s (k := 1) (by decide +kernel) (by decide +kernel)⟩
    obtain ⟨m, hm, em⟩ := hm
    refine ⟨_, em, ?_⟩
    try walk_at "ko_li_K10f"
    have lf := fr_len Z
    have cf : ∀ c ∈ Ls (fr z), c < 1114112 := fun c hc => by
      have := fr_sg Z c hc
      omega
    have cc : ∀ lo hi, ∀ c ∈ Ls (cutS (fr z) lo hi), c < 1114112 := fun lo hi c hc => by
      rw [show Ls (cutS (fr z) lo hi) = ((Ls (fr z)).drop (HT.sIx (fr z).length 0 lo)).take (HT.sIx (fr z).length (fr z).length hi - HT.sIx (fr z).length 0 lo) by unfold cutS; exact List.toList_toArray ..] at hc
      exact cf c (List.mem_of_mem_drop (List.mem_of_mem_take hc))
    rw [len_s, if_pos (by rw [sz]; omega), ex_some]
    try walk_at "ko_ar_K10f"
    refine ⟨drw.arity.symm, (take_ok drw B (by omega) (by omega) (by omega)).imp fun y ah5 ⟨s, e, s0, s1, B⟩ => ?_⟩
    subst e
    try walk_at "ko_li_K10f"
    have l1 : (⟨#[m]⟩ : Str).length = 1 := rfl
    have le1 := cut_le (z := fr z) (lo := none) (hi := some s)
    have le2 := cut_le (z := fr z) (lo := some s) (hi := none)
    have lm : (Txt.mul (fr z) 2).length = 2 * (fr z).length := by
      have := PyProof.Rows.len_mul (fr z) 2
      rw [if_neg (by decide)] at this
      omega
    rw [add_ss, if_pos (by rw [l1, sz]; omega), ex_some]
    refine ⟨s, rfl, ?_⟩
    rw [slc_s, if_pos (by rw [sz]; omega), ex_some, add_ss, if_pos (by rw [l1, sz]; omega), ex_some]
    refine ⟨s, rfl, ?_⟩
    rw [slc_s, if_pos (by rw [sz]; omega), ex_some, add_ss, if_pos (by rw [Str.length_append, l1, sz]; omega), ex_some, mul_s, if_pos ⟨by decide, by show (fr z).length * 2 ≤ _; rw [sz]; omega, by decide⟩, ex_some, add_ss, if_pos (by rw [lm, l1, sz]; omega), ex_some, add_ss, if_pos (by rw [Str.length_append, lm, l1, sz]; omega), ex_some]
    refine ⟨by show 3 ≤ sizeLine; decide, ?_⟩
    rw [src_l, ex_some]
    have ce : ∀ c ∈ Ls ("" : Str), c < 1114112 := fun c hc => by rw [show Ls ("" : Str) = [] from by decide +kernel] at hc; cases hc
    have c2 : ∀ c ∈ Ls (Txt.mul (fr z) 2), c < 1114112 := chs_mul cf
    have b1 : LBad (fr z ++ ⟨#[m]⟩) := by
      have := lbad (A := fr z) (B := "") hm cf ce (by have : ("" : Str).length = 0 := rfl; omega)
      rwa [show fr z ++ ⟨#[m]⟩ ++ ("" : Str) = fr z ++ ⟨#[m]⟩ from str_ext (by rw [ls_app, show Ls ("" : Str) = [] from by decide +kernel, List.append_nil])] at this
    have b2 := lbad (A := cutS (fr z) none (some s)) (B := cutS (fr z) (some s) none) hm (cc _ _) (cc _ _) (by omega)
    have b3' := lbad (A := Txt.mul (fr z) 2) (B := fr z) hm c2 cf (by omega)
    have B := B.here
    refine forV_ok' (fun r ρ ah => (∀ x ∈ r, ∃ u, x = .str u ∧ LBad u) ∧ Box ah ah n (c + 9 + 9 + 1 + 1 + 1) ∧ ∃ b4, ρ = [some (.ref n), some bad, some other, b3, b4, some (.str (fr z)), some (.str ⟨#[m]⟩), some (.int s), none, none, none, none, none]) _ _ _ ⟨fun x hx => ?_, B, _, rfl⟩ (fun ρ ah ⟨_, B, b4, e⟩ => ?_) fun x xs ρ ah ⟨h1, B, b4, e⟩ => ?_
    · simp only [List.mem_cons, List.not_mem_nil, or_false] at hx
      rcases hx with rfl | rfl | rfl
      · exact ⟨_, rfl, b1⟩
      · exact ⟨_, rfl, b2⟩
      · exact ⟨_, rfl, b3'⟩
    · subst e
      have hr2 : rngSrc2 (.int 4) (.int 8) = some ⟨rngL 4 4, always⟩ := rfl
      rw [y_rng2, y_c, y_c, hr2, ex_some]
      refine forV_ok' (fun r ρ ah => (∀ x ∈ r, ∃ i : Nat, x = .int i ∧ 4 ≤ i ∧ i < 8) ∧ r.length ≤ 4 ∧ Box ah ah n (c + 9 + 9 + 1 + 1 + 1 + 40 * (4 - r.length)) ∧ ∃ a3 a4 a7 a8 a9 a10 a11, ρ = [some (.ref n), some bad, some other, a3, a4, some (.str (fr z)), some (.str ⟨#[m]⟩), a7, a8, a9, a10, a11, none]) _ _ _ ⟨fun x hx => ?_, by rw [rngL_length]; decide, by rw [rngL_length]; exact B.mono (by omega), _, _, _, _, _, _, _, rfl⟩ (fun ρ ah ⟨_, _, B, a3, a4, a7, a8, a9, a10, a11, e⟩ => ?_) fun x xs ρ ah ⟨h1, h2, B, a3, a4, a7, a8, a9, a10, a11, e⟩ => ?_
      · unfold rngL at hx
        obtain ⟨i, hi, rfl⟩ := List.mem_map.mp hx
        have := List.mem_range.mp hi
        exact ⟨4 + i, by simp, by omega, by omega⟩
      · subst e
        walk_at "ko_li_K10f"
        refine ⟨rfl, (v_whole ⟨⟨_, (okA_ty V1.val.ok)⟩, fun z e => Nat.le_trans (V1.val.len z e) (by decide)⟩ V1.sg).imp fun r ah7 ⟨e1, e2⟩ => ?_⟩
        subst e1 e2
        rw [is_bb, ex_some, tru_b, ex_some, if_pos (by decide)]
        refine ⟨⟨rfl, rfl⟩, rfl, ?_⟩
        show Yes (cl ds (k + 6) "is_whole" [other] _) _
        refine (v_whole ⟨⟨_, (okA_ty V2.val.ok)⟩, fun z e => Nat.le_trans (V2.val.len z e) (by decide)⟩ V2.sg).imp fun r ah8 ⟨e1, e2⟩ => ?_
        subst e1 e2
        rw [is_bb, ex_some]
        exact ⟨rfl, B.mono (by simp only [List.length_nil]; omega)⟩
      · subst e
        obtain ⟨i, rfl, hi, hi'⟩ := h1 x (by simp)
        rw [List.length_cons] at h2 B
        have hxs : ∀ x ∈ xs, ∃ i : Nat, x = .int i ∧ 4 ≤ i ∧ i < 8 := fun y hy => h1 y (List.mem_cons_of_mem _ hy)
        refine ⟨_, rfl, ?_⟩
        walk_at "ko_ev_K10f"
        walk_at "ko_li_K10f"
        refine ⟨rfl, (c_copy V1.val).imp fun t ah6 ⟨T, q⟩ => ?_⟩
        have hn := B.lt
        have B := box_thg B q
        have keepT : ∀ {c' : Int} {ah' : AH}, Box ah6 ah' n c' → Thg ah' t bad := fun {c' ah'} B' => by
          rcases q with ⟨_, _, f⟩ | ⟨e1, _⟩
          · exact f ah'
          · subst e1
            cases T with
            | lst h => exact .lst (B'.keeps (by omega) h)
            | dct h => exact .dct (B'.keeps (by omega) h)
        refine ⟨drw.arity.symm, (take_ok drw B (by omega) (by decide) (by decide)).imp fun y ah7 ⟨j, e, j0, j1, B⟩ => ?_⟩
        subst e
        rw [rng_src j0 (by omega), ex_some]
        have hx : (rngL 0 j.toNat).length ≤ 3 := by rw [rngL_length]; omega
        refine compV_ok (fun r acc ah => (∃ ws : List Str, acc = ws.map .str ∧ ∀ w ∈ ws, Tz w) ∧ acc.length + r.length = (rngL 0 j.toNat).length ∧ Box ah6 ah n (c + 9 + 9 + 1 + 1 + 1 + 40 * (4 - ((xs.length + 1 : Nat) : Int)) + 1 + 7 * acc.length)) _ [] ah7 ⟨⟨[], rfl, fun _ h => absurd h List.not_mem_nil⟩, by simp, by simpa using B⟩ (fun acc ah ⟨⟨ws, e1, e2⟩, h2, B⟩ => ?_) fun x r acc ah ⟨⟨ws, e1, e2⟩, h2, B⟩ => ?_
        · subst e1
          simp only [List.length_nil, Nat.add_zero, List.length_map] at h2 B
          have lw : ws.length ≤ 3 := by omega
          obtain ⟨o1, o2, o3⟩ := txts_ok e2
          try walk_at "ko_li_K10f"
          rw [len_l, List.length_map]
          refine ⟨_, rfl, _, add_ii, drw.arity.symm, (take_ok drw B (by omega) (by omega) (by omega)).imp fun y ah8 ⟨s, e, s0, s1, B⟩ => ?_⟩
          subst e
          obtain ⟨S, rfl⟩ := Int.eq_ofNat_of_zero_le s0
          have hS : S ≤ ws.length := by omega
          try walk_at "ko_li_K10f"
          refine ⟨_, rfl, ?_⟩
          rw [slc_l, cut_take hS, ex_some]
          refine ⟨by show 1 ≤ sizeLine; decide, ?_⟩
          have lt1 : ((ws.take S).map AV.str).length ≤ 3 := by rw [List.length_map, List.length_take]; omega
          have lt2 : ((ws.drop S).map AV.str).length ≤ 3 := by rw [List.length_map, List.length_drop]; omega
          rw [add_ll, if_pos (by show _ + 1 ≤ _; rw [sz]; omega), ex_some]
          refine ⟨_, rfl, ?_⟩
          rw [slc_l, cut_drop hS, ex_some, add_ll, if_pos (by rw [List.length_append]; show _ + 1 + _ ≤ _; rw [sz]; omega), ex_some]
          refine ⟨by show 1 ≤ sizeLine; decide, drw.arity.symm, (take_ok drw B (by omega) (by decide) (by decide)).imp fun y ah9 ⟨i2, e, i0, i1, B⟩ => ?_⟩
          subst e
          rw [mul_l i0 (by omega), ex_some, add_ll, if_pos (by rw [List.length_append, List.length_append, List.length_replicate]; show _ + 1 + _ + _ ≤ _; rw [sz]; omega), ex_some]
          have tw : ∀ w ∈ ws.take S, Tz w := fun w h => e2 w (List.mem_of_mem_take h)
          have tw2 : ∀ w ∈ ws.drop S, Tz w := fun w h => e2 w (List.mem_of_mem_drop h)
          obtain ⟨p1, p2, p3⟩ := txts_ok tw
          obtain ⟨p4, p5, p6⟩ := txts_ok tw2
          obtain ⟨r1, r2, r3⟩ := rep_ok V2.val i2.toNat
          have hi2 : i2.toNat ≤ 1 := by omega
          have vb := V1.val.bk
          have vd := V1.val.dp
          have lS1 : (ws.take S).length ≤ 3 := by rw [List.length_take]; omega
          have lS2 : (ws.drop S).length ≤ 3 := by rw [List.length_drop]; omega
          have b1 : bkL [bad] ≤ 4001 := by simp only [bkL]; omega
          have d1 : dpL [bad] ≤ 5 := by simp only [dpL]; omega
          have r2' : bkL (List.replicate i2.toNat other) ≤ 4001 := Nat.le_trans r2 (Nat.le_trans (Nat.mul_le_mul_left 4001 hi2) (by decide))
          refine ⟨_, rfl, by show 2 ≤ sizeLine; decide, drw.arity.symm, (take_ok drw B (by omega) (by decide) (by decide)).imp fun y ah10 ⟨i3, e, i30, i31, B⟩ => ?_⟩
          subst e
          have T9 := keepT B
          have shw := ((LL.frz (ah := ah10) p1).cat (.one T9 V1.val.ok)).cat (LL.frz p4) |>.cat (.frz r1)
          obtain ⟨⟨z1, hz1⟩, z2, hz2⟩ := repr_LL shw (by have := V1.val.ok; simp only [okL_app, p1, p4, r1, okL, this, Bool.and_self]) (by simp only [bkL_app]; omega) (by simp only [dpL_app]; omega)
          have src : ((ws.take S).map AV.str ++ [t] ++ (ws.drop S).map AV.str ++ List.replicate i2.toNat other) = (ws.take S).map AV.str ++ t :: ((ws.drop S).map AV.str ++ List.replicate i2.toNat other) := by simp
          have hg : ∀ g ∈ (ws.take S).map AV.str, VOk ah10 g ∧ hfB g = true := fun g h => by
            obtain ⟨w, hw, rfl⟩ := List.mem_map.mp h
            have F := (tw w hw).fx
            obtain ⟨s1, s2⟩ := sg_ok F.ch
            refine ⟨⟨⟨_, rfl⟩, fun z e => by cases e; exact F.len⟩, ?_⟩
            show (Txt.isascii w && Txt.isprintable w && decide (w.length ≤ 80000)) = true
            rw [s1, s2, decide_eq_true F.fl]; rfl
          have hmore : ∃ more zz, atI [AV.lst ((ws.take S).map AV.str ++ [t] ++ (ws.drop S).map AV.str ++ List.replicate i2.toNat other), AV.tup ((ws.take S).map AV.str ++ [t] ++ (ws.drop S).map AV.str ++ List.replicate i2.toNat other)] i3 = some more ∧ biF .repr ah10 [more] = some (.str zz) ∧
              cl ds (k + 4) "check_texts" [more] ah10 = .ex (iT t) ah10 := by
            have h2 : i3 = 0 ∨ i3 = 1 := by omega
            rcases h2 with rfl | rfl
            · exact ⟨_, z1, rfl, hz1, x_bad (k := k + 1) (gs := (ws.take S).map AV.str) (bs := (ws.drop S).map AV.str ++ List.replicate i2.toNat other) rfl ⟨⟨_, rfl⟩, fun z e => by cases e⟩ (by rw [← src]; rfl) hg (T9.vok V1.val) (thg_hf T9 V1.hf)⟩
            · exact ⟨_, z2, rfl, hz2, x_bad (k := k + 1) (gs := (ws.take S).map AV.str) (bs := (ws.drop S).map AV.str ++ List.replicate i2.toNat other) rfl ⟨⟨_, rfl⟩, fun z e => by cases e⟩ (by rw [← src]; rfl) hg (T9.vok V1.val) (thg_hf T9 V1.hf)⟩
          obtain ⟨more, zz, m1, m2, m3⟩ := hmore
          refine ⟨more, m1, ?_⟩
          rw [m2]
          refine ⟨_, rfl, rfl, ?_⟩
          rw [door_list (k := k + 3) (d := i) (t := .str "no count") (v := t) ⟨hi, hi'⟩ m3]
          show ∃ _, _
          rw [m2]
          refine ⟨_, rfl, _, rfl, _, rfl, ?_⟩
          rw [if_neg (by simp)]
          refine ⟨rfl, (c_is_met T9 V1.val (.inl rfl)).imp fun r ah11 ⟨e3, q2⟩ => ?_⟩
          subst e3
          simp only [tru_b, ex_some]
          rw [if_neg (by decide)]
          have Bf : Box ah11 ah11 n (c + 9 + 9 + 1 + 1 + 1 + 40 * (4 - ((xs.length + 1 : Nat) : Int)) + 1 + 7 * ws.length + 1 + 1 + 1) := by
            rcases q2 with rfl | ⟨m', o, e4, rfl⟩
            · exact B.here
            · rcases q with ⟨e1, _, _⟩ | ⟨e1, _⟩
              · exact absurd (e1.symm.trans e4) (val_ref V1.val m')
              · rw [e1] at e4
                cases e4
                exact B.here.put (by omega)
          exact ⟨hxs, by omega, Bf.mono (by omega), _, _, _, _, _, _, _, rfl⟩
        · subst e1
          refine ⟨_, rfl, ?_⟩
          rw [y_yes, if_pos rfl]
          rw [List.length_cons] at h2
          walk_at "ko_ev_K10f"
          try walk_at "ko_li_K10f"
          refine ⟨rfl, (c_text B (by omega)).imp fun v ah8 ⟨w, e3, Tw, B⟩ => ?_⟩
          subst e3
          refine ⟨by rw [sz]; omega, ⟨ws ++ [w], by simp, fun u hu => ?_⟩, by rw [List.length_append, List.length_singleton]; omega, B.mono (by rw [List.length_append, List.length_singleton]; omega)⟩
          rcases List.mem_append.mp hu with hu | hu
          · exact e2 u hu
          · simp at hu; subst hu; exact Tw
    · subst e
      obtain ⟨u, rfl, U⟩ := h1 x (by simp)
      refine ⟨_, rfl, ?_⟩
      walk_at "ko_ev_K10f"
      walk_at "ko_li_K10f"
      have vu : VOk ah (.str u) := ⟨⟨_, rfl⟩, fun z e => by cases e; have := U.len; omega⟩
      have hmet := met_T (k := k + 4) (d := 2) (thing := .str u) (more := .lst []) (ah := ah) (by decide) (x_fin (k := k + 3) vu U.sg)
      refine ⟨by show 0 ≤ sizeLine; decide, rfl, ?_⟩
      rw [show (AV.int 2) = AV.int ((2 : Nat) : Int) from rfl, hmet]
      show _ ∧ _
      refine ⟨by show 4 ≤ sizeLine; decide, ?_⟩
      rw [ne4 U.ch]
      simp only [ex_some, as_b]
      rw [if_neg (by decide)]
      refine ⟨rfl, (v_whole vu U.sg).imp fun r ah2 ⟨e1, e2⟩ => ?_⟩
      subst e1 e2
      rw [isn_bb]
      simp only [ex_some, as_b]
      rw [if_neg (by decide)]
      exact ⟨fun y hy => h1 y (List.mem_cons_of_mem _ hy), B, _, rfl⟩
  · subst e
    obtain ⟨i, rfl, hi⟩ := h1 x (by simp)
    refine ⟨_, rfl, ?_⟩
    walk_at "ko_ev_K10f"
    walk_at "ko_li_K10f"
    refine ⟨rfl, (c_copy V1.val).imp fun t ah1 ⟨T, q⟩ => ?_⟩
    refine ⟨by show 0 ≤ sizeLine; decide, rfl, ?_⟩
    rw [show k + 6 = k + 6 from rfl, door_bad hi T V1]
    show _ ∧ _
    refine ⟨rfl, (c_is_met T V1.val (.inl rfl)).imp fun r ah2 ⟨e1, q2⟩ => ?_⟩
    subst e1
    simp only [tru_b, ex_some]
    rw [if_neg (by decide)]
    exact ⟨fun y hy => h1 y (List.mem_cons_of_mem _ hy), box_met B.lt (box_thg B q) q (val_ref V1.val) q2, _, _, rfl⟩
end K10

namespace K10
open PySem L2 Ko NumText
local macro_rules | `(tactic| walk_at "ko_ev_K10g") => `(tactic| simp only [YesS.fin, semD, den, mkE, mkT, mkX, mkS, YesS.seq, YesS.nil, YesS.ret, YesS.ifS, YesS.asg, y_c, y_v, y_f2, y_f1, y_fA, y_nil, y_cons, y_tup, y_lst, y_lstM, y_dic0, y_tF, y_bF, y_tAnd, y_tOr, y_tNot, y_not, y_and, y_or, y_if, y_call, y_kw, y_chain, y_slc, y_pN, y_pS, y_isi, y_ms, y_src, y_rng1, y_comp, y_yes, s_exp, s_par2, s_sub, s_for, ops_call, ops_ar, Yes.ok, nu_isascii, nu_isprintable, nu_isalpha, nu_islower, nu_isdigit, nu_join, nu_count, nu_startswith, nu_endswith, nu_zfill, nu_stripC])
local macro_rules | `(tactic| walk_at "ko_ar_K10g") => `(tactic| simp only [ex_some, ex_ite, bin_add, bin_sub, bin_mul, bin_div, bin_mod, bin_pow, add_ii, sub_ii, mul_ii, div_ii, mod_ii, pow_ii, neg_i, cmp_eq, cmp_ne, cmp_lt, cmp_le, cmp_gt, cmp_ge, cmp_is, cmp_isn, lt_ii, le_ii, gt_ii, ge_ii, eq_ii, ne_ii, tru_b, tru_i, as_b, int_i, abs_i, put_nm, put_tup, put_lst])
local macro_rules | `(tactic| walk_at "ko_li_K10g") => `(tactic| simp only [List.getElem?_cons_zero, List.getElem?_cons_succ, List.set_cons_succ, List.set_cons_zero, putl_nil, putl_cons, put_nm, put_tup, put_lst, Option.bind_some])

theorem v_noc {k : Nat} {t v : AV} {ah : AH} (T : Thg ah t v) (N : NoC v) : Yes (cl ds (k + 2) "is_count" [t] ah) fun r ah' => r = .bl false ∧ ah' = ah := by
  have hi : Yes (cl ds (k + 1) "is_integer" [t] ah) fun r ah' => r = .bl (match t with | .int _ => true | _ => false) ∧ ah' = ah := by
    rw [cl_eq fd_int]
    simp only [d_is_integer, t_is_integer]
    walk_at "ko_ev_K10g"
    simp only [show startA ["value"] [t] = [some t] from rfl]
    walk_at "ko_li_K10g"
    cases T with
    | lst h => exact ⟨_, ty_refL h, false, rfl, by rw [if_neg (by decide)]; exact ⟨rfl, by first | rfl | trivial⟩⟩
    | dct h => exact ⟨_, ty_refD h, false, rfl, by rw [if_neg (by decide)]; exact ⟨rfl, by first | rfl | trivial⟩⟩
    | int i => exact ⟨_, rfl, true, rfl, by rw [if_pos rfl]; exact ⟨_, rfl, _, rfl, rfl, by first | rfl | trivial⟩⟩
    | bl b => exact ⟨_, rfl, true, rfl, by rw [if_pos rfl]; exact ⟨_, rfl, _, rfl, rfl, by first | rfl | trivial⟩⟩
    | _ => exact ⟨_, rfl, false, rfl, by rw [if_neg Bool.false_ne_true]; exact ⟨rfl, by first | rfl | trivial⟩⟩
  rw [cl_eq fd_count]
  simp only [d_is_count, t_is_count]
  walk_at "ko_ev_K10g"
  simp only [show startA ["value"] [t] = [some t] from rfl]
  walk_at "ko_li_K10g"
  refine ⟨rfl, hi.imp fun r ah1 ⟨e1, e2⟩ => ?_⟩
  subst e1 e2
  simp only [tru_b, ex_some]
  cases T with
  | int i =>
    rw [if_pos rfl, cmp_ge, ge_ii, ex_some]
    have := N.nc i rfl
    exact ⟨by rw [decide_eq_false (by omega)], by first | rfl | trivial⟩
  | _ => rw [if_neg Bool.false_ne_true]; exact ⟨rfl, by first | rfl | trivial⟩
theorem x_cutC {k : Nat} {a t v : AV} {zs : List Str} {ah : AH} (R : Row ah a zs) (T : Thg ah t v) (N : NoC v) : cl ds (k + 4) "cut_at" [a, t] ah = .ex (iC t) ah := by
  rw [cl_eq fd_cut]
  show SR.fin (seqF (expF (callF (cl ds (k + 3) "check_texts") 1 (aCons (vF 0) aNil))) (seqF (ifS (tNotF (tF (callF (cl ds (k + 3) "is_count") 1 (aCons (vF 1) aNil)))) (seqF (raiseF "InvalidCount" ["given"] (aCons (vF 1) aNil)) nilF) nilF) _) [some a, some t, none, none, none] ah) = _
  rw [sx_expOk (ah1 := ah) ?_, sx_if (ah1 := ah) ?_ (sx_raise (ah1 := ah) (xs := [t]) (fs := [("given", t)]) rfl rfl)]
  · rfl
  · walk_at "ko_ev_K10g"
    walk_at "ko_li_K10g"
    refine ⟨rfl, (v_noc (k := k + 1) T N).imp fun r ah1 ⟨e1, e2⟩ => ?_⟩
    subst e1 e2
    simp only [tru_b, ex_some]
    exact ⟨by first | rfl | trivial, by first | rfl | trivial⟩
  · walk_at "ko_ev_K10g"
    walk_at "ko_li_K10g"
    exact ⟨rfl, (w_check frm R).imp fun r ah1 e1 => e1⟩
theorem row_lst {ah : AH} {zs : List Str} (h : ∀ z ∈ zs, Tz z) (hl : zs.length ≤ 100) : Row ah (.lst (zs.map .str)) zs ∧ Row ah (.tup (zs.map .str)) zs := by
  have h' : ∀ z ∈ zs, Fx z := fun z hz => (h z hz).fx
  have := frs_sum h'
  exact ⟨⟨⟨_, rfl, rfl⟩, .inl rfl, h', by omega, by omega⟩, ⟨⟨_, rfl, rfl⟩, .inr rfl, h', by omega, by omega⟩⟩
theorem c_lref {k n : Nat} {ah : AH} {c : Int} (B : Box ah ah n c) (hc : c ≤ 60000) : Yes (cl ds (k + 8) "_law_lists_refused" [.ref n] ah) fun v ah' => v = .bl true ∧ Box ah' ah' n (c + 100) := by
  rw [cl_eq fd_lref]
  simp only [d__law_lists_refused, t__law_lists_refused]
  walk_at "ko_ev_K10g"
  simp only [show startA ["box", "door", "thing", "rows", "turn"] [.ref n] = [some (.ref n), none, none, none, none] from rfl]
  have hr2 : rngSrc2 (.int 4) (.int 8) = some ⟨rngL 4 4, always⟩ := rfl
  rw [y_rng2, y_c, y_c, hr2, ex_some]
  refine forV_ok' (fun r ρ ah => (∀ x ∈ r, ∃ i : Nat, x = .int i ∧ 4 ≤ i ∧ i < 8) ∧ r.length ≤ 4 ∧ Box ah ah n (c + (4 - r.length)) ∧ ∃ a1 a2, ρ = [some (.ref n), a1, a2, none, none]) _ _ _ ⟨fun x hx => ?_, by rw [rngL_length]; decide, by rw [rngL_length]; exact B.mono (by omega), _, _, rfl⟩ (fun ρ ah ⟨_, _, B, a1, a2, e⟩ => ?_) fun x xs ρ ah ⟨h1, h2, B, a1, a2, e⟩ => ?_
  · unfold rngL at hx
    obtain ⟨i, hi, rfl⟩ := List.mem_map.mp hx
    have := List.mem_range.mp hi
    exact ⟨4 + i, by simp, by omega, by omega⟩
  · subst e
    simp only [List.length_nil] at B
    walk_at "ko_li_K10g"
    refine ⟨drw.arity.symm, (take_ok drw B (by omega) (by decide) (by decide)).imp fun y ah7 ⟨j, e, j0, j1, B⟩ => ?_⟩
    subst e
    rw [rng_src j0 (by omega), ex_some]
    have hx : (rngL 0 j.toNat).length ≤ 3 := by rw [rngL_length]; omega
    have B := B.here
    refine compV_ok (fun r acc ah => (∃ ws : List Str, acc = ws.map .str ∧ ∀ w ∈ ws, Tz w) ∧ acc.length + r.length = (rngL 0 j.toNat).length ∧ Box ah7 ah n (c + 4 + 1 + 7 * acc.length)) _ [] ah7 ⟨⟨[], rfl, fun _ h => absurd h List.not_mem_nil⟩, by simp, by simpa using B⟩ (fun acc ah ⟨⟨ws, e1, e2⟩, h2, B⟩ => ?_) fun x r acc ah ⟨⟨ws, e1, e2⟩, h2, B⟩ => ?_
    · subst e1
      simp only [List.length_nil, Nat.add_zero, List.length_map] at h2 B
      have lw : ws.length ≤ 3 := by omega
      try walk_at "ko_li_K10g"
      rw [rng_src (by decide) (by decide), ex_some]
      have B := B.here
      refine forV_ok' (fun r ρ ah => (∀ x ∈ r, ∃ i : Nat, x = .int i ∧ i < 2) ∧ r.length ≤ 2 ∧ Box ah ah n (c + 30 + (2 - r.length)) ∧ ∃ a1 a2 a4, ρ = [some (.ref n), a1, a2, some (.lst (ws.map .str)), a4]) _ _ _ ⟨fun x hx => ?_, by rw [rngL_length]; decide, by rw [rngL_length]; exact B.mono (by have : (2 : Int).toNat = 2 := rfl; omega), _, _, _, rfl⟩ (fun ρ ah ⟨_, _, B, a1, a2, a4, e⟩ => ?_) fun x xs ρ ah ⟨h1, h2, B, a1, a2, a4, e⟩ => ?_
      · obtain ⟨i, e, hi⟩ := rng_mem hx
        exact ⟨i, e, hi⟩
      · subst e
        simp only [List.length_nil] at B
        exact ⟨by first | rfl | trivial, B.mono (by omega)⟩
      · subst e
        obtain ⟨i, rfl, hi⟩ := h1 x (by simp)
        rw [List.length_cons] at h2 B
        refine ⟨_, rfl, ?_⟩
        walk_at "ko_ev_K10g"
        walk_at "ko_li_K10g"
        refine ⟨rfl, (c_noc B (by omega)).imp fun v ah3 ⟨V, B⟩ => ⟨rfl, (c_copy V.val).imp fun t ah4 ⟨T, q⟩ => ?_⟩⟩
        have hn := B.lt
        have B := box_thg B q
        have row := row_lst (ah := ah4) e2 (by omega)
        have hmore : ∃ more, atI [AV.lst (ws.map .str), AV.tup (ws.map .str)] i = some more ∧ Row ah4 more ws := by
          rcases (by omega : i = 0 ∨ i = 1) with h0 | h0
          · subst h0
            exact ⟨_, rfl, row.1⟩
          · subst h0
            exact ⟨_, rfl, row.2⟩
        obtain ⟨more, m1, m2⟩ := hmore
        refine ⟨_, rfl, _, rfl, by show 2 ≤ sizeLine; decide, more, m1, rfl, ?_⟩
        have hm := met_C (k := k + 5) (d := 7) (thing := t) (more := more) (ah := ah4) (by decide) (x_cutC (k := k + 2) m2 T V)
        rw [show (AV.int 7) = AV.int ((7 : Nat) : Int) from rfl, hm]
        show _ ∧ _
        refine ⟨rfl, (c_is_met T V.val (.inr rfl)).imp fun r ah5 ⟨e3, q2⟩ => ?_⟩
        subst e3
        simp only [tru_b, ex_some]
        rw [if_neg (by decide)]
        exact ⟨fun y hy => h1 y (List.mem_cons_of_mem _ hy), by omega, (box_met hn B q (val_ref V.val) q2).mono (by omega), _, _, _, rfl⟩
    · subst e1
      refine ⟨_, rfl, ?_⟩
      rw [y_yes, if_pos rfl]
      rw [List.length_cons] at h2
      walk_at "ko_ev_K10g"
      try walk_at "ko_li_K10g"
      refine ⟨rfl, (c_text B (by omega)).imp fun v ah8 ⟨w, e3, Tw, B⟩ => ?_⟩
      subst e3
      refine ⟨by rw [sz]; omega, ⟨ws ++ [w], by simp, fun u hu => ?_⟩, by rw [List.length_append, List.length_singleton]; omega, B.mono (by rw [List.length_append, List.length_singleton]; omega)⟩
      rcases List.mem_append.mp hu with hu | hu
      · exact e2 u hu
      · simp at hu; subst hu; exact Tw
  · subst e
    obtain ⟨i, rfl, hi, hi'⟩ := h1 x (by simp)
    rw [List.length_cons] at h2 B
    refine ⟨_, rfl, ?_⟩
    walk_at "ko_ev_K10g"
    walk_at "ko_li_K10g"
    refine ⟨rfl, (c_nol B (by omega)).imp fun v ah3 ⟨V, B⟩ => ⟨rfl, (c_copy V.val).imp fun t ah4 ⟨T, q⟩ => ?_⟩⟩
    have hn := B.lt
    have B := box_thg B q
    refine ⟨rfl, ?_⟩
    rw [door_list (k := k + 4) (d := i) (t := .str "no count") (v := t) (more := t) ⟨hi, hi'⟩ (x_noList (k := k + 3) (T.vok V.val) (V.nl T))]
    show _ ∧ _
    refine ⟨rfl, (c_is_met T V.val (.inl rfl)).imp fun r ah5 ⟨e3, q2⟩ => ?_⟩
    subst e3
    simp only [tru_b, ex_some]
    rw [if_neg (by decide)]
    exact ⟨fun y hy => h1 y (List.mem_cons_of_mem _ hy), by omega, (box_met hn B q (val_ref V.val) q2).mono (by omega), _, _, rfl⟩
end K10

namespace K10
open PySem L2 Ko NumText
local macro_rules | `(tactic| walk_at "ko_ev_K10i") => `(tactic| simp only [YesS.fin, semD, den, mkE, mkT, mkX, mkS, YesS.seq, YesS.nil, YesS.ret, YesS.ifS, YesS.asg, y_c, y_v, y_f2, y_f1, y_fA, y_nil, y_cons, y_tup, y_lst, y_lstM, y_dic0, y_tF, y_bF, y_tAnd, y_tOr, y_tNot, y_not, y_and, y_or, y_if, y_call, y_kw, y_chain, y_slc, y_pN, y_pS, y_isi, y_ms, y_src, y_rng1, y_comp, y_yes, s_exp, s_par2, s_sub, s_for, ops_call, ops_ar, Yes.ok, nu_isascii, nu_isprintable, nu_isalpha, nu_islower, nu_isdigit, nu_join, nu_count, nu_startswith, nu_endswith, nu_zfill, nu_stripC])
local macro_rules | `(tactic| walk_at "ko_ar_K10i") => `(tactic| simp only [ex_some, ex_ite, bin_add, bin_sub, bin_mul, bin_div, bin_mod, bin_pow, add_ii, sub_ii, mul_ii, div_ii, mod_ii, pow_ii, neg_i, cmp_eq, cmp_ne, cmp_lt, cmp_le, cmp_gt, cmp_ge, cmp_is, cmp_isn, lt_ii, le_ii, gt_ii, ge_ii, eq_ii, ne_ii, tru_b, tru_i, as_b, int_i, abs_i, put_nm, put_tup, put_lst])
local macro_rules | `(tactic| walk_at "ko_li_K10i") => `(tactic| simp only [List.getElem?_cons_zero, List.getElem?_cons_succ, List.set_cons_succ, List.set_cons_zero, putl_nil, putl_cons, put_nm, put_tup, put_lst, Option.bind_some])
theorem c_int {k : Nat} {i : Int} {ah : AH} : Yes (cl ds (k + 1) "is_integer" [.int i] ah) fun v ah' => v = .bl true ∧ ah' = ah := by
  rw [cl_eq fd_int]
  exact ⟨rfl, rfl⟩
theorem c_count {k : Nat} {i : Int} {ah : AH} (h : 0 ≤ i) : Yes (cl ds (k + 2) "is_count" [.int i] ah) fun v ah' => v = .bl true ∧ ah' = ah := by
  rw [cl_eq fd_count]
  simp only [d_is_count, t_is_count]
  walk_at "ko_ev_K10i"
  simp only [show startA ["value"] [.int i] = [some (.int i)] from rfl]
  walk_at "ko_li_K10i"
  refine ⟨rfl, c_int.imp fun v ah1 ⟨e1, e2⟩ => ?_⟩
  subst e1 e2
  simp only [tru_b, ex_some]
  rw [if_pos trivial]
  try walk_at "ko_ar_K10i"
  refine ⟨?_, by first | rfl | trivial⟩
  rw [decide_eq_true h]
theorem s_aug {i : Nat} {op : Operator} {a : Rho → AH → Ot AV} {ρ : Rho} {ah : AH} {N : Rho → AH → Prop} {P : AV → AH → Prop} {x : AV} (e : ρ[i]? = some (some x)) (h : Yes (a ρ ah) fun y ah1 => ∃ z, iopF op ah1 x y = some z ∧ N (ρ.set i (some z)) ah1) : YesS (augF i op a ρ ah) N P := by
  unfold augF
  rw [e]
  dsimp only
  rw [YesS.to]
  refine h.imp fun y ah1 q => ?_
  obtain ⟨z, e1, q⟩ := q
  rw [e1]
  exact q
/-- how many whole frames lie within s signs, behind e -/
def ctn (s : Int) : List Str → Int → Nat
  | [], _ => 0
  | z :: r, e => if e + (z.length + 7) > s then 0 else ctn s r (e + (z.length + 7)) + 1
theorem c_cut {k : Nat} {a : AV} {zs : List Str} {s : Int} {ah : AH} (R : Row ah a zs) (hs : 0 ≤ s) : Yes (cl ds (k + 4) "cut_at" [a, .int s] ah) fun v ah' => v = .int (ctn s zs 0 : Nat) ∧ ah' = ah := by
  obtain ⟨g, h1, h2⟩ := R.src
  rw [cl_eq fd_cut]
  simp only [d_cut_at, t_cut_at]
  walk_at "ko_ev_K10i"
  simp only [show startA ["texts", "signs", "many", "end", "text"] [a, .int s] = [some a, some (.int s), none, none, none] from rfl]
  walk_at "ko_li_K10i"
  refine ⟨rfl, (w_check frm R).imp fun v ah1 e1 => ?_⟩
  subst e1
  refine ⟨rfl, (c_count hs).imp fun v ah2 ⟨e1, e2⟩ => ?_⟩
  subst e1 e2
  simp only [tru_b, ex_some]
  rw [if_neg (by decide)]
  try walk_at "ko_ev_K10i"
  try walk_at "ko_li_K10i"
  refine ⟨by show 2 ≤ sizeLine; decide, _, h1, ?_⟩
  refine forV_okg' (fun r ρ ah' => ah' = ah2 ∧ ∃ (ws : List Str) (m : Nat) (e : Int) (b : Option AV), r = ws.map .str ∧ (∀ z ∈ ws, Fx z) ∧ ρ = [some a, some (.int s), some (.int m), some (.int e), b] ∧ m + ctn s ws e = ctn s zs 0) (fun _ _ _ h => h.1 ▸ h2) _ _ _ ⟨rfl, zs, 0, 0, _, rfl, R.tx, rfl, by simp⟩ (fun ρ ah' ⟨e0, ws, m, e, b, e1, e2, e3, e4⟩ => ?_) fun x xs ρ ah' ⟨e0, ws, m, e, b, e1, e2, e3, e4⟩ => ?_
  · subst e0 e3
    have : ws = [] := by simpa using e1.symm
    subst this
    refine ⟨?_, rfl⟩
    simp only [ctn, Nat.add_zero] at e4
    rw [e4]
  · subst e0 e3
    match ws, e1 with
    | w :: ws, e1 =>
      rw [List.map_cons, List.cons.injEq] at e1
      obtain ⟨rfl, rfl⟩ := e1
      have T := e2 w (List.mem_cons_self ..)
      have hl := T.len
      refine ⟨_, rfl, ?_⟩
      rw [YesS.seq]
      refine s_aug (x := .int e) rfl ?_
      try walk_at "ko_ev_K10i"
      try walk_at "ko_li_K10i"
      rw [len_s]
      try walk_at "ko_ar_K10i"
      refine ⟨by rw [sz]; omega, .int (e + (w.length + 7)), rfl, ?_⟩
      try walk_at "ko_ev_K10i"
      try walk_at "ko_li_K10i"
      try walk_at "ko_ar_K10i"
      by_cases g : e + (w.length + 7) > s
      · rw [if_pos (decide_eq_true g)]
        try walk_at "ko_ev_K10i"
        try walk_at "ko_li_K10i"
        have hc : ctn s (w :: ws) e = if e + (w.length + 7) > s then 0 else ctn s ws (e + (w.length + 7)) + 1 := rfl
        rw [hc, if_pos g] at e4
        refine ⟨?_, by first | rfl | trivial⟩
        rw [← e4, Nat.add_zero]
      · rw [if_neg (by simpa using g)]
        try walk_at "ko_ev_K10i"
        refine s_aug (x := .int m) rfl ?_
        try walk_at "ko_ev_K10i"
        refine ⟨.int ((m : Int) + 1), rfl, ?_⟩
        have hc : ctn s (w :: ws) e = if e + (w.length + 7) > s then 0 else ctn s ws (e + (w.length + 7)) + 1 := rfl
        rw [hc, if_neg g] at e4
        exact ⟨by first | rfl | trivial, ws, m + 1, e + (w.length + 7), some (.str w), rfl, fun z hz => e2 z (List.mem_cons_of_mem _ hz), by simp, by omega⟩
theorem ls_join : ∀ ys : List Str, Ls (Str.join "" ys) = (ys.map Ls).flatten
  | [] => rfl
  | [x] => by show Ls x = _; simp
  | x :: y :: r => by
    show Ls (x ++ "" ++ Str.join "" (y :: r)) = _
    rw [ls_app, ls_app, ls_join (y :: r), show Ls "" = [] from by decide +kernel]
    all_goals simp
theorem ls_tj (ys : List Str) : Ls (Txt.join "" ys) = (ys.map Ls).flatten := by
  rw [show Txt.join "" ys = Str.join "" ys from StrLaws.glued_eq_join _ _]; exact ls_join ys
theorem frs_app (zs os : List Str) : frs (zs ++ os) = frs zs ++ frs os := by
  refine str_ext ?_
  unfold Ko.frs
  rw [ls_app, ls_tj, ls_tj, ls_tj]
  all_goals simp
theorem frs_one (z : Str) : frs [z] = fr z := rfl
theorem dv_zeros (k : Nat) (l : List Nat) : digitsVal (List.replicate k 48 ++ l) = digitsVal l := by
  induction k with
  | zero => rfl
  | succ k ih => rw [List.replicate_succ, List.cons_append]; exact ih
theorem dv_dgs (n : Nat) : digitsVal (Ls (dgs n)) = n := by
  have e : Ls (dgs n) = (Nat.toDigits 10 n).map Char.toNat := PySem.W.KIN.signs_num n
  rw [e]
  exact PySem.W.KIN.val_back n
/-- the first five signs of a frame -/
def five (n : Nat) : List Nat := List.replicate (5 - (dgs n).length) 48 ++ Ls (dgs n)
theorem five_ok {n : Nat} (h : n ≤ 80000) : (five n).length = 5 ∧ (five n).all dig = true ∧ digitsVal (five n) = n := by
  obtain ⟨d1, d2, d3⟩ := dgs_ok h
  refine ⟨?_, ?_, ?_⟩
  · unfold five; rw [List.length_append, List.length_replicate, ← len_ls]; omega
  · refine List.all_eq_true.mpr fun c hc => decide_eq_true ?_
    rcases List.mem_append.mp hc with q | q
    · have := (List.mem_replicate.mp q).2; omega
    · exact d1 c q
  · unfold five; rw [dv_zeros, dv_dgs]
theorem ls_fr {z : Str} (T : Fx z) : Ls (fr z) = five z.length ++ 58 :: (Ls z ++ [59]) := by
  obtain ⟨d1, d2, d3⟩ := dgs_ok T.fl
  unfold fr five
  simp only [ls_app]
  rw [colon, semi, ls_mul0 (by omega), show (5 - ((dgs z.length).length : Int)).toNat = 5 - (dgs z.length).length by omega]
  simp
/-- where a whole frame stands, it is read -/
theorem en_fr {w z : Str} {A B : List Nat} (T : Fx z) (e : Ls w = A ++ (Ls (fr z) ++ B)) : en w A.length = some (A.length + z.length + 7) := by
  obtain ⟨f1, f2, f3⟩ := five_ok T.fl
  have hd : (Ls w).drop A.length = five z.length ++ (58 :: (Ls z ++ 59 :: B)) := by
    rw [e, List.drop_left, ls_fr T]; simp
  have h6 : ((Ls w).drop A.length).take 6 = five z.length ++ [58] := by
    rw [hd, List.take_append, f1, List.take_of_length_le (by omega)]; rfl
  have h5 : (five z.length ++ [58]).take 5 = five z.length := by rw [List.take_append, f1, List.take_of_length_le (by omega)]; simp
  unfold en
  simp only
  rw [h6, h5, if_pos ⟨by simp [f1], by rw [List.getElem?_append_right (by omega), f1]; rfl, f2, by rw [f3]; exact T.fl⟩, f3, if_pos]
  · congr 1
    omega
  · have e2 : (Ls w)[A.length + 6 + z.length]? = ((Ls w).drop A.length)[6 + z.length]? := by rw [List.getElem?_drop, Nat.add_assoc]
    rw [e2, hd, List.getElem?_append_right (by omega), f1, show 6 + z.length - 5 = z.length + 1 by omega, List.getElem?_cons_succ, len_ls, List.getElem?_append_right (Nat.le_refl _), Nat.sub_self]; rfl
theorem sb_fr {w z : Str} {A B : List Nat} (T : Fx z) (e : Ls w = A ++ (Ls (fr z) ++ B)) : sb w (A.length + 6) (A.length + z.length + 7 - 1) = z := by
  obtain ⟨f1, f2, f3⟩ := five_ok T.fl
  refine str_ext ?_
  have hd : (Ls w).drop (A.length + 6) = Ls z ++ 59 :: B := by
    rw [← List.drop_drop, e, List.drop_left, ls_fr T, List.append_assoc, List.drop_append, f1, List.drop_of_length_le (by omega)]; simp
  rw [ls_sb, hd, show A.length + z.length + 7 - 1 - (A.length + 6) = (Ls z).length by rw [len_ls]; omega, List.take_left]
theorem frs_cons (z : Str) (zs : List Str) : frs (z :: zs) = fr z ++ frs zs := by rw [show z :: zs = [z] ++ zs from rfl, frs_app, frs_one]
/-- whole frames are read one by one -/
theorem rd_frs {w : Str} : ∀ (zs : List Str) (A B : List Nat) (g : Nat), (∀ z ∈ zs, Fx z) → Ls w = A ++ (Ls (frs zs) ++ B) →
    rd w (zs.length + g) A.length = (zs ++ (rd w g (A.length + (frs zs).length)).1, (rd w g (A.length + (frs zs).length)).2)
  | [], A, B, g, _, _ => by
    have e : (Ko.frs []).length = 0 := by decide +kernel
    rw [e]; simp
  | z :: zs, A, B, g, h, e => by
    have T := h z (List.mem_cons_self ..)
    rw [frs_cons, ls_app] at e
    have e1 : Ls w = A ++ (Ls (fr z) ++ (Ls (frs zs) ++ B)) := by rw [e]; simp
    have e2 : Ls w = (A ++ Ls (fr z)) ++ (Ls (frs zs) ++ B) := by rw [e]; simp
    have lf := fr_len T
    have la : (A ++ Ls (fr z)).length = A.length + z.length + 7 := by rw [List.length_append, ← len_ls, lf]; omega
    have ih := rd_frs zs (A ++ Ls (fr z)) B g (fun y hy => h y (List.mem_cons_of_mem _ hy)) e2
    rw [la] at ih
    have s : (z :: zs).length + g = (zs.length + g) + 1 := by simp; omega
    rw [s]
    have hr : rd w ((zs.length + g) + 1) A.length = (sb w (A.length + 6) (A.length + z.length + 7 - 1) :: (rd w (zs.length + g) (A.length + z.length + 7)).1, (rd w (zs.length + g) (A.length + z.length + 7)).2) := by
      show (match en w A.length with | none => _ | some e => _) = _
      rw [en_fr T e1]
    rw [hr, sb_fr T e1, ih, frs_cons, Str.length_append, lf, show A.length + z.length + 7 + (frs zs).length = A.length + (z.length + 7 + (frs zs).length) by omega]
    rfl
/-- the beginning of a frame is not read -/
theorem en_cut {w z : Str} {A : List Nat} {m : Nat} (T : Fx z) (hm : m < z.length + 7) (e : Ls w = A ++ (Ls (fr z)).take m) : en w A.length = none := by
  obtain ⟨f1, f2, f3⟩ := five_ok T.fl
  have hd : (Ls w).drop A.length = (five z.length ++ 58 :: (Ls z ++ [59])).take m := by
    rw [e, List.drop_left, ls_fr T]
  have lw : (Ls w).length ≤ A.length + m := by
    rw [e, List.length_append, List.length_take]; omega
  unfold en
  simp only
  by_cases h6 : m < 6
  · rw [if_neg]
    rintro ⟨q, _⟩
    rw [hd, List.length_take, List.length_take] at q
    omega
  · have hh : ((Ls w).drop A.length).take 6 = five z.length ++ [58] := by
      rw [hd, List.take_take, Nat.min_eq_left (by omega), List.take_append, f1, List.take_of_length_le (by omega)]; rfl
    have h5 : (five z.length ++ [58]).take 5 = five z.length := by rw [List.take_append, f1, List.take_of_length_le (by omega)]; simp
    rw [hh, h5, f3]
    have hn : (Ls w)[A.length + 6 + z.length]? = none := List.getElem?_eq_none_iff.mpr (by omega)
    rw [hn]
    split <;> rfl
end K10

namespace K10
open PySem L2 Ko NumText
local macro_rules | `(tactic| walk_at "ko_ev_K10j") => `(tactic| simp only [YesS.fin, semD, den, mkE, mkT, mkX, mkS, YesS.seq, YesS.nil, YesS.ret, YesS.ifS, YesS.asg, y_c, y_v, y_f2, y_f1, y_fA, y_nil, y_cons, y_tup, y_lst, y_lstM, y_dic0, y_tF, y_bF, y_tAnd, y_tOr, y_tNot, y_not, y_and, y_or, y_if, y_call, y_kw, y_chain, y_slc, y_pN, y_pS, y_isi, y_ms, y_src, y_rng1, y_comp, y_yes, s_exp, s_par2, s_sub, s_for, ops_call, ops_ar, Yes.ok, nu_isascii, nu_isprintable, nu_isalpha, nu_islower, nu_isdigit, nu_join, nu_count, nu_startswith, nu_endswith, nu_zfill, nu_stripC])
local macro_rules | `(tactic| walk_at "ko_ar_K10j") => `(tactic| simp only [ex_some, ex_ite, bin_add, bin_sub, bin_mul, bin_div, bin_mod, bin_pow, add_ii, sub_ii, mul_ii, div_ii, mod_ii, pow_ii, neg_i, cmp_eq, cmp_ne, cmp_lt, cmp_le, cmp_gt, cmp_ge, cmp_is, cmp_isn, lt_ii, le_ii, gt_ii, ge_ii, eq_ii, ne_ii, tru_b, tru_i, as_b, int_i, abs_i, put_nm, put_tup, put_lst])
local macro_rules | `(tactic| walk_at "ko_li_K10j") => `(tactic| simp only [List.getElem?_cons_zero, List.getElem?_cons_succ, List.set_cons_succ, List.set_cons_zero, putl_nil, putl_cons, put_nm, put_tup, put_lst, Option.bind_some])


theorem en_end {z : Str} {i : Nat} (h : z.length < i + 7) : en z i = none := by
  cases e : en z i with
  | none => rfl
  | some e' => have := en_le e; omega
theorem rd_end {z : Str} {g : Nat} {i : Nat} (h : z.length < i + 7) : rd z g i = ([], i) := by
  cases g with
  | zero => rfl
  | succ g => unfold rd; rw [en_end h]
theorem rd_all {zs : List Str} {g : Nat} (h : ∀ z ∈ zs, Fx z) : rd (Ko.frs zs) (zs.length + g) 0 = (zs, (Ko.frs zs).length) := by
  have := rd_frs (w := Ko.frs zs) zs [] [] g h (by simp)
  rw [List.length_nil, Nat.zero_add, rd_end (i := (Ko.frs zs).length) (by omega), List.append_nil] at this
  exact this
theorem len_emp : ("" : Str).length = 0 := by decide +kernel
theorem str_nil {z : Str} (h : z.length = 0) : z = "" := str_ext (by
  rw [len_ls] at h
  rw [List.eq_nil_of_length_eq_zero h]
  decide +kernel)
theorem fr_emp : fr "" = "00000:;" := by decide +kernel
theorem whole_fr {z : Str} (T : Fx z) : decide ((rd (fr z) 30000 0).2 = (fr z).length) = true := by
  have := rd_all (zs := [z]) (g := 29999) (fun y hy => by simp at hy; exact hy ▸ T)
  rw [frs_one] at this
  rw [show 30000 = [z].length + 29999 from rfl, this]
  simp
theorem whole_sp {z : Str} (T : Fx z) : decide ((rd (fr z ++ " ") 30000 0).2 = (fr z ++ " ").length) = false := by
  have l1 : (" " : Str).length = 1 := by decide +kernel
  have := rd_frs (w := fr z ++ " ") [z] [] [32] 29999 (fun y hy => by simp at hy; exact hy ▸ T) (by rw [frs_one, ls_app]; rfl)
  rw [frs_one, List.length_nil, Nat.zero_add, rd_end (i := (fr z).length) (by rw [Str.length_append, l1]; omega)] at this
  rw [show 30000 = [z].length + 29999 from rfl, this]
  refine decide_eq_false ?_
  rw [Str.length_append, l1]
  show ¬ (fr z).length = _
  omega
theorem ls_12 : Ls "00012:" = [48, 48, 48, 49, 50, 58] := by decide +kernel
theorem whole_rf {z : Str} (T : Tz z) : decide ((rd (z ++ fr z) 30000 0).2 = (z ++ fr z).length) = decide (z = "" ∨ z = "00012:") := by
  have lf := fr_len T.fx
  have hl := T.len
  have e0 : Ls (z ++ fr z) = Ls z ++ (five z.length ++ 58 :: (Ls z ++ [59])) := by rw [ls_app, ls_fr T.fx]
  by_cases h0 : z.length = 0
  · have := str_nil h0
    subst this
    rw [decide_eq_true (p := _ ∨ _) (.inl rfl)]
    have := whole_fr (z := "") T.fx
    rwa [show ("" : Str) ++ fr "" = fr "" from str_ext (by rw [ls_app, show Ls ("" : Str) = [] from by decide +kernel, List.nil_append])]
  have hne : z ≠ "" := fun e => h0 (by rw [e]; exact len_emp)
  by_cases h12 : z = "00012:"
  · subst h12
    rw [decide_eq_true (p := _ ∨ _) (.inr rfl)]
    decide +kernel
  rw [decide_eq_false (p := _ ∨ _) (by rintro (q | q); exact hne q; exact h12 q)]
  have hn : en (z ++ fr z) 0 = none := by
    obtain ⟨f1, f2, f3⟩ := five_ok T.fx.fl
    rw [len_ls] at h0 hl
    unfold en
    simp only [List.drop_zero, Nat.zero_add]
    by_cases h6 : (Ls z).length = 6
    · have ht : (Ls (z ++ fr z)).take 6 = Ls z := by rw [e0, List.take_append, h6, List.take_of_length_le (by omega)]; simp
      rw [ht]
      split
      · rename_i q
        obtain ⟨_, q1, q2, q3⟩ := q
        rw [if_neg]
        intro q4
        refine h12 (str_ext ?_)
        rw [ls_12]
        obtain ⟨l, hz⟩ : ∃ l, l = Ls z := ⟨_, rfl⟩
        rw [← hz] at q1 q2 q3 q4 h6
        rw [← hz]
        have g6 : l[5]? = some 58 := q1
        rw [e0, ← hz] at q4
        match l, h6 with
        | [a, b, c, d, e, f], _ =>
          simp at g6
          subst g6
          have dd : digitsVal (List.take 5 [a, b, c, d, e, 58]) = ((((a - 48) * 10 + (b - 48)) * 10 + (c - 48)) * 10 + (d - 48)) * 10 + (e - 48) := by
            show digitsVal [a, b, c, d, e] = _
            simp [digitsVal]
          have q2' : dig a = true ∧ dig b = true ∧ dig c = true ∧ dig d = true ∧ dig e = true := by
            have := List.all_eq_true.mp q2
            exact ⟨this a (by simp), this b (by simp), this c (by simp), this d (by simp), this e (by simp)⟩
          simp only [dig, decide_eq_true_eq] at q2'
          have h9 : 6 + digitsVal (List.take 5 [a, b, c, d, e, 58]) = 18 := by
            have hlt := (List.getElem?_eq_some_iff.mp q4).1
            have L5 : (five z.length).length = 5 := f1
            simp only [List.length_append, List.length_cons, List.length_nil, L5] at hlt
            generalize digitsVal (List.take 5 [a, b, c, d, e, 58]) = v at q4 hlt ⊢
            by_cases g1 : v < 5
            · rw [List.getElem?_append_right (by simp), List.getElem?_append_left (by simp; omega)] at q4
              have := List.all_eq_true.mp f2 59 (List.mem_of_getElem? q4)
              exact absurd this (by decide)
            · rw [List.getElem?_append_right (by simp), List.getElem?_append_right (by simp; omega), L5] at q4
              simp only [List.length_cons, List.length_nil] at q4
              obtain ⟨u, hu⟩ : ∃ u, v = u + 5 := ⟨v - 5, by omega⟩
              subst hu
              rw [show 6 + (u + 5) - (0 + 1 + 1 + 1 + 1 + 1 + 1) - 5 = u by omega] at q4
              have hu : u ≤ 7 := by omega
              match u, hu with
              | 0, _ => simp at q4
              | 1, _ => simp at q4; omega
              | 2, _ => simp at q4; omega
              | 3, _ => simp at q4; omega
              | 4, _ => simp at q4; omega
              | 5, _ => simp at q4; omega
              | 6, _ => simp at q4
              | 7, _ => omega
          rw [dd] at h9
          have : a = 48 ∧ b = 48 ∧ c = 48 ∧ d = 49 ∧ e = 50 := by omega
          obtain ⟨rfl, rfl, rfl, rfl, rfl⟩ := this
          rfl
      · rfl
    · rw [if_neg]
      rintro ⟨_, q1, _⟩
      rw [e0, List.getElem?_take, if_pos (by decide), List.getElem?_append_right (by omega), List.getElem?_append_left (by omega)] at q1
      have := List.all_eq_true.mp f2 58 (List.mem_of_getElem? q1)
      exact absurd this (by decide)
  have hr : rd (z ++ fr z) 30000 0 = ([], 0) := by
    show (match en (z ++ fr z) 0 with | none => _ | some e => _) = _
    rw [hn]
  rw [hr, Str.length_append]
  exact decide_eq_false (by show ¬ 0 = _; omega)
end K10

namespace K10
open PySem L2 Ko NumText
local macro_rules | `(tactic| walk_at "ko_ev_K10k") => `(tactic| simp only [YesS.fin, semD, den, mkE, mkT, mkX, mkS, YesS.seq, YesS.nil, YesS.ret, YesS.ifS, YesS.asg, y_c, y_v, y_f2, y_f1, y_fA, y_nil, y_cons, y_tup, y_lst, y_lstM, y_dic0, y_tF, y_bF, y_tAnd, y_tOr, y_tNot, y_not, y_and, y_or, y_if, y_call, y_kw, y_chain, y_slc, y_pN, y_pS, y_isi, y_ms, y_src, y_rng1, y_comp, y_yes, s_exp, s_par2, s_sub, s_for, ops_call, ops_ar, Yes.ok, nu_isascii, nu_isprintable, nu_isalpha, nu_islower, nu_isdigit, nu_join, nu_count, nu_startswith, nu_endswith, nu_zfill, nu_stripC])
local macro_rules | `(tactic| walk_at "ko_ar_K10k") => `(tactic| simp only [ex_some, ex_ite, bin_add, bin_sub, bin_mul, bin_div, bin_mod, bin_pow, add_ii, sub_ii, mul_ii, div_ii, mod_ii, pow_ii, neg_i, cmp_eq, cmp_ne, cmp_lt, cmp_le, cmp_gt, cmp_ge, cmp_is, cmp_isn, lt_ii, le_ii, gt_ii, ge_ii, eq_ii, ne_ii, tru_b, tru_i, as_b, int_i, abs_i, put_nm, put_tup, put_lst])
local macro_rules | `(tactic| walk_at "ko_li_K10k") => `(tactic| simp only [List.getElem?_cons_zero, List.getElem?_cons_succ, List.set_cons_succ, List.set_cons_zero, putl_nil, putl_cons, put_nm, put_tup, put_lst, Option.bind_some])


theorem fd_taken : findD ds "_law_taken" = some d__law_taken := by rfl
theorem sOk {z : Str} (h : ∀ c ∈ Ls z, c < 1114112) : PyData.strOk z = true := by
  unfold PyData.strOk
  rw [show ∀ p : Nat → Bool, z.cps.all p = z.cps.toList.all p from fun p => by simp]
  exact List.all_eq_true.mpr fun c hc => decide_eq_true (h c hc)
theorem chF {z : Str} (F : Fx z) : ∀ c ∈ Ls z, c < 1114112 := fun c hc => by
  have := F.ch c hc
  omega
theorem chFr {z : Str} (F : Fx z) : ∀ c ∈ Ls (fr z), c < 1114112 := fun c hc => by
  have := fr_sg F c hc
  omega
theorem fx_of {z : Str} (h : ∀ c ∈ Ls z, 32 ≤ c ∧ c ≤ 126) (l : z.length ≤ 80000) : Fx z := ⟨⟨h, by omega⟩, l⟩
theorem tx_fr {z : Str} (F : Fx z) : Tx (fr z) := ⟨fr_sg F, by rw [fr_len F]; have := F.fl; omega⟩
theorem tk_eq {ah : AH} {m : Nat} {z : Str} {n : Nat} {b : Int} (F : Fx z) (h : ah[m]? = some (txo [z])) :
    eqF ah (.lst [.str (fr z), .str (Ko.frs []), .str (Ko.frs []), .str (Ko.frs ["", z]), .tup [.ref m, .int n], .int 0, .int 0, .int b, .int 2]) (.lst [.str (fr z), .str "", .str "", .str ("00000:;" ++ fr z), .tup [.lst [.str z], .int n], .int 0, .int 0, .int b, .int 2]) = some (.bl true) := by
  have e1 : Ko.frs ["", z] = "00000:;" ++ fr z := by rw [show (["", z] : List Str) = [("" : Str)] ++ [z] from rfl, frs_app, frs_one, frs_one, fr_emp]
  have e0 : Ko.frs [] = "" := by decide +kernel
  rw [e1, e0]
  have hr : datH ah (.ref m) = some (.list [.str z]) := by
    show datR ah m = _
    unfold datR
    rw [h]
    rfl
  have hr' : datR ah m = some (.list [.str z]) := hr
  have d1 : datH ah (.lst [.str (fr z), .str "", .str "", .str ("00000:;" ++ fr z), .tup [.ref m, .int n], .int 0, .int 0, .int b, .int 2]) = some (.list [.str (fr z), .str "", .str "", .str ("00000:;" ++ fr z), .tuple [.list [.str z], .int n], .int 0, .int 0, .int b, .int 2]) := by
    simp only [datH, datHL, hr', Option.bind_some, Option.map_some]
  have d2 : datH ah (.lst [.str (fr z), .str "", .str "", .str ("00000:;" ++ fr z), .tup [.lst [.str z], .int n], .int 0, .int 0, .int b, .int 2]) = some (.list [.str (fr z), .str "", .str "", .str ("00000:;" ++ fr z), .tuple [.list [.str z], .int n], .int 0, .int 0, .int b, .int 2]) := by
    simp only [datH, datHL, Option.bind_some, Option.map_some]
  have s : SeqAt.shaped (.list [.str (fr z), .str "", .str "", .str ("00000:;" ++ fr z), .tuple [.list [.str z], .int n], .int 0, .int 0, .int b, .int 2]) = true := by
    have h1 := sOk (chFr F)
    have h2 := sOk (chF F)
    have h3 : PyData.strOk ("00000:;" ++ fr z) = true := sOk fun c hc => by
      rw [ls_app, List.mem_append] at hc
      rcases hc with hc | hc
      · exact of_decide_eq_true (List.all_eq_true.mp (show (Ls "00000:;").all (fun c => decide (c < 1114112)) = true by decide +kernel) c hc)
      · exact chFr F c hc
    have h4 : PyData.strOk "" = true := by decide +kernel
    unfold SeqAt.shaped
    simp only [PyData.canLay0, PyData.canLayAll0, PyData.depth, PyData.depthAll, h1, h2, h3, h4]
    rfl
  show (eqD ah _ _).map AV.bl = _
  unfold eqD
  rw [d1, d2, Option.bind_some, Option.bind_some, if_pos ⟨s, s⟩]
  simp only [PyData.eqv, PyData.eqvAll, Option.map_some]
  simp
theorem in2 {ah : AH} {z a b : Str} : inF ah (.str z) (.lst [.str a, .str b]) = some (.bl (decide (z = a ∨ z = b))) := by
  show some (AV.bl (inV (.str z) [.str a, .str b])) = _
  have e : inV (.str z) [.str a, .str b] = decide (z = a ∨ z = b) := by
    show ((a == z) || ((b == z) || false)) = _
    rw [Bool.or_false, Bool.decide_or]
    congr 1
    · rw [Bool.eq_iff_iff, beq_iff_eq, decide_eq_true_eq]; exact eq_comm
    · rw [Bool.eq_iff_iff, beq_iff_eq, decide_eq_true_eq]; exact eq_comm
  rw [e]
theorem c_taken {k n : Nat} {ah : AH} {c : Int} (B : Box ah ah n c) (hc : c ≤ 60000) : Yes (cl ds (k + 6) "_law_taken" [.ref n] ah) fun v ah' => v = .bl true ∧ Box ah' ah' n (c + 10) := by
  rw [cl_eq fd_taken]
  simp only [d__law_taken, t__law_taken]
  walk_at "ko_ev_K10k"
  simp only [show startA ["box", "row", "signs", "found", "due", "judged"] [.ref n] = [some (.ref n), none, none, none, none, none] from rfl]
  walk_at "ko_li_K10k"
  refine ⟨rfl, (c_text B (by omega)).imp fun v ah1 ⟨z, e, T, B⟩ => ?_⟩
  subst e
  refine ⟨drw.arity.symm, (take_ok drw B (by omega) (by decide) (by decide)).imp fun y ah2 ⟨s, e, s0, s1, B⟩ => ?_⟩
  subst e
  have F := T.fx
  refine ⟨rfl, (w_framed frm F).imp fun v ah3 ⟨e1, e2⟩ => ?_⟩
  subst e1 e2
  have hn : ∀ {ah}, Row ah (.lst []) [] ∧ Row ah (.tup []) [] := fun {ah} => ⟨⟨⟨_, rfl, rfl⟩, .inl rfl, by simp, by simp, by simp⟩, ⟨⟨_, rfl, rfl⟩, .inr rfl, by simp, by simp, by simp⟩⟩
  have h2 : ∀ {ah} {us : List Str}, (∀ u ∈ us, Tz u) → us.length ≤ 2 → Row ah (.lst (us.map .str)) us := fun {ah us} h l => (row_lst h (by omega)).1
  have Te : Tz "" := ⟨fun c hc => absurd (show c ∈ ([] : List Nat) from (show Ls ("" : Str) = [] from by decide +kernel) ▸ hc) List.not_mem_nil, by rw [len_emp]; decide⟩
  refine ⟨by show 0 ≤ sizeLine; decide, rfl, (w_all frm hn.1).imp fun v ah3 ⟨e1, e2⟩ => ?_⟩
  subst e1 e2
  refine ⟨by show 0 ≤ sizeLine; decide, rfl, (w_all frm hn.2).imp fun v ah3 ⟨e1, e2⟩ => ?_⟩
  subst e1 e2
  refine ⟨by show 2 ≤ sizeLine; decide, rfl, (w_all frm (h2 (us := ["", z]) (by intro u hu; simp at hu; rcases hu with rfl | rfl; exact Te; exact T) (by simp))).imp fun v ah3 ⟨e1, e2⟩ => ?_⟩
  subst e1 e2
  refine ⟨rfl, (w_lframe frm F).imp fun v ah3 ⟨e1, e2⟩ => ?_⟩
  subst e1 e2
  refine ⟨rfl, (w_fin frm (tx_fr F)).imp fun v ah4 ⟨e1, e2⟩ => ?_⟩
  subst e1 e2
  have hr := rd_all (zs := [z]) (g := 29999) (fun y hy => by simp at hy; exact hy ▸ F)
  rw [frs_one, show [z].length + 29999 = 30000 from rfl] at hr
  have B := B.app (tl := [txo (rd (fr z) 30000 0).1])
  have hm : (ah3 ++ [txo (rd (fr z) 30000 0).1])[ah3.length]? = some (txo [z]) := by rw [get_last, hr]
  rw [hr]
  rw [hr] at B hm
  generalize hA : ah3 ++ [txo ([z], (fr z).length).1] = ah4 at B hm
  have lf := fr_len F
  have zl := T.len
  have l7 : ("00000:;" : Str).length = 7 := by decide +kernel
  have lsp : (" " : Str).length = 1 := by decide +kernel
  refine ⟨by show 5 ≤ sizeLine; decide, rfl, (w_lframe frm F).imp fun v ah5 ⟨e1, e2⟩ => ?_⟩
  subst e1 e2
  refine ⟨rfl, (w_lframe frm F).imp fun v ah5 ⟨e1, e2⟩ => ?_⟩
  subst e1 e2
  try walk_at "ko_ar_K10k"
  rw [add_ss, if_pos (by rw [l7, sz]; omega), ex_some]
  refine ⟨by show 1 ≤ sizeLine; decide, ?_⟩
  rw [len_s, if_pos (by rw [sz]; omega)]
  try walk_at "ko_ar_K10k"
  refine ⟨by show 2 ≤ sizeLine; decide, by show 5 ≤ sizeLine; decide, by show 0 ≤ sizeLine; decide, rfl, (c_cut hn.1 s0).imp fun v ah6 ⟨e1, e2⟩ => ?_⟩
  subst e1 e2
  refine ⟨by show 0 ≤ sizeLine; decide, rfl, (c_cut hn.2 (by decide)).imp fun v ah6 ⟨e1, e2⟩ => ?_⟩
  subst e1 e2
  refine ⟨by show 1 ≤ sizeLine; decide, rfl, (c_cut (h2 (us := [""]) (by intro u hu; simp at hu; exact hu ▸ Te) (by simp)) s0).imp fun v ah6 ⟨e1, e2⟩ => ?_⟩
  subst e1 e2
  have hp : (10 : Int) ^ Int.toNat 14 = 100000000000000 := by decide
  have hctn : ∀ {s : Int}, 100 ≤ s → ctn s [z, ""] 0 = 2 := fun {s} hs => by
    have h1 : ctn s [z, ""] 0 = if (0 : Int) + (z.length + 7) > s then 0 else ctn s [""] (0 + (z.length + 7)) + 1 := rfl
    have h2 : ctn s [""] (0 + (z.length + 7)) = if (0 : Int) + (z.length + 7) + (("" : Str).length + 7) > s then 0 else ctn s [] (0 + (z.length + 7) + (("" : Str).length + 7)) + 1 := rfl
    have l0 := len_emp
    rw [h1, if_neg (by omega), h2, if_neg (by omega)]
    rfl
  have hct1 : ctn s [""] 0 = if 6 < s then 1 else 0 := by
    have h1 : ctn s [""] 0 = if (0 : Int) + (("" : Str).length + 7) > s then 0 else ctn s [] (0 + (("" : Str).length + 7)) + 1 := rfl
    have l0 := len_emp
    rw [h1]
    by_cases g : 6 < s
    · rw [if_neg (by omega), if_pos g]; rfl
    · rw [if_pos (by omega), if_neg g]
  refine ⟨⟨by decide, by decide, by decide⟩, by show 2 ≤ sizeLine; decide, ⟨rfl, rfl⟩, rfl, ?_⟩
  refine (c_cut (k := k + 1) (h2 (us := [z, ""]) (by intro u hu; simp at hu; rcases hu with rfl | rfl; exact T; exact Te) (by simp)) (s := 10 ^ Int.toNat 14) (by decide)).imp fun v ah7 ⟨e1, e2⟩ => ?_
  subst e1 e2
  refine ⟨by show 4 ≤ sizeLine; decide, ?_⟩
  rw [add_ll, if_pos (by show 5 + 4 ≤ sizeLine; decide), ex_some]
  refine ⟨.int (if 6 < s then 1 else 0), by show some (AV.int (if decide (6 < s) = true then 1 else 0)) = _; simp, by show 4 ≤ sizeLine; decide, ?_⟩
  rw [add_ll, if_pos (by show 5 + 4 ≤ sizeLine; decide), ex_some]
  refine ⟨rfl, (w_lframe frm F).imp fun v ah8 ⟨e1, e2⟩ => ?_⟩
  subst e1 e2
  refine ⟨rfl, (w_whole frm (tx_fr F)).imp fun v ah9 ⟨e1, o1, e2⟩ => ?_⟩
  subst e1 e2
  have B := B.app (tl := [o1])
  have hm := (List.getElem?_append_left (l₂ := [o1]) (List.getElem?_eq_some_iff.mp hm).1).trans hm
  generalize ah8 ++ [o1] = ah10 at B hm
  refine ⟨rfl, (w_lframe frm F).imp fun v ah8 ⟨e1, e2⟩ => ?_⟩
  subst e1 e2
  rw [add_ss, if_pos (by rw [sz]; omega), ex_some]
  have t2 : Tx (z ++ fr z) := ⟨fun c hc => by
    rw [ls_app, List.mem_append] at hc
    rcases hc with hc | hc
    · exact F.ch c hc
    · exact fr_sg F c hc, by rw [Str.length_append]; omega⟩
  refine ⟨rfl, (w_whole frm t2).imp fun v ah9 ⟨e1, o2, e2⟩ => ?_⟩
  subst e1 e2
  have B := B.app (tl := [o2])
  have hm := (List.getElem?_append_left (l₂ := [o2]) (List.getElem?_eq_some_iff.mp hm).1).trans hm
  generalize ah8 ++ [o2] = ah11 at B hm
  refine ⟨rfl, (w_whole frm Te.fx.toTx).imp fun v ah9 ⟨e1, o3, e2⟩ => ?_⟩
  subst e1 e2
  have B := B.app (tl := [o3])
  have hm := (List.getElem?_append_left (l₂ := [o3]) (List.getElem?_eq_some_iff.mp hm).1).trans hm
  generalize ah11 ++ [o3] = ah12 at B hm
  refine ⟨rfl, (w_lframe frm F).imp fun v ah8 ⟨e1, e2⟩ => ?_⟩
  subst e1 e2
  rw [add_ss, if_pos (by rw [lsp, sz]; omega), ex_some]
  have t3 : Tx (fr z ++ " ") := ⟨fun c hc => by
    rw [ls_app, List.mem_append] at hc
    rcases hc with hc | hc
    · exact fr_sg F c hc
    · rw [show Ls (" " : Str) = [32] from by decide +kernel] at hc
      simp at hc
      omega, by rw [Str.length_append, lsp]; omega⟩
  refine ⟨rfl, (w_whole frm t3).imp fun v ah9 ⟨e1, o4, e2⟩ => ?_⟩
  subst e1 e2
  have B := B.app (tl := [o4])
  have hm := (List.getElem?_append_left (l₂ := [o4]) (List.getElem?_eq_some_iff.mp hm).1).trans hm
  generalize ah8 ++ [o4] = ah13 at B hm
  have w1 : decide ((rd "" 30000 0).2 = ("" : Str).length) = true := by
    rw [rd_end (by rw [len_emp]; decide), len_emp]; rfl
  rw [whole_fr F, whole_rf T, w1, whole_sp F]
  refine ⟨by show 4 ≤ sizeLine; decide, ?_⟩
  rw [hct1, hctn (by decide)]
  have he := tk_eq (ah := ah13) (n := (fr z).length) (b := if 6 < s then 1 else 0) F hm
  refine ⟨.bl true, ?_, ?_⟩
  · rw [show ((if 6 < s then 1 else 0 : Nat) : Int) = (if 6 < s then 1 else 0 : Int) by split <;> rfl, show (z.length : Int) + 7 = (((fr z).length : Nat) : Int) by omega]
    exact he
  rw [tru_b, ex_some, if_pos rfl]
  obtain ⟨r, hr⟩ := repr_ok (a := .lst [.bl true, .bl (decide (z = "" ∨ z = "00012:")), .bl true, .bl false]) rfl (by rw [show ∀ b, bkA (.lst [.bl true, .bl b, .bl true, .bl false]) = bkA (.lst [.bl true, .bl true, .bl true, .bl false]) from fun b => by cases b <;> rfl]; decide) (by rw [show ∀ b, dpA (.lst [.bl true, .bl b, .bl true, .bl false]) = dpA (.lst [.bl true, .bl true, .bl true, .bl false]) from fun b => by cases b <;> rfl]; decide)
  refine ⟨.str r, hr _, by show 2 ≤ sizeLine; decide, _, in2, by show 4 ≤ sizeLine; decide, .str r, hr _, ?_⟩
  rw [eq_ss, decide_eq_true rfl, ex_some]
  exact ⟨by first | rfl | trivial, B.mono (by omega)⟩
end K10

namespace K10
open PySem L2 Ko NumText
local macro_rules | `(tactic| walk_at "ko_ev_K10l") => `(tactic| simp only [YesS.fin, semD, den, mkE, mkT, mkX, mkS, YesS.seq, YesS.nil, YesS.ret, YesS.ifS, YesS.asg, y_c, y_v, y_f2, y_f1, y_fA, y_nil, y_cons, y_tup, y_lst, y_lstM, y_dic0, y_tF, y_bF, y_tAnd, y_tOr, y_tNot, y_not, y_and, y_or, y_if, y_call, y_kw, y_chain, y_slc, y_pN, y_pS, y_isi, y_ms, y_src, y_rng1, y_comp, y_yes, s_exp, s_par2, s_sub, s_for, ops_call, ops_ar, Yes.ok, nu_isascii, nu_isprintable, nu_isalpha, nu_islower, nu_isdigit, nu_join, nu_count, nu_startswith, nu_endswith, nu_zfill, nu_stripC])
local macro_rules | `(tactic| walk_at "ko_ar_K10l") => `(tactic| simp only [ex_some, ex_ite, bin_add, bin_sub, bin_mul, bin_div, bin_mod, bin_pow, add_ii, sub_ii, mul_ii, div_ii, mod_ii, pow_ii, neg_i, cmp_eq, cmp_ne, cmp_lt, cmp_le, cmp_gt, cmp_ge, cmp_is, cmp_isn, lt_ii, le_ii, gt_ii, ge_ii, eq_ii, ne_ii, tru_b, tru_i, as_b, int_i, abs_i, put_nm, put_tup, put_lst])
local macro_rules | `(tactic| walk_at "ko_li_K10l") => `(tactic| simp only [List.getElem?_cons_zero, List.getElem?_cons_succ, List.set_cons_succ, List.set_cons_zero, putl_nil, putl_cons, put_nm, put_tup, put_lst, Option.bind_some])


theorem fd_bound : findD ds "_law_at_the_bound" = some d__law_at_the_bound := by rfl
theorem told_0 {k : Nat} {t m : AV} {ah : AH} {P : AV → AH → Prop} (h : Yes (cl ds (k + 1) "framed" [t] ah) fun v ah' => P (.lst [.str "told", v]) ah') : Yes (cl ds (k + 2) "_law_met" [.int 0, t, m] ah) P := by
  rw [met_eq, YesS.fin, YesS.seq]
  refine sx_tryOk ?_
  unfold metB t__law_met
  walk_at "ko_ev_K10l"
  try walk_at "ko_li_K10l"
  try walk_at "ko_ar_K10l"
  rw [if_pos (by decide)]
  try walk_at "ko_ev_K10l"
  try walk_at "ko_li_K10l"
  exact ⟨rfl, h.imp fun v ah1 q => ⟨by show 2 ≤ sizeLine; decide, q⟩⟩
theorem told_2 {k : Nat} {t m : AV} {ah : AH} {P : AV → AH → Prop} (h : Yes (cl ds (k + 1) "frames_in" [t] ah) fun v ah' => P (.lst [.str "told", v]) ah') : Yes (cl ds (k + 2) "_law_met" [.int 2, t, m] ah) P := by
  rw [met_eq, YesS.fin, YesS.seq]
  refine sx_tryOk ?_
  unfold metB t__law_met
  walk_at "ko_ev_K10l"
  try walk_at "ko_li_K10l"
  try walk_at "ko_ar_K10l"
  rw [if_neg (by decide)]
  try walk_at "ko_ev_K10l"
  try walk_at "ko_li_K10l"
  try walk_at "ko_ar_K10l"
  rw [if_neg (by decide)]
  try walk_at "ko_ev_K10l"
  try walk_at "ko_li_K10l"
  try walk_at "ko_ar_K10l"
  rw [if_pos (by decide)]
  try walk_at "ko_ev_K10l"
  try walk_at "ko_li_K10l"
  exact ⟨rfl, h.imp fun v ah1 q => ⟨by show 2 ≤ sizeLine; decide, q⟩⟩
theorem len_x {c : Str} {n : Int} (h : c.length = 1) (h0 : 0 ≤ n) : (Txt.mul c n).length = n.toNat := by
  have := PyProof.Rows.len_mul c n
  rw [h, if_neg (by simpa using h0)] at this
  omega
theorem foldl_app {x : Array Nat} : ∀ (n : Nat) (acc : Array Nat), ((List.replicate n x).foldl (· ++ ·) acc).toList = acc.toList ++ (List.replicate n x.toList).flatten
  | 0, acc => by simp
  | n + 1, acc => by
    rw [List.replicate_succ, List.foldl_cons, foldl_app n, List.replicate_succ, List.flatten_cons]
    simp
theorem flat_nil : ∀ n : Nat, (List.replicate n ([] : List Nat)).flatten = []
  | 0 => rfl
  | n + 1 => by rw [List.replicate_succ, List.flatten_cons, flat_nil n]; rfl
theorem ls_mul {z : Str} {n : Nat} : Ls (Txt.mul z (n : Int)) = (List.replicate n (Ls z)).flatten := by
  unfold Txt.mul
  split
  · rename_i h
    have : n = 0 := by omega
    subst this
    simp [Str.empty]
  · split
    · rename_i h
      rw [Bool.or_eq_true, beq_iff_eq, beq_iff_eq] at h
      rcases h with h | h
      · have : n = 1 := by omega
        subst this
        simp
      · have e : Ls z = [] := List.length_eq_zero_iff.mp (by rw [← len_ls]; exact h)
        rw [e, flat_nil]
    · exact (foldl_app _ _).trans (by simp)
theorem ls_P {G : Str} (F : Fx G) (l : G.length = 80000) : "80000:" ++ G ++ ";" = fr G := by
  refine str_ext ?_
  rw [ls_app, ls_app, ls_fr F, l, semi, show Ls "80000:" = five 80000 ++ [58] from by decide +kernel]
  simp
theorem en_big {w : Str} {M : List Nat} (e : Ls w = Ls "80001:" ++ M) : en w 0 = none := by
  unfold en
  simp only [List.drop_zero, Nat.zero_add]
  have h6 : (Ls w).take 6 = Ls "80001:" := by
    rw [e, List.take_append, show (Ls "80001:").length = 6 from by decide +kernel, List.take_of_length_le (by decide +kernel)]; simp
  rw [h6, if_neg]
  rintro ⟨_, _, _, q⟩
  exact absurd q (by decide +kernel)
theorem ne_told {ah : AH} {z : Str} (h : ∀ c ∈ Ls z, c < 1114112) : neF ah (.lst [.str "told", .str z]) (.lst [.str "told", .str z]) = some (.bl false) := by
  have hz := sOk h
  have ht : PyData.strOk "told" = true := by decide +kernel
  have d : datH ah (.lst [.str "told", .str z]) = some (.list [.str "told", .str z]) := rfl
  have s : SeqAt.shaped (.list [.str "told", .str z]) = true := by
    unfold SeqAt.shaped
    simp only [PyData.canLay0, PyData.canLayAll0, PyData.depth, PyData.depthAll, hz, ht]
    rfl
  show (eqD ah _ _).map (fun c => AV.bl (!c)) = _
  unfold eqD
  rw [d, Option.bind_some, Option.bind_some, if_pos ⟨s, s⟩]
  simp only [PyData.eqv, PyData.eqvAll, Option.map_some]
  simp
theorem ne_told2 {ah : AH} {m : Nat} {z : Str} {i : Int} (h : ∀ c ∈ Ls z, c < 1114112) (g : ah[m]? = some (txo [z])) : neF ah (.lst [.str "told", .tup [.ref m, .int i]]) (.lst [.str "told", .tup [.lst [.str z], .int i]]) = some (.bl false) := by
  have hz := sOk h
  have ht : PyData.strOk "told" = true := by decide +kernel
  have hr : datR ah m = some (.list [.str z]) := by
    unfold datR
    rw [g]
    rfl
  have d1 : datH ah (.lst [.str "told", .tup [.ref m, .int i]]) = some (.list [.str "told", .tuple [.list [.str z], .int i]]) := by
    simp only [datH, datHL, hr, Option.bind_some, Option.map_some]
  have d2 : datH ah (.lst [.str "told", .tup [.lst [.str z], .int i]]) = some (.list [.str "told", .tuple [.list [.str z], .int i]]) := by
    simp only [datH, datHL, Option.bind_some, Option.map_some]
  have s : SeqAt.shaped (.list [.str "told", .tuple [.list [.str z], .int i]]) = true := by
    unfold SeqAt.shaped
    simp only [PyData.canLay0, PyData.canLayAll0, PyData.depth, PyData.depthAll, hz, ht]
    rfl
  show (eqD ah _ _).map (fun c => AV.bl (!c)) = _
  unfold eqD
  rw [d1, d2, Option.bind_some, Option.bind_some, if_pos ⟨s, s⟩]
  simp only [PyData.eqv, PyData.eqvAll, Option.map_some]
  simp
theorem ne_two {ah : AH} {m : Nat} {i : Int} (g : ah[m]? = some (txo [])) : neF ah (.tup [.ref m, .int i]) (.tup [.lst [], .int i]) = some (.bl false) := by
  have hr : datR ah m = some (.list []) := by
    unfold datR
    rw [g]
    rfl
  have d1 : datH ah (.tup [.ref m, .int i]) = some (.tuple [.list [], .int i]) := by
    simp only [datH, datHL, hr, Option.bind_some, Option.map_some]
  have d2 : datH ah (.tup [.lst [], .int i]) = some (.tuple [.list [], .int i]) := by
    simp only [datH, datHL, Option.bind_some, Option.map_some]
  have s : SeqAt.shaped (.tuple [.list [], .int i]) = true := by
    unfold SeqAt.shaped
    simp only [PyData.canLay0, PyData.canLayAll0, PyData.depth, PyData.depthAll]
    rfl
  show (eqD ah _ _).map (fun c => AV.bl (!c)) = _
  unfold eqD
  rw [d1, d2, Option.bind_some, Option.bind_some, if_pos ⟨s, s⟩]
  simp only [PyData.eqv, PyData.eqvAll, Option.map_some]
  simp
theorem big_hf {z : Str} (h : 80000 < z.length) : hfB (.str z) = false := by
  show (Txt.isascii z && Txt.isprintable z && decide (z.length ≤ 80000)) = false
  rw [decide_eq_false (by omega), Bool.and_false]
theorem bnd_of {r : Ot AV} (h : Yes r fun v _ => v = .bl true) : ∃ ah', r = .ok (.bl true) ah' := by
  obtain ⟨a, ah', e, rfl⟩ := h.eq
  exact ⟨ah', e⟩
theorem c_bound {k : Nat} {ah : AH} : ∃ ah', cl ds (k + 7) "_law_at_the_bound" [] ah = .ok (.bl true) ah' := by
  refine bnd_of ?_
  rw [cl_eq fd_bound]
  simp only [d__law_at_the_bound, t__law_at_the_bound]
  walk_at "ko_ev_K10l"
  simp only [show startA ["great", "twice", "more", "door"] [] = [none, none, none, none] from rfl]
  obtain ⟨G, hG⟩ : ∃ G, G = Txt.mul "x" 80000 := ⟨_, rfl⟩
  have lx : ("x" : Str).length = 1 := by decide +kernel
  have gl : G.length = 80000 := by rw [hG, len_x lx (by decide)]; rfl
  have gx : ∀ c ∈ Ls G, c = 120 := by rw [hG]; exact chs_mul (p := fun c => c = 120) (fun c hc => by rw [show ("x" : Str).cps.toList = [120] from by decide +kernel] at hc; simpa using hc)
  have F : Fx G := fx_of (fun c hc => by have := gx c hc; omega) (by omega)
  have hP := ls_P F gl
  have lf := fr_len F
  have l6 : ("80000:" : Str).length = 6 := by decide +kernel
  have l6' : ("80001:" : Str).length = 6 := by decide +kernel
  have l1 : (";" : Str).length = 1 := by decide +kernel
  rw [bin_mul, mul_s, if_pos ⟨by decide, by rw [lx, sz]; decide, by decide⟩, ex_some, ← hG]
  walk_at "ko_li_K10l"
  refine ⟨by show 0 ≤ sizeLine; decide, rfl, told_0 ((w_framed frm F).imp fun v ah3 ⟨e1, e2⟩ => ?_)⟩
  subst e1 e2
  rw [bin_add, add_ss, if_pos (by rw [l6, sz]; omega), ex_some, add_ss, if_pos (by rw [Str.length_append, l6, l1, sz]; omega), ex_some, hP]
  refine ⟨by show 2 ≤ sizeLine; decide, ?_⟩
  rw [cmp_ne, ne_told (chFr F), ex_some, as_b, ex_some, if_neg Bool.false_ne_true]
  try walk_at "ko_ev_K10l"
  walk_at "ko_li_K10l"
  have hr := rd_all (zs := [G]) (g := 29999) (fun y hy => by simp at hy; exact hy ▸ F)
  rw [frs_one, show [G].length + 29999 = 30000 from rfl, lf, gl] at hr
  have hr1 : (rd (fr G) 30000 0).1 = [G] := by rw [hr]
  have hr2 : (rd (fr G) 30000 0).2 = 80007 := by rw [hr]
  rw [add_ss, if_pos (by rw [l6, sz]; omega), ex_some, add_ss, if_pos (by rw [Str.length_append, l6, l1, sz]; omega), ex_some, hP]
  refine ⟨by show 0 ≤ sizeLine; decide, rfl, told_2 (k := k + 4) ((w_fin frm (tx_fr F)).imp fun v ah4 ⟨e1, e2⟩ => ?_)⟩
  subst e1 e2
  rw [hr1, hr2]
  refine ⟨by show 1 ≤ sizeLine; decide, by show 2 ≤ sizeLine; decide, by show 2 ≤ sizeLine; decide, ?_⟩
  have n2 := ne_told2 (ah := ah3 ++ [txo [G]]) (i := ((80007 : Nat) : Int)) (chF F) get_last
  rw [show ((80007 : Nat) : Int) = 80007 from rfl] at n2 ⊢
  rw [n2, ex_some, as_b, ex_some, if_neg Bool.false_ne_true]
  try walk_at "ko_ev_K10l"
  walk_at "ko_li_K10l"
  generalize ah3 ++ [txo [G]] = ah5
  rw [add_ss, if_pos (by rw [l6, sz]; omega), ex_some, add_ss, if_pos (by rw [Str.length_append, l6, l1, sz]; omega), ex_some, hP]
  have t2 : Txt.mul (fr G) 2 = Ko.frs [G, G] := by
    refine str_ext ?_
    rw [show ([G, G] : List Str) = [G] ++ [G] from rfl, frs_app, frs_one, ls_app, show (2 : Int) = ((2 : Nat) : Int) from rfl, ls_mul]
    simp [List.replicate]
  have l2 : (Ko.frs [G, G]).length = 160014 := by rw [show ([G, G] : List Str) = [G] ++ [G] from rfl, frs_app, frs_one, Str.length_append, lf, gl]
  have hq := rd_all (zs := [G, G]) (g := 29998) (fun y hy => by simp at hy; exact hy ▸ F)
  rw [show [G, G].length + 29998 = 30000 from rfl, l2] at hq
  have hq1 : (rd (Ko.frs [G, G]) 30000 0).1 = [G, G] := by rw [hq]
  have hq2 : (rd (Ko.frs [G, G]) 30000 0).2 = 160014 := by rw [hq]
  have T2 : Tx (Ko.frs [G, G]) := ⟨fun c hc => by
    rw [show ([G, G] : List Str) = [G] ++ [G] from rfl, frs_app, frs_one, ls_app, List.mem_append] at hc
    rcases hc with hc | hc <;> exact fr_sg F c hc, by omega⟩
  rw [mul_s, if_pos ⟨by decide, by rw [lf, gl, sz]; decide, by decide⟩, ex_some, t2]
  try walk_at "ko_li_K10l"
  refine ⟨rfl, (w_fin frm T2).imp fun v ah6 ⟨e1, e2⟩ => ?_⟩
  subst e1 e2
  rw [hq1, hq2]
  refine ⟨.int ((160014 : Nat) : Int), rfl, ?_⟩
  rw [ne_ii, ex_some, as_b, ex_some, decide_eq_true (by rfl), if_neg (by decide)]
  try walk_at "ko_ev_K10l"
  try walk_at "ko_li_K10l"
  refine ⟨rfl, (w_whole frm T2).imp fun v ah7 ⟨e1, o1, e2⟩ => ?_⟩
  subst e1 e2
  rw [hq2, l2, decide_eq_true rfl]
  rw [cmp_isn, isn_bb, ex_some, as_b, ex_some, decide_eq_true rfl]
  try walk_at "ko_ev_K10l"
  try walk_at "ko_li_K10l"
  rw [if_neg (by decide), YesS.nil]
  try walk_at "ko_li_K10l"
  generalize ah5 ++ [txo [G, G]] ++ [o1] = ah8
  obtain ⟨M, hM⟩ : ∃ M, M = G ++ "x" := ⟨_, rfl⟩
  have ml : M.length = 80001 := by rw [hM, Str.length_append, gl, lx]
  have mx : ∀ c ∈ Ls M, c = 120 := fun c hc => by
    rw [hM, ls_app, List.mem_append] at hc
    rcases hc with hc | hc
    · exact gx c hc
    · rw [show Ls ("x" : Str) = [120] from by decide +kernel] at hc
      simpa using hc
  have mc : ∀ c ∈ Ls M, c < 1114112 := fun c hc => by have := mx c hc; omega
  obtain ⟨W, hW⟩ : ∃ W, W = "80001:" ++ M ++ ";" := ⟨_, rfl⟩
  have wl : W.length = 80008 := by rw [hW, Str.length_append, Str.length_append, l6', l1, ml]
  have TW : Tx W := ⟨fun c hc => by
    rw [hW, ls_app, ls_app, List.mem_append, List.mem_append] at hc
    rcases hc with (hc | hc) | hc
    · exact of_decide_eq_true (List.all_eq_true.mp (show (Ls "80001:").all (fun c => decide (32 ≤ c ∧ c ≤ 126)) = true by decide +kernel) c hc)
    · have := mx c hc; omega
    · rw [semi] at hc
      simp at hc
      omega, by omega⟩
  have eW : en W 0 = none := en_big (M := Ls M ++ Ls ";") (by rw [hW, ls_app, ls_app, List.append_assoc])
  have rW : rd W 30000 0 = ([], 0) := by
    show (match en W 0 with | none => _ | some e => _) = _
    rw [eW]
  have rW1 : (rd W 30000 0).1 = [] := by rw [rW]
  have rW2 : (rd W 30000 0).2 = 0 := by rw [rW]
  rw [add_ss, if_pos (by rw [lx, sz]; omega), ex_some, ← hM]
  try walk_at "ko_li_K10l"
  rw [add_ss, if_pos (by rw [l6', sz]; omega), ex_some, add_ss, if_pos (by rw [Str.length_append, l6', l1, sz]; omega), ex_some, ← hW]
  refine ⟨rfl, (w_fin frm TW).imp fun v ah9 ⟨e1, e2⟩ => ?_⟩
  subst e1 e2
  rw [rW1, rW2]
  refine ⟨by show 0 ≤ sizeLine; decide, by show 2 ≤ sizeLine; decide, ?_⟩
  have n3 := ne_two (ah := ah8 ++ [txo []]) (i := ((0 : Nat) : Int)) get_last
  rw [show ((0 : Nat) : Int) = 0 from rfl] at n3 ⊢
  rw [n3, ex_some, as_b, ex_some, if_neg Bool.false_ne_true]
  try walk_at "ko_ev_K10l"
  try walk_at "ko_li_K10l"
  rw [add_ss, if_pos (by rw [l6', sz]; omega), ex_some, add_ss, if_pos (by rw [Str.length_append, l6', l1, sz]; omega), ex_some, ← hW]
  refine ⟨rfl, (w_whole frm TW).imp fun v ah9 ⟨e1, o2, e2⟩ => ?_⟩
  subst e1 e2
  rw [rW2, wl, decide_eq_false (by decide)]
  rw [isn_bb, ex_some, as_b, ex_some, decide_eq_true rfl]
  try walk_at "ko_ev_K10l"
  try walk_at "ko_li_K10l"
  rw [if_neg (by decide), YesS.nil]
  try walk_at "ko_ev_K10l"
  generalize ah8 ++ [txo []] ++ [o2] = ah10
  refine ⟨by show 3 ≤ sizeLine; decide, ?_⟩
  rw [src_l, ex_some]
  have mv : ∀ ah, VOk ah (.str M) := fun ah => ⟨⟨_, rfl⟩, fun z e => by cases e; omega⟩
  have mh : hfB (.str M) = false := big_hf (by omega)
  have ev0 : ∀ ah, VOk ah (.str "") := fun ah => ⟨⟨_, rfl⟩, fun z e => by cases e; rw [len_emp]; decide⟩
  have hl : ∀ ah, cl ds (k + 4) "check_texts" [.lst [.str "", .str M, .non]] ah = .ex (iT (.str M)) ah := fun ah => x_bad (k := k + 1) (gs := [.str ""]) (bs := [.non]) rfl ⟨⟨_, rfl⟩, fun z e => by cases e⟩ rfl (fun g hg => by simp at hg; subst hg; exact ⟨ev0 _, by decide +kernel⟩) (mv _) mh
  have h0 : ∀ ah, cl ds (k + 6) "_law_met" [.int 0, .str M, .lst [.str "", .str M, .non]] ah = .ok (.lst [.str "text", .str M, .bl true, .bl false]) ah := fun ah => met_T (k := k + 4) (d := 0) (by decide) (x_framed (k := k + 2) (mv _) mh)
  have h5 : ∀ ah, cl ds (k + 6) "_law_met" [.int 5, .str M, .lst [.str "", .str M, .non]] ah = .ok (.lst [.str "text", .str M, .bl true, .bl false]) ah := fun ah => door_list (k := k + 3) (d := 5) (by decide) (hl ah)
  have h6 : ∀ ah, cl ds (k + 6) "_law_met" [.int 6, .str M, .lst [.str "", .str M, .non]] ah = .ok (.lst [.str "text", .str M, .bl true, .bl false]) ah := fun ah => door_list (k := k + 3) (d := 6) (by decide) (hl ah)
  refine forV_ok' (fun r ρ ah => (∀ x ∈ r, ∀ ah, cl ds (k + 6) "_law_met" [x, .str M, .lst [.str "", .str M, .non]] ah = .ok (.lst [.str "text", .str M, .bl true, .bl false]) ah) ∧ ∃ b, ρ = [some (.str G), some (.str (Ko.frs [G, G])), some (.str M), b]) _ _ _ ⟨fun x hx => ?_, _, rfl⟩ (fun ρ ah ⟨_, b, e⟩ => ?_) fun x xs ρ ah ⟨h1, b, e⟩ => ?_
  · simp only [List.mem_cons, List.not_mem_nil, or_false] at hx
    rcases hx with rfl | rfl | rfl
    · exact h0
    · exact h5
    · exact h6
  · first | trivial | rfl
  · subst e
    refine ⟨_, rfl, ?_⟩
    walk_at "ko_ev_K10l"
    walk_at "ko_li_K10l"
    refine ⟨by show 3 ≤ sizeLine; decide, rfl, ?_⟩
    rw [h1 x (by simp) ah]
    show _ ∧ _
    refine ⟨by show 4 ≤ sizeLine; decide, ?_⟩
    rw [ne4 mc]
    try walk_at "ko_ar_K10l"
    rw [if_neg (by decide)]
    exact ⟨fun y hy => h1 y (List.mem_cons_of_mem _ hy), _, rfl⟩
end K10

namespace K10
open PySem L2 Ko NumText
local macro_rules | `(tactic| walk_at "ko_ev_K10m") => `(tactic| simp only [YesS.fin, semD, den, mkE, mkT, mkX, mkS, YesS.seq, YesS.nil, YesS.ret, YesS.ifS, YesS.asg, y_c, y_v, y_f2, y_f1, y_fA, y_nil, y_cons, y_tup, y_lst, y_lstM, y_dic0, y_tF, y_bF, y_tAnd, y_tOr, y_tNot, y_not, y_and, y_or, y_if, y_call, y_kw, y_chain, y_slc, y_pN, y_pS, y_isi, y_ms, y_src, y_rng1, y_comp, y_yes, s_exp, s_par2, s_sub, s_for, ops_call, ops_ar, Yes.ok, nu_isascii, nu_isprintable, nu_isalpha, nu_islower, nu_isdigit, nu_join, nu_count, nu_startswith, nu_endswith, nu_zfill, nu_stripC])
local macro_rules | `(tactic| walk_at "ko_ar_K10m") => `(tactic| simp only [ex_some, ex_ite, bin_add, bin_sub, bin_mul, bin_div, bin_mod, bin_pow, add_ii, sub_ii, mul_ii, div_ii, mod_ii, pow_ii, neg_i, cmp_eq, cmp_ne, cmp_lt, cmp_le, cmp_gt, cmp_ge, cmp_is, cmp_isn, lt_ii, le_ii, gt_ii, ge_ii, eq_ii, ne_ii, tru_b, tru_i, as_b, int_i, abs_i, put_nm, put_tup, put_lst])
local macro_rules | `(tactic| walk_at "ko_li_K10m") => `(tactic| simp only [List.getElem?_cons_zero, List.getElem?_cons_succ, List.set_cons_succ, List.set_cons_zero, putl_nil, putl_cons, put_nm, put_tup, put_lst, Option.bind_some])


def law_tail : T := match t_law with | .cons _ r => r | t => t
theorem law_split : t_law = .cons (match t_law with | .cons a _ => a | t => t) law_tail := rfl
theorem law_rest (ns : List Int) (ah0 : AH) : YesS ((den (ops ds 20) law_tail).x [some (.lst (ns.map .int)), none, none, none] ah0) (fun _ _ => False) (fun v _ => v = .bl true) := by
  simp only [law_tail, t_law]
  walk_at "ko_ev_K10m"
  walk_at "ko_li_K10m"
  rw [len_l]
  walk_at "ko_ar_K10m"
  have hmin : biF BI.min ah0 [.int 3, .int (ns.map AV.int).length] = some (.int (if ((ns.map AV.int).length : Int) < 3 then ((ns.map AV.int).length : Int) else 3)) := rfl
  rw [hmin]
  walk_at "ko_ar_K10m"
  generalize hm : (if ((ns.map AV.int).length : Int) < 3 then ((ns.map AV.int).length : Int) else 3) = m
  have m0 : 0 ≤ m ∧ m ≤ 3 := by rw [← hm]; split <;> omega
  have hmax : biF BI.max ah0 [.int 2, .int m] = some (.int (if m > 2 then m else 2)) := rfl
  rw [hmax]
  walk_at "ko_ar_K10m"
  generalize hm2 : (if m > 2 then m else 2) = m2
  have m1 : 0 ≤ m2 ∧ m2 ≤ 3 := by rw [← hm2]; split <;> omega
  rw [rng_src m1.1 (by omega)]
  walk_at "ko_ar_K10m"
  refine forV_ok' (fun r ρ ah => (∀ x ∈ r, ∃ i : Nat, x = .int i ∧ i < 100) ∧ ∃ b1 b2 b3, ρ = [some (.lst (ns.map AV.int)), b1, b2, b3]) _ _ _ ⟨fun x hx => ?_, _, _, _, rfl⟩ (fun ρ ah ⟨_, b1, b2, b3, e⟩ => by first | trivial | (subst e; exact rfl)) fun x xs ρ ah ⟨h1, b1, b2, b3, e⟩ => ?_
  · obtain ⟨i, e, hi⟩ := rng_mem hx
    exact ⟨i, e, by omega⟩
  subst e
  obtain ⟨i, rfl, hi⟩ := h1 x (by simp)
  have hxs : ∀ x ∈ xs, ∃ i : Nat, x = .int i ∧ i < 100 := fun y hy => h1 y (List.mem_cons_of_mem _ hy)
  refine ⟨_, rfl, ?_⟩
  walk_at "ko_ev_K10m"
  walk_at "ko_li_K10m"
  refine ⟨rfl, (cell_ok (F := []) drw hi).imp fun v ah1 ⟨e1, g, e2⟩ => ?_⟩
  subst e1 e2
  refine ⟨rfl, (box_ok drw).imp fun v ah2 ⟨e1, B⟩ => ?_⟩
  subst e1
  try walk_at "ko_li_K10m"
  generalize ah1.length = n at B ⊢
  rw [rng_src (by decide) (by decide), ex_some]
  have B := B.here
  refine forV_ok' (fun r ρ ah => r.length ≤ 3 ∧ Box ah ah n (500 * (3 - r.length)) ∧ ∃ b, ρ = [some (.lst (ns.map AV.int)), some (.int i), some (.ref n), b]) _ _ _ ⟨by rw [rngL_length]; decide, by rw [rngL_length]; exact B, _, rfl⟩ (fun ρ ah ⟨_, B, b, e⟩ => ?_) fun x ys ρ ah ⟨h2, B, b, e⟩ => ?_
  · exact ⟨hxs, _, _, _, e⟩
  subst e
  rw [List.length_cons] at h2 B
  refine ⟨_, rfl, ?_⟩
  walk_at "ko_ev_K10m"
  walk_at "ko_li_K10m"
  refine ⟨rfl, (c_tref B (by omega)).imp fun v ah3 ⟨e, B⟩ => ?_⟩
  subst e
  simp only [tru_b, ex_some, as_b]
  rw [if_neg (by decide)]
  refine ⟨rfl, (c_lref B (by omega)).imp fun v ah4 ⟨e, B⟩ => ?_⟩
  subst e
  simp only [tru_b, ex_some, as_b]
  rw [if_neg (by decide)]
  refine ⟨rfl, (c_taken B (by omega)).imp fun v ah5 ⟨e, B⟩ => ?_⟩
  subst e
  simp only [tru_b, ex_some, as_b]
  rw [if_neg (by decide)]
  exact ⟨by omega, B.mono (by omega), _, rfl⟩
theorem law_yes (ns : List Int) : Yes ((ops ds 21).call "law" [.lst (ns.map .int)] []) fun v _ => v = .bl true := by
  rw [ops_call, cl_eq (show findD ds "law" = some d_law by rfl)]
  simp only [semD, d_law]
  rw [YesS.fin, show startA ["script", "k", "box", "turn"] [.lst (ns.map .int)] = [some (.lst (ns.map .int)), none, none, none] from rfl, law_split, den_cons, YesS.seq]
  refine YesS.imp (N := fun ρ ah => ρ = [some (.lst (ns.map .int)), none, none, none]) (R := fun _ _ => False) ?_ (fun ρ ah e => ?_) (fun _ _ h => h.elim)
  · simp only [t_law]
    walk_at "ko_ev_K10m"
    walk_at "ko_li_K10m"
    refine ⟨rfl, (cell_ok (F := []) drw (i := 0) (by decide)).imp fun v ah1 ⟨e1, g, e2⟩ => ?_⟩
    subst e1 e2
    walk_at "ko_ar_K10m"
    refine ⟨by decide, ?_⟩
    by_cases q : g % 3 = 1
    · rw [if_pos (decide_eq_true q)]
      obtain ⟨ah1, hb⟩ := c_bound (k := 13) (ah := [])
      refine ⟨rfl, ?_⟩
      rw [show 20 = 13 + 7 from rfl, hb, Yes.ok]
      refine ⟨true, rfl, ?_⟩
      rw [if_neg (by decide)]
      exact rfl
    · rw [if_neg (by simpa using q)]
      exact rfl
  · subst e
    exact (law_rest ns ah).imp (fun _ _ h => h.elim) fun _ _ h => h
theorem law_true : ∀ ns : List Int, ns.length ≤ 63 → ∃ ah, (ops ds 21).call "law" [.lst (ns.map .int)] [] = .ok (.bl true) ah := fun ns _ => by
  obtain ⟨a, ah, e, rfl⟩ := (law_yes ns).eq
  exact ⟨ah, e⟩
end K10

namespace K10
open PySem L2 Ko
theorem kw_ok : ds.all (kwOk tb) = true := by decide +kernel
theorem f_is_list {K : PySem.W.Frag} {h : Heap} {mg : Str → Option Value} (X : K.In h) (G : h.Ns mainGlobals mg) {f : Addr} {oc : Value} {od an : Option Addr} {osl : Array (Option Value)} {kV doc pm cdv ct : Value} (a : PySem.W.nsIn K mainGlobals "is_list" = some (some (.ref f))) (l : K.lookup f = some ⟨oc, od, .func (PySem.W.fnOf "is_list" "is_list" (defArgs d_is_list.st) (defBody d_is_list.st) (defScope d_is_list.st) .none kV doc pm an cdv ct), osl⟩) (c : PySem.W.codeIn K cdv "is_list" = true) (k : PySem.W.keepIn K (.ref f) = true) : DfF K mg d_is_list :=
  dff_mk X G a l c k (fun _ _ _ _ _ _ us hl => match us, hl with | [_], _ => rfl) (fun _ _ _ _ _ _ e he => absurd he List.not_mem_nil)
theorem f_is_integer {K : PySem.W.Frag} {h : Heap} {mg : Str → Option Value} (X : K.In h) (G : h.Ns mainGlobals mg) {f : Addr} {oc : Value} {od an : Option Addr} {osl : Array (Option Value)} {kV doc pm cdv ct : Value} (a : PySem.W.nsIn K mainGlobals "is_integer" = some (some (.ref f))) (l : K.lookup f = some ⟨oc, od, .func (PySem.W.fnOf "is_integer" "is_integer" (defArgs d_is_integer.st) (defBody d_is_integer.st) (defScope d_is_integer.st) .none kV doc pm an cdv ct), osl⟩) (c : PySem.W.codeIn K cdv "is_integer" = true) (k : PySem.W.keepIn K (.ref f) = true) : DfF K mg d_is_integer :=
  dff_mk X G a l c k (fun _ _ _ _ _ _ us hl => match us, hl with | [_], _ => rfl) (fun _ _ _ _ _ _ e he => absurd he List.not_mem_nil)
theorem f_is_count {K : PySem.W.Frag} {h : Heap} {mg : Str → Option Value} (X : K.In h) (G : h.Ns mainGlobals mg) {f : Addr} {oc : Value} {od an : Option Addr} {osl : Array (Option Value)} {kV doc pm cdv ct : Value} (a : PySem.W.nsIn K mainGlobals "is_count" = some (some (.ref f))) (l : K.lookup f = some ⟨oc, od, .func (PySem.W.fnOf "is_count" "is_count" (defArgs d_is_count.st) (defBody d_is_count.st) (defScope d_is_count.st) .none kV doc pm an cdv ct), osl⟩) (c : PySem.W.codeIn K cdv "is_count" = true) (k : PySem.W.keepIn K (.ref f) = true) : DfF K mg d_is_count :=
  dff_mk X G a l c k (fun _ _ _ _ _ _ us hl => match us, hl with | [_], _ => rfl) (fun _ _ _ _ _ _ e he => absurd he List.not_mem_nil)
theorem f_is_signs {K : PySem.W.Frag} {h : Heap} {mg : Str → Option Value} (X : K.In h) (G : h.Ns mainGlobals mg) {f : Addr} {oc : Value} {od an : Option Addr} {osl : Array (Option Value)} {kV doc pm cdv ct : Value} (a : PySem.W.nsIn K mainGlobals "is_signs" = some (some (.ref f))) (l : K.lookup f = some ⟨oc, od, .func (PySem.W.fnOf "is_signs" "is_signs" (defArgs d_is_signs.st) (defBody d_is_signs.st) (defScope d_is_signs.st) .none kV doc pm an cdv ct), osl⟩) (c : PySem.W.codeIn K cdv "is_signs" = true) (k : PySem.W.keepIn K (.ref f) = true) : DfF K mg d_is_signs :=
  dff_mk X G a l c k (fun _ _ _ _ _ _ us hl => match us, hl with | [_], _ => rfl) (fun _ _ _ _ _ _ e he => absurd he List.not_mem_nil)
theorem f_has_frame {K : PySem.W.Frag} {h : Heap} {mg : Str → Option Value} (X : K.In h) (G : h.Ns mainGlobals mg) {f : Addr} {oc : Value} {od an : Option Addr} {osl : Array (Option Value)} {kV doc pm cdv ct : Value} (a : PySem.W.nsIn K mainGlobals "has_frame" = some (some (.ref f))) (l : K.lookup f = some ⟨oc, od, .func (PySem.W.fnOf "has_frame" "has_frame" (defArgs d_has_frame.st) (defBody d_has_frame.st) (defScope d_has_frame.st) .none kV doc pm an cdv ct), osl⟩) (c : PySem.W.codeIn K cdv "has_frame" = true) (k : PySem.W.keepIn K (.ref f) = true) : DfF K mg d_has_frame :=
  dff_mk X G a l c k (fun _ _ _ _ _ _ us hl => match us, hl with | [_], _ => rfl) (fun _ _ _ _ _ _ e he => absurd he List.not_mem_nil)
theorem f_check_texts {K : PySem.W.Frag} {h : Heap} {mg : Str → Option Value} (X : K.In h) (G : h.Ns mainGlobals mg) {f : Addr} {oc : Value} {od an : Option Addr} {osl : Array (Option Value)} {kV doc pm cdv ct : Value} (a : PySem.W.nsIn K mainGlobals "check_texts" = some (some (.ref f))) (l : K.lookup f = some ⟨oc, od, .func (PySem.W.fnOf "check_texts" "check_texts" (defArgs d_check_texts.st) (defBody d_check_texts.st) (defScope d_check_texts.st) .none kV doc pm an cdv ct), osl⟩) (c : PySem.W.codeIn K cdv "check_texts" = true) (k : PySem.W.keepIn K (.ref f) = true) : DfF K mg d_check_texts :=
  dff_mk X G a l c k (fun _ _ _ _ _ _ us hl => match us, hl with | [_], _ => rfl) (fun _ _ _ _ _ _ e he => absurd he List.not_mem_nil)
theorem f_framed {K : PySem.W.Frag} {h : Heap} {mg : Str → Option Value} (X : K.In h) (G : h.Ns mainGlobals mg) {f : Addr} {oc : Value} {od an : Option Addr} {osl : Array (Option Value)} {kV doc pm cdv ct : Value} (a : PySem.W.nsIn K mainGlobals "framed" = some (some (.ref f))) (l : K.lookup f = some ⟨oc, od, .func (PySem.W.fnOf "framed" "framed" (defArgs d_framed.st) (defBody d_framed.st) (defScope d_framed.st) .none kV doc pm an cdv ct), osl⟩) (c : PySem.W.codeIn K cdv "framed" = true) (k : PySem.W.keepIn K (.ref f) = true) : DfF K mg d_framed :=
  dff_mk X G a l c k (fun _ _ _ _ _ _ us hl => match us, hl with | [_], _ => rfl) (fun _ _ _ _ _ _ => List.forall_mem_cons.mpr ⟨fun us ws h1 h2 => match us, ws, h1, h2 with | [], [_], _, _ => rfl, fun e he => absurd he List.not_mem_nil⟩)
theorem f_all_framed {K : PySem.W.Frag} {h : Heap} {mg : Str → Option Value} (X : K.In h) (G : h.Ns mainGlobals mg) {f : Addr} {oc : Value} {od an : Option Addr} {osl : Array (Option Value)} {kV doc pm cdv ct : Value} (a : PySem.W.nsIn K mainGlobals "all_framed" = some (some (.ref f))) (l : K.lookup f = some ⟨oc, od, .func (PySem.W.fnOf "all_framed" "all_framed" (defArgs d_all_framed.st) (defBody d_all_framed.st) (defScope d_all_framed.st) .none kV doc pm an cdv ct), osl⟩) (c : PySem.W.codeIn K cdv "all_framed" = true) (k : PySem.W.keepIn K (.ref f) = true) : DfF K mg d_all_framed :=
  dff_mk X G a l c k (fun _ _ _ _ _ _ us hl => match us, hl with | [_], _ => rfl) (fun _ _ _ _ _ _ => List.forall_mem_cons.mpr ⟨fun us ws h1 h2 => match us, ws, h1, h2 with | [], [_], _, _ => rfl, fun e he => absurd he List.not_mem_nil⟩)
theorem f_frame_end {K : PySem.W.Frag} {h : Heap} {mg : Str → Option Value} (X : K.In h) (G : h.Ns mainGlobals mg) {f : Addr} {oc : Value} {od an : Option Addr} {osl : Array (Option Value)} {kV doc pm cdv ct : Value} (a : PySem.W.nsIn K mainGlobals "frame_end" = some (some (.ref f))) (l : K.lookup f = some ⟨oc, od, .func (PySem.W.fnOf "frame_end" "frame_end" (defArgs d_frame_end.st) (defBody d_frame_end.st) (defScope d_frame_end.st) .none kV doc pm an cdv ct), osl⟩) (c : PySem.W.codeIn K cdv "frame_end" = true) (k : PySem.W.keepIn K (.ref f) = true) : DfF K mg d_frame_end :=
  dff_mk X G a l c k (fun _ _ _ _ _ _ us hl => match us, hl with | [_, _], _ => rfl) (fun _ _ _ _ _ _ e he => absurd he List.not_mem_nil)
theorem f_frames_in {K : PySem.W.Frag} {h : Heap} {mg : Str → Option Value} (X : K.In h) (G : h.Ns mainGlobals mg) {f : Addr} {oc : Value} {od an : Option Addr} {osl : Array (Option Value)} {kV doc pm cdv ct : Value} (a : PySem.W.nsIn K mainGlobals "frames_in" = some (some (.ref f))) (l : K.lookup f = some ⟨oc, od, .func (PySem.W.fnOf "frames_in" "frames_in" (defArgs d_frames_in.st) (defBody d_frames_in.st) (defScope d_frames_in.st) .none kV doc pm an cdv ct), osl⟩) (c : PySem.W.codeIn K cdv "frames_in" = true) (k : PySem.W.keepIn K (.ref f) = true) : DfF K mg d_frames_in :=
  dff_mk X G a l c k (fun _ _ _ _ _ _ us hl => match us, hl with | [_], _ => rfl) (fun _ _ _ _ _ _ => List.forall_mem_cons.mpr ⟨fun us ws h1 h2 => match us, ws, h1, h2 with | [], [_], _, _ => rfl, fun e he => absurd he List.not_mem_nil⟩)
theorem f_is_whole {K : PySem.W.Frag} {h : Heap} {mg : Str → Option Value} (X : K.In h) (G : h.Ns mainGlobals mg) {f : Addr} {oc : Value} {od an : Option Addr} {osl : Array (Option Value)} {kV doc pm cdv ct : Value} (a : PySem.W.nsIn K mainGlobals "is_whole" = some (some (.ref f))) (l : K.lookup f = some ⟨oc, od, .func (PySem.W.fnOf "is_whole" "is_whole" (defArgs d_is_whole.st) (defBody d_is_whole.st) (defScope d_is_whole.st) .none kV doc pm an cdv ct), osl⟩) (c : PySem.W.codeIn K cdv "is_whole" = true) (k : PySem.W.keepIn K (.ref f) = true) : DfF K mg d_is_whole :=
  dff_mk X G a l c k (fun _ _ _ _ _ _ us hl => match us, hl with | [_], _ => rfl) (fun _ _ _ _ _ _ => List.forall_mem_cons.mpr ⟨fun us ws h1 h2 => match us, ws, h1, h2 with | [], [_], _, _ => rfl, fun e he => absurd he List.not_mem_nil⟩)
theorem f_cut_at {K : PySem.W.Frag} {h : Heap} {mg : Str → Option Value} (X : K.In h) (G : h.Ns mainGlobals mg) {f : Addr} {oc : Value} {od an : Option Addr} {osl : Array (Option Value)} {kV doc pm cdv ct : Value} (a : PySem.W.nsIn K mainGlobals "cut_at" = some (some (.ref f))) (l : K.lookup f = some ⟨oc, od, .func (PySem.W.fnOf "cut_at" "cut_at" (defArgs d_cut_at.st) (defBody d_cut_at.st) (defScope d_cut_at.st) .none kV doc pm an cdv ct), osl⟩) (c : PySem.W.codeIn K cdv "cut_at" = true) (k : PySem.W.keepIn K (.ref f) = true) : DfF K mg d_cut_at :=
  dff_mk X G a l c k (fun _ _ _ _ _ _ us hl => match us, hl with | [_, _], _ => rfl) (fun _ _ _ _ _ _ => List.forall_mem_cons.mpr ⟨fun us ws h1 h2 => match us, ws, h1, h2 with | [], [_, _], _, _ => rfl, fun e he => absurd he List.not_mem_nil⟩)
theorem f__law_cell {K : PySem.W.Frag} {h : Heap} {mg : Str → Option Value} (X : K.In h) (G : h.Ns mainGlobals mg) {f : Addr} {oc : Value} {od an : Option Addr} {osl : Array (Option Value)} {kV doc pm cdv ct : Value} (a : PySem.W.nsIn K mainGlobals "_law_cell" = some (some (.ref f))) (l : K.lookup f = some ⟨oc, od, .func (PySem.W.fnOf "_law_cell" "_law_cell" (defArgs d__law_cell.st) (defBody d__law_cell.st) (defScope d__law_cell.st) .none kV doc pm an cdv ct), osl⟩) (c : PySem.W.codeIn K cdv "_law_cell" = true) (k : PySem.W.keepIn K (.ref f) = true) : DfF K mg d__law_cell :=
  dff_mk X G a l c k (fun _ _ _ _ _ _ us hl => match us, hl with | [_, _], _ => rfl) (fun _ _ _ _ _ _ e he => absurd he List.not_mem_nil)
theorem f__law_box {K : PySem.W.Frag} {h : Heap} {mg : Str → Option Value} (X : K.In h) (G : h.Ns mainGlobals mg) {f : Addr} {oc : Value} {od an : Option Addr} {osl : Array (Option Value)} {kV doc pm cdv ct : Value} (a : PySem.W.nsIn K mainGlobals "_law_box" = some (some (.ref f))) (l : K.lookup f = some ⟨oc, od, .func (PySem.W.fnOf "_law_box" "_law_box" (defArgs d__law_box.st) (defBody d__law_box.st) (defScope d__law_box.st) .none kV doc pm an cdv ct), osl⟩) (c : PySem.W.codeIn K cdv "_law_box" = true) (k : PySem.W.keepIn K (.ref f) = true) : DfF K mg d__law_box :=
  dff_mk X G a l c k (fun _ _ _ _ _ _ us hl => match us, hl with | [_], _ => rfl) (fun _ _ _ _ _ _ e he => absurd he List.not_mem_nil)
theorem f__law_take {K : PySem.W.Frag} {h : Heap} {mg : Str → Option Value} (X : K.In h) (G : h.Ns mainGlobals mg) {f : Addr} {oc : Value} {od an : Option Addr} {osl : Array (Option Value)} {kV doc pm cdv ct : Value} (a : PySem.W.nsIn K mainGlobals "_law_take" = some (some (.ref f))) (l : K.lookup f = some ⟨oc, od, .func (PySem.W.fnOf "_law_take" "_law_take" (defArgs d__law_take.st) (defBody d__law_take.st) (defScope d__law_take.st) .none kV doc pm an cdv ct), osl⟩) (c : PySem.W.codeIn K cdv "_law_take" = true) (k : PySem.W.keepIn K (.ref f) = true) : DfF K mg d__law_take :=
  dff_mk X G a l c k (fun _ _ _ _ _ _ us hl => match us, hl with | [_, _], _ => rfl) (fun _ _ _ _ _ _ e he => absurd he List.not_mem_nil)
theorem f__law_text {K : PySem.W.Frag} {h : Heap} {mg : Str → Option Value} (X : K.In h) (G : h.Ns mainGlobals mg) {f : Addr} {oc : Value} {od an : Option Addr} {osl : Array (Option Value)} {kV doc pm cdv ct : Value} (a : PySem.W.nsIn K mainGlobals "_law_text" = some (some (.ref f))) (l : K.lookup f = some ⟨oc, od, .func (PySem.W.fnOf "_law_text" "_law_text" (defArgs d__law_text.st) (defBody d__law_text.st) (defScope d__law_text.st) .none kV doc pm an cdv ct), osl⟩) (c : PySem.W.codeIn K cdv "_law_text" = true) (k : PySem.W.keepIn K (.ref f) = true) : DfF K mg d__law_text :=
  dff_mk X G a l c k (fun _ _ _ _ _ _ us hl => match us, hl with | [_], _ => rfl) (fun _ _ _ _ _ _ e he => absurd he List.not_mem_nil)
theorem f__law_bad {K : PySem.W.Frag} {h : Heap} {mg : Str → Option Value} (X : K.In h) (G : h.Ns mainGlobals mg) {f : Addr} {oc : Value} {od an : Option Addr} {osl : Array (Option Value)} {kV doc pm cdv ct : Value} (a : PySem.W.nsIn K mainGlobals "_law_bad" = some (some (.ref f))) (l : K.lookup f = some ⟨oc, od, .func (PySem.W.fnOf "_law_bad" "_law_bad" (defArgs d__law_bad.st) (defBody d__law_bad.st) (defScope d__law_bad.st) .none kV doc pm an cdv ct), osl⟩) (c : PySem.W.codeIn K cdv "_law_bad" = true) (k : PySem.W.keepIn K (.ref f) = true) : DfF K mg d__law_bad :=
  dff_mk X G a l c k (fun _ _ _ _ _ _ us hl => match us, hl with | [_], _ => rfl) (fun _ _ _ _ _ _ e he => absurd he List.not_mem_nil)
theorem f__law_no_list {K : PySem.W.Frag} {h : Heap} {mg : Str → Option Value} (X : K.In h) (G : h.Ns mainGlobals mg) {f : Addr} {oc : Value} {od an : Option Addr} {osl : Array (Option Value)} {kV doc pm cdv ct : Value} (a : PySem.W.nsIn K mainGlobals "_law_no_list" = some (some (.ref f))) (l : K.lookup f = some ⟨oc, od, .func (PySem.W.fnOf "_law_no_list" "_law_no_list" (defArgs d__law_no_list.st) (defBody d__law_no_list.st) (defScope d__law_no_list.st) .none kV doc pm an cdv ct), osl⟩) (c : PySem.W.codeIn K cdv "_law_no_list" = true) (k : PySem.W.keepIn K (.ref f) = true) : DfF K mg d__law_no_list :=
  dff_mk X G a l c k (fun _ _ _ _ _ _ us hl => match us, hl with | [_], _ => rfl) (fun _ _ _ _ _ _ e he => absurd he List.not_mem_nil)
theorem f__law_no_count {K : PySem.W.Frag} {h : Heap} {mg : Str → Option Value} (X : K.In h) (G : h.Ns mainGlobals mg) {f : Addr} {oc : Value} {od an : Option Addr} {osl : Array (Option Value)} {kV doc pm cdv ct : Value} (a : PySem.W.nsIn K mainGlobals "_law_no_count" = some (some (.ref f))) (l : K.lookup f = some ⟨oc, od, .func (PySem.W.fnOf "_law_no_count" "_law_no_count" (defArgs d__law_no_count.st) (defBody d__law_no_count.st) (defScope d__law_no_count.st) .none kV doc pm an cdv ct), osl⟩) (c : PySem.W.codeIn K cdv "_law_no_count" = true) (k : PySem.W.keepIn K (.ref f) = true) : DfF K mg d__law_no_count :=
  dff_mk X G a l c k (fun _ _ _ _ _ _ us hl => match us, hl with | [_], _ => rfl) (fun _ _ _ _ _ _ e he => absurd he List.not_mem_nil)
theorem f__law_copy {K : PySem.W.Frag} {h : Heap} {mg : Str → Option Value} (X : K.In h) (G : h.Ns mainGlobals mg) {f : Addr} {oc : Value} {od an : Option Addr} {osl : Array (Option Value)} {kV doc pm cdv ct : Value} (a : PySem.W.nsIn K mainGlobals "_law_copy" = some (some (.ref f))) (l : K.lookup f = some ⟨oc, od, .func (PySem.W.fnOf "_law_copy" "_law_copy" (defArgs d__law_copy.st) (defBody d__law_copy.st) (defScope d__law_copy.st) .none kV doc pm an cdv ct), osl⟩) (c : PySem.W.codeIn K cdv "_law_copy" = true) (k : PySem.W.keepIn K (.ref f) = true) : DfF K mg d__law_copy :=
  dff_mk X G a l c k (fun _ _ _ _ _ _ us hl => match us, hl with | [_], _ => rfl) (fun _ _ _ _ _ _ e he => absurd he List.not_mem_nil)
theorem f__law_met {K : PySem.W.Frag} {h : Heap} {mg : Str → Option Value} (X : K.In h) (G : h.Ns mainGlobals mg) {f : Addr} {oc : Value} {od an : Option Addr} {osl : Array (Option Value)} {kV doc pm cdv ct : Value} (a : PySem.W.nsIn K mainGlobals "_law_met" = some (some (.ref f))) (l : K.lookup f = some ⟨oc, od, .func (PySem.W.fnOf "_law_met" "_law_met" (defArgs d__law_met.st) (defBody d__law_met.st) (defScope d__law_met.st) .none kV doc pm an cdv ct), osl⟩) (c : PySem.W.codeIn K cdv "_law_met" = true) (k : PySem.W.keepIn K (.ref f) = true) : DfF K mg d__law_met :=
  dff_mk X G a l c k (fun _ _ _ _ _ _ us hl => match us, hl with | [_, _, _], _ => rfl) (fun _ _ _ _ _ _ e he => absurd he List.not_mem_nil)
theorem f__law_is_met {K : PySem.W.Frag} {h : Heap} {mg : Str → Option Value} (X : K.In h) (G : h.Ns mainGlobals mg) {f : Addr} {oc : Value} {od an : Option Addr} {osl : Array (Option Value)} {kV doc pm cdv ct : Value} (a : PySem.W.nsIn K mainGlobals "_law_is_met" = some (some (.ref f))) (l : K.lookup f = some ⟨oc, od, .func (PySem.W.fnOf "_law_is_met" "_law_is_met" (defArgs d__law_is_met.st) (defBody d__law_is_met.st) (defScope d__law_is_met.st) .none kV doc pm an cdv ct), osl⟩) (c : PySem.W.codeIn K cdv "_law_is_met" = true) (k : PySem.W.keepIn K (.ref f) = true) : DfF K mg d__law_is_met :=
  dff_mk X G a l c k (fun _ _ _ _ _ _ us hl => match us, hl with | [_, _, _], _ => rfl) (fun _ _ _ _ _ _ e he => absurd he List.not_mem_nil)
theorem f__law_texts_refused {K : PySem.W.Frag} {h : Heap} {mg : Str → Option Value} (X : K.In h) (G : h.Ns mainGlobals mg) {f : Addr} {oc : Value} {od an : Option Addr} {osl : Array (Option Value)} {kV doc pm cdv ct : Value} (a : PySem.W.nsIn K mainGlobals "_law_texts_refused" = some (some (.ref f))) (l : K.lookup f = some ⟨oc, od, .func (PySem.W.fnOf "_law_texts_refused" "_law_texts_refused" (defArgs d__law_texts_refused.st) (defBody d__law_texts_refused.st) (defScope d__law_texts_refused.st) .none kV doc pm an cdv ct), osl⟩) (c : PySem.W.codeIn K cdv "_law_texts_refused" = true) (k : PySem.W.keepIn K (.ref f) = true) : DfF K mg d__law_texts_refused :=
  dff_mk X G a l c k (fun _ _ _ _ _ _ us hl => match us, hl with | [_], _ => rfl) (fun _ _ _ _ _ _ e he => absurd he List.not_mem_nil)
theorem f__law_lists_refused {K : PySem.W.Frag} {h : Heap} {mg : Str → Option Value} (X : K.In h) (G : h.Ns mainGlobals mg) {f : Addr} {oc : Value} {od an : Option Addr} {osl : Array (Option Value)} {kV doc pm cdv ct : Value} (a : PySem.W.nsIn K mainGlobals "_law_lists_refused" = some (some (.ref f))) (l : K.lookup f = some ⟨oc, od, .func (PySem.W.fnOf "_law_lists_refused" "_law_lists_refused" (defArgs d__law_lists_refused.st) (defBody d__law_lists_refused.st) (defScope d__law_lists_refused.st) .none kV doc pm an cdv ct), osl⟩) (c : PySem.W.codeIn K cdv "_law_lists_refused" = true) (k : PySem.W.keepIn K (.ref f) = true) : DfF K mg d__law_lists_refused :=
  dff_mk X G a l c k (fun _ _ _ _ _ _ us hl => match us, hl with | [_], _ => rfl) (fun _ _ _ _ _ _ e he => absurd he List.not_mem_nil)
theorem f__law_frame {K : PySem.W.Frag} {h : Heap} {mg : Str → Option Value} (X : K.In h) (G : h.Ns mainGlobals mg) {f : Addr} {oc : Value} {od an : Option Addr} {osl : Array (Option Value)} {kV doc pm cdv ct : Value} (a : PySem.W.nsIn K mainGlobals "_law_frame" = some (some (.ref f))) (l : K.lookup f = some ⟨oc, od, .func (PySem.W.fnOf "_law_frame" "_law_frame" (defArgs d__law_frame.st) (defBody d__law_frame.st) (defScope d__law_frame.st) .none kV doc pm an cdv ct), osl⟩) (c : PySem.W.codeIn K cdv "_law_frame" = true) (k : PySem.W.keepIn K (.ref f) = true) : DfF K mg d__law_frame :=
  dff_mk X G a l c k (fun _ _ _ _ _ _ us hl => match us, hl with | [_], _ => rfl) (fun _ _ _ _ _ _ e he => absurd he List.not_mem_nil)
theorem f__law_taken {K : PySem.W.Frag} {h : Heap} {mg : Str → Option Value} (X : K.In h) (G : h.Ns mainGlobals mg) {f : Addr} {oc : Value} {od an : Option Addr} {osl : Array (Option Value)} {kV doc pm cdv ct : Value} (a : PySem.W.nsIn K mainGlobals "_law_taken" = some (some (.ref f))) (l : K.lookup f = some ⟨oc, od, .func (PySem.W.fnOf "_law_taken" "_law_taken" (defArgs d__law_taken.st) (defBody d__law_taken.st) (defScope d__law_taken.st) .none kV doc pm an cdv ct), osl⟩) (c : PySem.W.codeIn K cdv "_law_taken" = true) (k : PySem.W.keepIn K (.ref f) = true) : DfF K mg d__law_taken :=
  dff_mk X G a l c k (fun _ _ _ _ _ _ us hl => match us, hl with | [_], _ => rfl) (fun _ _ _ _ _ _ e he => absurd he List.not_mem_nil)
theorem f__law_at_the_bound {K : PySem.W.Frag} {h : Heap} {mg : Str → Option Value} (X : K.In h) (G : h.Ns mainGlobals mg) {f : Addr} {oc : Value} {od an : Option Addr} {osl : Array (Option Value)} {kV doc pm cdv ct : Value} (a : PySem.W.nsIn K mainGlobals "_law_at_the_bound" = some (some (.ref f))) (l : K.lookup f = some ⟨oc, od, .func (PySem.W.fnOf "_law_at_the_bound" "_law_at_the_bound" (defArgs d__law_at_the_bound.st) (defBody d__law_at_the_bound.st) (defScope d__law_at_the_bound.st) .none kV doc pm an cdv ct), osl⟩) (c : PySem.W.codeIn K cdv "_law_at_the_bound" = true) (k : PySem.W.keepIn K (.ref f) = true) : DfF K mg d__law_at_the_bound :=
  dff_mk X G a l c k (fun _ _ _ _ _ _ us hl => match us, hl with | [], _ => rfl) (fun _ _ _ _ _ _ e he => absurd he List.not_mem_nil)
theorem f_law {K : PySem.W.Frag} {h : Heap} {mg : Str → Option Value} (X : K.In h) (G : h.Ns mainGlobals mg) {f : Addr} {oc : Value} {od an : Option Addr} {osl : Array (Option Value)} {kV doc pm cdv ct : Value} (a : PySem.W.nsIn K mainGlobals "law" = some (some (.ref f))) (l : K.lookup f = some ⟨oc, od, .func (PySem.W.fnOf "law" "law" (defArgs d_law.st) (defBody d_law.st) (defScope d_law.st) .none kV doc pm an cdv ct), osl⟩) (c : PySem.W.codeIn K cdv "law" = true) (k : PySem.W.keepIn K (.ref f) = true) : DfF K mg d_law :=
  dff_mk X G a l c k (fun _ _ _ _ _ _ us hl => match us, hl with | [_], _ => rfl) (fun _ _ _ _ _ _ e he => absurd he List.not_mem_nil)
theorem all_F {K : PySem.W.Frag} {mg : Str → Option Value} (h0 : DfF K mg d_is_list) (h1 : DfF K mg d_is_integer) (h2 : DfF K mg d_is_count) (h3 : DfF K mg d_is_signs) (h4 : DfF K mg d_has_frame) (h5 : DfF K mg d_check_texts) (h6 : DfF K mg d_framed) (h7 : DfF K mg d_all_framed) (h8 : DfF K mg d_frame_end) (h9 : DfF K mg d_frames_in) (h10 : DfF K mg d_is_whole) (h11 : DfF K mg d_cut_at) (h12 : DfF K mg d__law_cell) (h13 : DfF K mg d__law_box) (h14 : DfF K mg d__law_take) (h15 : DfF K mg d__law_text) (h16 : DfF K mg d__law_bad) (h17 : DfF K mg d__law_no_list) (h18 : DfF K mg d__law_no_count) (h19 : DfF K mg d__law_copy) (h20 : DfF K mg d__law_met) (h21 : DfF K mg d__law_is_met) (h22 : DfF K mg d__law_texts_refused) (h23 : DfF K mg d__law_lists_refused) (h24 : DfF K mg d__law_frame) (h25 : DfF K mg d__law_taken) (h26 : DfF K mg d__law_at_the_bound) (h27 : DfF K mg d_law) : ∀ d ∈ ds, DfF K mg d :=
  List.forall_mem_cons.mpr ⟨h0, List.forall_mem_cons.mpr ⟨h1, List.forall_mem_cons.mpr ⟨h2, List.forall_mem_cons.mpr ⟨h3, List.forall_mem_cons.mpr ⟨h4, List.forall_mem_cons.mpr ⟨h5, List.forall_mem_cons.mpr ⟨h6, List.forall_mem_cons.mpr ⟨h7, List.forall_mem_cons.mpr ⟨h8, List.forall_mem_cons.mpr ⟨h9, List.forall_mem_cons.mpr ⟨h10, List.forall_mem_cons.mpr ⟨h11, List.forall_mem_cons.mpr ⟨h12, List.forall_mem_cons.mpr ⟨h13, List.forall_mem_cons.mpr ⟨h14, List.forall_mem_cons.mpr ⟨h15, List.forall_mem_cons.mpr ⟨h16, List.forall_mem_cons.mpr ⟨h17, List.forall_mem_cons.mpr ⟨h18, List.forall_mem_cons.mpr ⟨h19, List.forall_mem_cons.mpr ⟨h20, List.forall_mem_cons.mpr ⟨h21, List.forall_mem_cons.mpr ⟨h22, List.forall_mem_cons.mpr ⟨h23, List.forall_mem_cons.mpr ⟨h24, List.forall_mem_cons.mpr ⟨h25, List.forall_mem_cons.mpr ⟨h26, List.forall_mem_cons.mpr ⟨h27, fun e he => absurd he List.not_mem_nil⟩⟩⟩⟩⟩⟩⟩⟩⟩⟩⟩⟩⟩⟩⟩⟩⟩⟩⟩⟩⟩⟩⟩⟩⟩⟩⟩⟩
theorem all_bs {mg : Str → Option Value} (b0 : mg "isinstance" = none) (b1 : mg "list" = none) (b2 : mg "tuple" = none) (b3 : mg "bool" = none) (b4 : mg "int" = none) (b5 : mg "str" = none) (b6 : mg "len" = none) (b7 : mg "all" = none) (b8 : mg "sum" = none) (b9 : mg "abs" = none) (b10 : mg "range" = none) (b11 : mg "dict" = none) (b12 : mg "repr" = none) (b13 : mg "max" = none) (b14 : mg "min" = none) : ∀ x, tb.bs.contains x = true → mg x = none :=
  bs_of (List.forall_mem_cons.mpr ⟨b0, List.forall_mem_cons.mpr ⟨b1, List.forall_mem_cons.mpr ⟨b2, List.forall_mem_cons.mpr ⟨b3, List.forall_mem_cons.mpr ⟨b4, List.forall_mem_cons.mpr ⟨b5, List.forall_mem_cons.mpr ⟨b6, List.forall_mem_cons.mpr ⟨b7, List.forall_mem_cons.mpr ⟨b8, List.forall_mem_cons.mpr ⟨b9, List.forall_mem_cons.mpr ⟨b10, List.forall_mem_cons.mpr ⟨b11, List.forall_mem_cons.mpr ⟨b12, List.forall_mem_cons.mpr ⟨b13, List.forall_mem_cons.mpr ⟨b14, fun e he => absurd he List.not_mem_nil⟩⟩⟩⟩⟩⟩⟩⟩⟩⟩⟩⟩⟩⟩⟩)
theorem all_cs {K : PySem.W.Frag} {mg : Str → Option Value} (c0 : glV K mg "MOST_SIGNS" (.int 80000)) (c1 : glV K mg "FIGURES" (.str "0123456789")) : ∀ x v, tb.cs.lookup x = some v → glV K mg x v :=
  cs_cons c0 (cs_cons c1 (cs_nil))
theorem x_InvalidCount {K : PySem.W.Frag} {h : Heap} {mg : Str → Option Value} (X : K.In h) (G : h.Ns mainGlobals mg) {C BA fI : Addr} {oc : Value} {od an : Option Addr} {osl : Array (Option Value)} {kV doc pm cdv ct : Value} (a : PySem.W.nsIn K mainGlobals "InvalidCount" = some (some (.ref C))) (b : PySem.W.nsIn K mainGlobals "QueueError" = some (some (.ref BA))) (i : PySem.W.findIn K (.ref C) "__init__" = some (some (.ref fI))) (l : K.lookup fI = some ⟨oc, od, .func (PySem.W.fnOf "__init__" "InvalidCount.__init__" (defArgs (initSt (top 2))) (defBody (initSt (top 2))) (defScope (initSt (top 2))) .none kV doc pm an cdv ct), osl⟩) (cc : PySem.W.codeIn K cdv "InvalidCount.__init__" = true) (kk : PySem.W.keepIn K (.ref fI) = true) (z : xAllB K C BA fI ["given"] = true) (P : Program) (w : World) (base : Heap) : XMk P w K mg base (nmOf K) "InvalidCount" ["given"] ∧ XRd K (nmOf K) "InvalidCount" ["given"] :=
  xs_mk X G (N := ["self", "given"]) a b i l cc kk z (fun _ _ _ _ _ _ us hl => match us, hl with | [_, _], _ => rfl) (by decide +kernel) (by decide +kernel) (by decide +kernel) P w base
theorem x_InvalidText {K : PySem.W.Frag} {h : Heap} {mg : Str → Option Value} (X : K.In h) (G : h.Ns mainGlobals mg) {C BA fI : Addr} {oc : Value} {od an : Option Addr} {osl : Array (Option Value)} {kV doc pm cdv ct : Value} (a : PySem.W.nsIn K mainGlobals "InvalidText" = some (some (.ref C))) (b : PySem.W.nsIn K mainGlobals "QueueError" = some (some (.ref BA))) (i : PySem.W.findIn K (.ref C) "__init__" = some (some (.ref fI))) (l : K.lookup fI = some ⟨oc, od, .func (PySem.W.fnOf "__init__" "InvalidText.__init__" (defArgs (initSt (top 3))) (defBody (initSt (top 3))) (defScope (initSt (top 3))) .none kV doc pm an cdv ct), osl⟩) (cc : PySem.W.codeIn K cdv "InvalidText.__init__" = true) (kk : PySem.W.keepIn K (.ref fI) = true) (z : xAllB K C BA fI ["given"] = true) (P : Program) (w : World) (base : Heap) : XMk P w K mg base (nmOf K) "InvalidText" ["given"] ∧ XRd K (nmOf K) "InvalidText" ["given"] :=
  xs_mk X G (N := ["self", "given"]) a b i l cc kk z (fun _ _ _ _ _ _ us hl => match us, hl with | [_, _], _ => rfl) (by decide +kernel) (by decide +kernel) (by decide +kernel) P w base
theorem all_xs {P : Program} {w : World} {K : PySem.W.Frag} {mg : Str → Option Value} {base : Heap} {nm : Nm} (h0 : XMk P w K mg base nm "InvalidCount" ["given"] ∧ XRd K nm "InvalidCount" ["given"]) (h1 : XMk P w K mg base nm "InvalidText" ["given"] ∧ XRd K nm "InvalidText" ["given"]) : ∀ c fl, tb.xs.lookup c = some fl → XMk P w K mg base nm c fl ∧ XRd K nm c fl :=
  xs_cons h0 (xs_cons h1 (xs_nil))
theorem all_xm {K : PySem.W.Frag} {mg : Str → Option Value} {nm : Nm} (h0 : XIn K nm mg "InvalidText" "InvalidText" true) (h1 : XIn K nm mg "InvalidCount" "InvalidText" false) (h2 : XIn K nm mg "InvalidText" "QueueError" true) (h3 : XIn K nm mg "InvalidText" "InvalidCount" false) (h4 : XIn K nm mg "InvalidCount" "InvalidCount" true) (h5 : XIn K nm mg "InvalidCount" "QueueError" true) : ∀ y c b, tb.xm.contains (y, c, b) = true → XIn K nm mg y c b :=
  xm_of (List.forall_mem_cons.mpr ⟨h0, List.forall_mem_cons.mpr ⟨h1, List.forall_mem_cons.mpr ⟨h2, List.forall_mem_cons.mpr ⟨h3, List.forall_mem_cons.mpr ⟨h4, List.forall_mem_cons.mpr ⟨h5, fun e he => absurd he List.not_mem_nil⟩⟩⟩⟩⟩⟩)
theorem all_xc {mg : Str → Option Value} (h0 : ∃ D, mg "InvalidText" = some (.ref D)) (h1 : ∃ D, mg "InvalidCount" = some (.ref D)) : ∀ c, tb.xc.contains c = true → ∃ D, mg c = some (.ref D) :=
  xc_of (List.forall_mem_cons.mpr ⟨h0, List.forall_mem_cons.mpr ⟨h1, fun e he => absurd he List.not_mem_nil⟩⟩)
end K10

open PySem PySem.W PyProof.Rows in
theorem PySem.Challenge.cw_keptinorder_k10_frames_refused_and_judge_holds : PySem.Challenge.rw_keptinorder_k10_frames_refused_and_judge.Holds := by
  w_on; o_law; k_head; (case hw => w_witness2)
  k_fill
  refine Ko.walkG (l := PySem.Challenge.rw_keptinorder_k10_frames_refused_and_judge) (k := 21) (x := "script") (sem := (Ko.ops K10.ds 21).call "law") rfl (by decide) rfl ⟨rfl, by decide, by decide⟩ ?hq (fun w h Y => PySem.W.kIn_of Y) ?nl ?F K10.law_true
  case hq => decide +kernel
  case nl => exact fun _ => rfl
  case F =>
    intro w mg fa h KX G hmg
    refine' Ko.law_F (y := "law") (dl := K10.d_law) (tb := K10.tb) (ds := K10.ds) rfl (K10.all_F (K10.f_is_list KX G ?a0 ?l0 ?c0 ?k0) (K10.f_is_integer KX G ?a1 ?l1 ?c1 ?k1) (K10.f_is_count KX G ?a2 ?l2 ?c2 ?k2) (K10.f_is_signs KX G ?a3 ?l3 ?c3 ?k3) (K10.f_has_frame KX G ?a4 ?l4 ?c4 ?k4) (K10.f_check_texts KX G ?a5 ?l5 ?c5 ?k5) (K10.f_framed KX G ?a6 ?l6 ?c6 ?k6) (K10.f_all_framed KX G ?a7 ?l7 ?c7 ?k7) (K10.f_frame_end KX G ?a8 ?l8 ?c8 ?k8) (K10.f_frames_in KX G ?a9 ?l9 ?c9 ?k9) (K10.f_is_whole KX G ?a10 ?l10 ?c10 ?k10) (K10.f_cut_at KX G ?a11 ?l11 ?c11 ?k11) (K10.f__law_cell KX G ?a12 ?l12 ?c12 ?k12) (K10.f__law_box KX G ?a13 ?l13 ?c13 ?k13) (K10.f__law_take KX G ?a14 ?l14 ?c14 ?k14) (K10.f__law_text KX G ?a15 ?l15 ?c15 ?k15) (K10.f__law_bad KX G ?a16 ?l16 ?c16 ?k16) (K10.f__law_no_list KX G ?a17 ?l17 ?c17 ?k17) (K10.f__law_no_count KX G ?a18 ?l18 ?c18 ?k18) (K10.f__law_copy KX G ?a19 ?l19 ?c19 ?k19) (K10.f__law_met KX G ?a20 ?l20 ?c20 ?k20) (K10.f__law_is_met KX G ?a21 ?l21 ?c21 ?k21) (K10.f__law_texts_refused KX G ?a22 ?l22 ?c22 ?k22) (K10.f__law_lists_refused KX G ?a23 ?l23 ?c23 ?k23) (K10.f__law_frame KX G ?a24 ?l24 ?c24 ?k24) (K10.f__law_taken KX G ?a25 ?l25 ?c25 ?k25) (K10.f__law_at_the_bound KX G ?a26 ?l26 ?c26 ?k26) (K10.f_law KX G ?a27 ?l27 ?c27 ?k27)) K10.ds_ok K10.kw_ok (K10.all_bs (PySem.W.mg_none_of KX G ?b0) (PySem.W.mg_none_of KX G ?b1) (PySem.W.mg_none_of KX G ?b2) (PySem.W.mg_none_of KX G ?b3) (PySem.W.mg_none_of KX G ?b4) (PySem.W.mg_none_of KX G ?b5) (PySem.W.mg_none_of KX G ?b6) (PySem.W.mg_none_of KX G ?b7) (PySem.W.mg_none_of KX G ?b8) (PySem.W.mg_none_of KX G ?b9) (PySem.W.mg_none_of KX G ?b10) (PySem.W.mg_none_of KX G ?b11) (PySem.W.mg_none_of KX G ?b12) (PySem.W.mg_none_of KX G ?b13) (PySem.W.mg_none_of KX G ?b14)) (K10.all_cs (Ko.gl_int KX G ?v0) (Ko.gl_str KX G ?v1)) (fun base => K10.all_xs (K10.x_InvalidCount KX G ?xa0 ?xb0 ?xi0 ?xl0 ?xc0 ?xk0 ?xq0 _ _ base) (K10.x_InvalidText KX G ?xa1 ?xb1 ?xi1 ?xl1 ?xc1 ?xk1 ?xq1 _ _ base)) (K10.all_xm (Ko.xm_mk KX G ?ma0 ?md0 ?me0 ?mf0) (Ko.xm_mk KX G ?ma1 ?md1 ?me1 ?mf1) (Ko.xm_mk KX G ?ma2 ?md2 ?me2 ?mf2) (Ko.xm_mk KX G ?ma3 ?md3 ?me3 ?mf3) (Ko.xm_mk KX G ?ma4 ?md4 ?me4 ?mf4) (Ko.xm_mk KX G ?ma5 ?md5 ?me5 ?mf5)) (K10.all_xc (Ko.xc_mk KX G ?xd0) (Ko.xc_mk KX G ?xd1)) rfl rfl rfl ?mem hmg
    (case a0 => k_is)
    (case l0 => k_is)
    (case c0 => k_is)
    (case k0 => k_is)
    (case a1 => k_is)
    (case l1 => k_is)
    (case c1 => k_is)
    (case k1 => k_is)
    (case a2 => k_is)
    (case l2 => k_is)
    (case c2 => k_is)
    (case k2 => k_is)
    (case a3 => k_is)
    (case l3 => k_is)
    (case c3 => k_is)
    (case k3 => k_is)
    (case a4 => k_is)
    (case l4 => k_is)
    (case c4 => k_is)
    (case k4 => k_is)
    (case a5 => k_is)
    (case l5 => k_is)
    (case c5 => k_is)
    (case k5 => k_is)
    (case a6 => k_is)
    (case l6 => k_is)
    (case c6 => k_is)
    (case k6 => k_is)
    (case a7 => k_is)
    (case l7 => k_is)
    (case c7 => k_is)
    (case k7 => k_is)
    (case a8 => k_is)
    (case l8 => k_is)
    (case c8 => k_is)
    (case k8 => k_is)
    (case a9 => k_is)
    (case l9 => k_is)
    (case c9 => k_is)
    (case k9 => k_is)
    (case a10 => k_is)
    (case l10 => k_is)
    (case c10 => k_is)
    (case k10 => k_is)
    (case a11 => k_is)
    (case l11 => k_is)
    (case c11 => k_is)
    (case k11 => k_is)
    (case a12 => k_is)
    (case l12 => k_is)
    (case c12 => k_is)
    (case k12 => k_is)
    (case a13 => k_is)
    (case l13 => k_is)
    (case c13 => k_is)
    (case k13 => k_is)
    (case a14 => k_is)
    (case l14 => k_is)
    (case c14 => k_is)
    (case k14 => k_is)
    (case a15 => k_is)
    (case l15 => k_is)
    (case c15 => k_is)
    (case k15 => k_is)
    (case a16 => k_is)
    (case l16 => k_is)
    (case c16 => k_is)
    (case k16 => k_is)
    (case a17 => k_is)
    (case l17 => k_is)
    (case c17 => k_is)
    (case k17 => k_is)
    (case a18 => k_is)
    (case l18 => k_is)
    (case c18 => k_is)
    (case k18 => k_is)
    (case a19 => k_is)
    (case l19 => k_is)
    (case c19 => k_is)
    (case k19 => k_is)
    (case a20 => k_is)
    (case l20 => k_is)
    (case c20 => k_is)
    (case k20 => k_is)
    (case a21 => k_is)
    (case l21 => k_is)
    (case c21 => k_is)
    (case k21 => k_is)
    (case a22 => k_is)
    (case l22 => k_is)
    (case c22 => k_is)
    (case k22 => k_is)
    (case a23 => k_is)
    (case l23 => k_is)
    (case c23 => k_is)
    (case k23 => k_is)
    (case a24 => k_is)
    (case l24 => k_is)
    (case c24 => k_is)
    (case k24 => k_is)
    (case a25 => k_is)
    (case l25 => k_is)
    (case c25 => k_is)
    (case k25 => k_is)
    (case a26 => k_is)
    (case l26 => k_is)
    (case c26 => k_is)
    (case k26 => k_is)
    (case a27 => k_is)
    (case l27 => k_is)
    (case c27 => k_is)
    (case k27 => k_is)
    (case b0 => k_is)
    (case b1 => k_is)
    (case b2 => k_is)
    (case b3 => k_is)
    (case b4 => k_is)
    (case b5 => k_is)
    (case b6 => k_is)
    (case b7 => k_is)
    (case b8 => k_is)
    (case b9 => k_is)
    (case b10 => k_is)
    (case b11 => k_is)
    (case b12 => k_is)
    (case b13 => k_is)
    (case b14 => k_is)
    (case v0 => k_is)
    (case v1 => k_is)
    (case xa0 => k_is)
    (case xb0 => k_is)
    (case xi0 => k_is)
    (case xl0 => k_is)
    (case xc0 => k_is)
    (case xk0 => k_is)
    (case xq0 => kernel_rfl)
    (case xa1 => k_is)
    (case xb1 => k_is)
    (case xi1 => k_is)
    (case xl1 => k_is)
    (case xc1 => k_is)
    (case xk1 => k_is)
    (case xq1 => kernel_rfl)
    (case ma0 => k_is)
    (case md0 => k_is)
    (case me0 => kernel_rfl)
    (case mf0 => kernel_rfl)
    (case ma1 => k_is)
    (case md1 => k_is)
    (case me1 => kernel_rfl)
    (case mf1 => kernel_rfl)
    (case ma2 => k_is)
    (case md2 => k_is)
    (case me2 => kernel_rfl)
    (case mf2 => kernel_rfl)
    (case ma3 => k_is)
    (case md3 => k_is)
    (case me3 => kernel_rfl)
    (case mf3 => kernel_rfl)
    (case ma4 => k_is)
    (case md4 => k_is)
    (case me4 => kernel_rfl)
    (case mf4 => kernel_rfl)
    (case ma5 => k_is)
    (case md5 => k_is)
    (case me5 => kernel_rfl)
    (case mf5 => kernel_rfl)
    (case xd0 => k_is)
    (case xd1 => k_is)
    case mem => simp [K10.ds]
#print axioms PySem.Challenge.cw_keptinorder_k10_frames_refused_and_judge_holds

