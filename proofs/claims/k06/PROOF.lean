import PyProof.Rows.All
import Wide.All
import OpenK.AllK
import Wide.FinOn
import HandS.ForMost
import HandS.IsInst
import HandS.Exc
import HandS.ExcOwn
import HandS.StrMore
import HandS.TupAny
import HandS.TupMul
import HandS.Wide
import HandS.WideBits
import HandS.Style
import HandS.Flow
import HandS.RaiseMore
import HandS.More
import HandS.Conv
import HandS.TryOnly
import HandS.Small
import HandS.ExcInit
import HandS.TryMany
import HandS.ExcField
import KE.KExcInit
import KE.KExcIs
import KE.KIsAll
import HandS.Strs
import HandS.DictEq
import KE.IntTextLaws
import KE.KIntText
import PySem.Challenge.RW_keptinorder_k06_files_and_what_is_synced
set_option Elab.async false
set_option linter.all false
set_option maxRecDepth 100000
set_option maxHeartbeats 4000000
/-! Ko, part A: abstract values by content, the abstract heap, worlds, and what ties them to HandS's heap. -/
namespace Ko
open PySem L2

/-- values: tuples, and lists and dicts that nobody changes, by their content; all else that changes by its place -/
inductive AV where
  | non | bl (b : Bool) | int (i : Int) | str (z : Str)
  | tup (xs : List AV) | lst (xs : List AV) | dct (kvs : List (Key × AV))
  | ref (n : Nat)

/-- an object that changes -/
inductive AO where
  | lst (xs : List AV)
  | dct (kvs : List (Key × AV))
  | ins (c : Str) (fs : List (Str × AV))

abbrev AH := List AO
abbrev Rho := List (Option AV)
/-- an exception: its class, its fields -/
structure EX where
  c : Str
  fs : List (Str × AV)

/-- how far an expression comes -/
inductive Ot (α : Type) where
  | ok (a : α) (ah : AH)
  | ex (x : EX) (ah : AH)
  | st
def Ot.bind {α β : Type} : Ot α → (α → AH → Ot β) → Ot β
  | .ok a ah, f => f a ah
  | .ex x ah, _ => .ex x ah
  | .st, _ => .st

mutual
inductive RV (K : PySem.W.Frag) (fz : Hp) (io : List Addr) : AV → V → Prop
  | non : RV K fz io .non .non
  | bl (b : Bool) : RV K fz io (.bl b) (.bl b)
  | int (i : Int) : RV K fz io (.int i) (.int i)
  | str (z : Str) : RV K fz io (.str z) (.str z)
  | tup {a : Addr} {xs : List AV} {vs : List V} : SqT K fz a vs → RVs K fz io xs vs → RV K fz io (.tup xs) (.ref a)
  | lst {a : Addr} {xs : List AV} {vs : List V} : Rd fz a (.lst vs) → RVs K fz io xs vs → RV K fz io (.lst xs) (.ref a)
  | dct {a : Addr} {kvs : List (Key × AV)} {ws : List (Key × V)} : fz a = some (.dK ws) → RKs K fz io kvs ws → RV K fz io (.dct kvs) (.ref a)
  | ref {n : Nat} {a : Addr} : io[n]? = some a → RV K fz io (.ref n) (.ref a)
inductive RVs (K : PySem.W.Frag) (fz : Hp) (io : List Addr) : List AV → List V → Prop
  | nil : RVs K fz io [] []
  | cons {x : AV} {v : V} {xs : List AV} {vs : List V} : RV K fz io x v → RVs K fz io xs vs → RVs K fz io (x :: xs) (v :: vs)
inductive RKs (K : PySem.W.Frag) (fz : Hp) (io : List Addr) : List (Key × AV) → List (Key × V) → Prop
  | nil : RKs K fz io [] []
  | cons {k : Key} {x : AV} {v : V} {xs : List (Key × AV)} {vs : List (Key × V)} : RV K fz io x v → RKs K fz io xs vs → RKs K fz io ((k, x) :: xs) ((k, v) :: vs)
end

section
variable {K : PySem.W.Frag} {fz fz' : Hp} {io io' : List Addr}
theorem same_tup {H H' : Hp} {a : Addr} {vs : List V} (e : Same H H') (h : SqT K H a vs) : SqT K H' a vs := by
  rcases h with (h | ⟨o, h⟩) | h
  · exact .inl (.inl (e _ _ h))
  · exact .inl (.inr ⟨o, e _ _ h⟩)
  · exact .inr h
theorem same_rd {H H' : Hp} {a : Addr} {o : HO} (e : Same H H') (h : Rd H a o) : Rd H' a o := by
  rcases h with h | ⟨u, h⟩
  · exact .inl (e _ _ h)
  · exact .inr ⟨u, e _ _ h⟩
mutual
theorem RV.mono (e : Same fz fz') (p : io <+: io') : ∀ {x : AV} {v : V}, RV K fz io x v → RV K fz' io' x v
  | _, _, .non => .non
  | _, _, .bl b => .bl b
  | _, _, .int i => .int i
  | _, _, .str z => .str z
  | _, _, .tup h r => .tup (same_tup e h) (RVs.mono e p r)
  | _, _, .lst h r => .lst (same_rd e h) (RVs.mono e p r)
  | _, _, .dct h r => .dct (e _ _ h) (RKs.mono e p r)
  | _, _, .ref h => .ref (by
      obtain ⟨t, rfl⟩ := p
      rw [List.getElem?_append_left (List.getElem?_eq_some_iff.mp h).1]
      exact h)
theorem RVs.mono (e : Same fz fz') (p : io <+: io') : ∀ {xs : List AV} {vs : List V}, RVs K fz io xs vs → RVs K fz' io' xs vs
  | _, _, .nil => .nil
  | _, _, .cons r t => .cons (RV.mono e p r) (RVs.mono e p t)
theorem RKs.mono (e : Same fz fz') (p : io <+: io') : ∀ {xs : List (Key × AV)} {vs : List (Key × V)}, RKs K fz io xs vs → RKs K fz' io' xs vs
  | _, _, .nil => .nil
  | _, _, .cons r t => .cons (RV.mono e p r) (RKs.mono e p t)
end
theorem RVs.length : ∀ {xs : List AV} {vs : List V}, RVs K fz io xs vs → vs.length = xs.length
  | _, _, .nil => rfl
  | _, _, .cons _ t => by simp [RVs.length t]
theorem RVs.get : ∀ {xs : List AV} {vs : List V} {i : Nat} {x : AV}, RVs K fz io xs vs → xs[i]? = some x → ∃ v, vs[i]? = some v ∧ RV K fz io x v
  | _, _, _, _, .nil, e => by simp at e
  | _, _, 0, _, .cons r _, e => by simp at e; subst e; exact ⟨_, rfl, r⟩
  | _, _, i + 1, x, .cons _ t, e => by
    obtain ⟨u, h1, h2⟩ := RVs.get (i := i) (x := x) t (by simpa using e)
    exact ⟨u, by simpa using h1, h2⟩
theorem RVs.back : ∀ {xs : List AV} {vs : List V} {i : Nat} {v : V}, RVs K fz io xs vs → vs[i]? = some v → ∃ x, xs[i]? = some x ∧ RV K fz io x v
  | _, _, _, _, .nil, e => by simp at e
  | _, _, 0, _, .cons r _, e => by simp at e; subst e; exact ⟨_, rfl, r⟩
  | _, _, i + 1, v, .cons _ t, e => by
    obtain ⟨u, h1, h2⟩ := RVs.back (i := i) (v := v) t (by simpa using e)
    exact ⟨u, by simpa using h1, h2⟩
theorem RVs.append : ∀ {xs ys : List AV} {us ws : List V}, RVs K fz io xs us → RVs K fz io ys ws → RVs K fz io (xs ++ ys) (us ++ ws)
  | _, _, _, _, .nil, s => s
  | _, _, _, _, .cons r t, s => .cons r (RVs.append t s)
theorem RVs.take : ∀ {xs : List AV} {us : List V} (n : Nat), RVs K fz io xs us → RVs K fz io (xs.take n) (us.take n)
  | _, _, 0, _ => .nil
  | _, _, _ + 1, .nil => .nil
  | _, _, n + 1, .cons r t => .cons r (RVs.take n t)
theorem RVs.drop : ∀ {xs : List AV} {us : List V} (n : Nat), RVs K fz io xs us → RVs K fz io (xs.drop n) (us.drop n)
  | _, _, 0, r => r
  | _, _, _ + 1, .nil => .nil
  | _, _, n + 1, .cons _ t => RVs.drop n t
theorem RVs.set {x : AV} {v : V} (r : RV K fz io x v) : ∀ {xs : List AV} {vs : List V} (i : Nat), RVs K fz io xs vs → RVs K fz io (xs.set i x) (vs.set i v)
  | _, _, _, .nil => .nil
  | _, _, 0, .cons _ t => .cons r t
  | _, _, i + 1, .cons q t => .cons q (RVs.set r i t)
end

/-- a world: what stands for ever, where the changing objects stand -/
structure Wd where
  fz : Hp
  io : List Addr
abbrev Wd.RV (W : Wd) (K : PySem.W.Frag) (x : AV) (v : V) : Prop := Ko.RV K W.fz W.io x v
abbrev Wd.RVs (W : Wd) (K : PySem.W.Frag) (xs : List AV) (vs : List V) : Prop := Ko.RVs K W.fz W.io xs vs

/-- class names and addresses -/
structure Nm where
  cls : Str → Option Addr

/-- fields of an object -/
abbrev RFs (K : PySem.W.Frag) (W : Wd) : List (Str × AV) → List (Str × V) → Prop := Paired fun p q => p.1 = q.1 ∧ W.RV K p.2 q.2

/-- what an abstract object is at its address -/
def RO (K : PySem.W.Frag) (nm : Nm) (W : Wd) (H : Hp) (a : Addr) : AO → Prop
  | .lst xs => ∃ vs, H a = some (.lst vs) ∧ W.RVs K xs vs
  | .dct kvs => ∃ ws, H a = some (.dK ws) ∧ RKs K W.fz W.io kvs ws
  | .ins c fs => ∃ C dx ws, nm.cls c = some C ∧ H a = some (.ins C dx ws) ∧ RFs K W fs ws

structure RelH (K : PySem.W.Frag) (nm : Nm) (W : Wd) (ah : AH) (H : Hp) : Prop where
  fz : Same W.fz H
  len : W.io.length = ah.length
  nd : W.io.Nodup
  sep : ∀ a ∈ W.io, W.fz a = none
  obj : ∀ (i : Nat) (a : Addr) (o : AO), W.io[i]? = some a → ah[i]? = some o → RO K nm W H a o

/-- from one moment to a later one -/
structure Step (W : Wd) (H : Hp) (W' : Wd) (H' : Hp) : Prop where
  io : W.io <+: W'.io
  fz : Same W.fz W'.fz
  fr : ∀ b o, H b = some o → b ∉ W.io → H' b = some o
  nio : ∀ a ∈ W'.io, a ∈ W.io ∨ H a = none
  nfz : ∀ b, W'.fz b ≠ none → W.fz b ≠ none ∨ H b = none
  dom : ∀ b, H' b = none → H b = none
theorem Step.refl (W : Wd) (H : Hp) : Step W H W H := ⟨List.prefix_refl _, Same.refl _, fun _ _ h _ => h, fun _ h => .inl h, fun _ h => .inl h, fun _ h => h⟩
theorem Step.trans {W W1 W2 : Wd} {H H1 H2 : Hp} (a : Step W H W1 H1) (b : Step W1 H1 W2 H2) : Step W H W2 H2 where
  io := a.io.trans b.io
  fz := a.fz.trans b.fz
  fr := fun c o h n => b.fr c o (a.fr c o h n) fun m => (a.nio c m).elim n fun z => by rw [z] at h; cases h
  nio := fun c m => (b.nio c m).elim (fun m1 => a.nio c m1) fun z => .inr (a.dom c z)
  nfz := fun c m => (b.nfz c m).elim (fun m1 => a.nfz c m1) fun z => .inr (a.dom c z)
  dom := fun c z => a.dom c (b.dom c z)
theorem RV.step {K : PySem.W.Frag} {W W' : Wd} {H H' : Hp} {x : AV} {v : V} (s : Step W H W' H') (r : W.RV K x v) : W'.RV K x v := r.mono s.fz s.io
theorem RVs.step {K : PySem.W.Frag} {W W' : Wd} {H H' : Hp} {x : List AV} {v : List V} (s : Step W H W' H') (r : W.RVs K x v) : W'.RVs K x v := r.mono s.fz s.io
theorem RFs.step {K : PySem.W.Frag} {W W' : Wd} {H H' : Hp} (s : Step W H W' H') : ∀ {x : List (Str × AV)} {v : List (Str × V)}, RFs K W x v → RFs K W' x v
  | _, _, .nil => .nil
  | _, _, .cons r t => .cons ⟨r.1, r.2.step s⟩ (RFs.step s t)

/-- a new thing that stands for ever -/
def Wd.keep (W : Wd) (p : Addr) (o : HO) : Wd := ⟨upd W.fz p o, W.io⟩
/-- a new object that changes -/
def Wd.more (W : Wd) (p : Addr) : Wd := ⟨W.fz, W.io ++ [p]⟩

section
variable {K : PySem.W.Frag} {nm : Nm} {W : Wd} {ah : AH} {H : Hp}
theorem RelH.nio (R : RelH K nm W ah H) {a : Addr} (h : a ∈ W.io) : ∃ o, H a = some o := by
  obtain ⟨i, hi⟩ := List.getElem?_of_mem h
  obtain ⟨o, ho⟩ : ∃ o, ah[i]? = some o := by
    have : i < ah.length := by rw [← R.len]; exact (List.getElem?_eq_some_iff.mp hi).1
    exact ⟨_, List.getElem?_eq_getElem this⟩
  have q := R.obj i a o hi ho
  cases o with
  | lst xs => obtain ⟨vs, e, _⟩ := q; exact ⟨_, e⟩
  | dct xs => obtain ⟨vs, e, _⟩ := q; exact ⟨_, e⟩
  | ins c fs => obtain ⟨C, dx, ws, _, e, _⟩ := q; exact ⟨_, e⟩
theorem RelH.fresh (R : RelH K nm W ah H) {p : Addr} (h : H p = none) : p ∉ W.io ∧ W.fz p = none := by
  refine ⟨fun m => ?_, ?_⟩
  · obtain ⟨o, e⟩ := R.nio m
    rw [h] at e; cases e
  · cases q : W.fz p with
    | none => rfl
    | some o => rw [R.fz p o q] at h; cases h
theorem RO.mono {W' : Wd} {H' : Hp} {a : Addr} {o : AO} (e : Same W.fz W'.fz) (p : W.io <+: W'.io) (h : H' a = H a) (r : RO K nm W H a o) : RO K nm W' H' a o := by
  cases o with
  | lst xs => obtain ⟨vs, q, r⟩ := r; exact ⟨vs, h.trans q, r.mono e p⟩
  | dct xs => obtain ⟨vs, q, r⟩ := r; exact ⟨vs, h.trans q, r.mono e p⟩
  | ins c fs =>
    obtain ⟨C, dx, ws, q0, q, r⟩ := r
    refine ⟨C, dx, ws, q0, h.trans q, ?_⟩
    exact Paired.mapP r fun _ _ z => ⟨z.1, z.2.mono e p⟩
theorem Step.keep (R : RelH K nm W ah H) {p : Addr} {o : HO} (h : H p = none) : Step W H (W.keep p o) (upd H p o) := by
  refine ⟨List.prefix_refl _, fun b u e => ?_, fun b u e n => ?_, fun b m => .inl m, fun b q => ?_, fun b q => ?_⟩
  · show upd W.fz p o b = some u
    rw [upd_ne (fun z => by rw [z, (R.fresh h).2] at e; cases e)]; exact e
  · rw [upd_ne (ne_of_none e h)]; exact e
  · by_cases hb : b = p
    · exact .inr (by rw [hb]; exact h)
    · refine .inl ?_
      have q' : upd W.fz p o b ≠ none := q
      rw [upd_ne hb] at q'; exact q'
  · by_cases hb : b = p
    · rw [hb]; exact h
    · rw [upd_ne hb] at q; exact q
theorem RelH.keep (R : RelH K nm W ah H) {p : Addr} {o : HO} (h : H p = none) : RelH K nm (W.keep p o) ah (upd H p o) := by
  have S := Step.keep (o := o) R h
  refine ⟨fun b u e => ?_, R.len, R.nd, fun a m => ?_, fun i a u e1 e2 => ?_⟩
  · have e' : upd W.fz p o b = some u := e
    by_cases hb : b = p
    · subst hb; rw [upd_same] at e' ⊢; exact e'
    · rw [upd_ne hb] at e' ⊢; exact R.fz b u e'
  · show upd W.fz p o a = none
    rw [upd_ne (fun z : a = p => (R.fresh h).1 (by rw [← z]; exact m))]
    exact R.sep a m
  · have m : a ∈ W.io := List.mem_of_getElem? e1
    exact (R.obj i a u e1 e2).mono S.fz S.io (upd_ne (fun z : a = p => (R.fresh h).1 (by rw [← z]; exact m)))
theorem Step.more (R : RelH K nm W ah H) {p : Addr} {o : HO} (h : H p = none) : Step W H (W.more p) (upd H p o) := by
  refine ⟨List.prefix_append _ _, Same.refl _, fun b u e n => ?_, fun b m => ?_, fun b q => .inl q, fun b q => ?_⟩
  · rw [upd_ne (ne_of_none e h)]; exact e
  · rcases List.mem_append.mp m with m | m
    · exact .inl m
    · exact .inr (by rw [List.mem_singleton.mp m]; exact h)
  · by_cases hb : b = p
    · rw [hb]; exact h
    · rw [upd_ne hb] at q; exact q
theorem RelH.more (R : RelH K nm W ah H) {p : Addr} {o : HO} {u : AO} (h : H p = none) (new : RO K nm (W.more p) (upd H p o) p u) : RelH K nm (W.more p) (ah ++ [u]) (upd H p o) := by
  have S := Step.more (o := o) R h
  refine ⟨fun b x e => ?_, ?_, ?_, fun a m => ?_, fun i a x e1 e2 => ?_⟩
  · have e' : W.fz b = some x := e
    rw [upd_ne (ne_of_none (R.fz b x e') h)]
    exact R.fz b x e'
  · show (W.io ++ [p]).length = _
    rw [List.length_append, List.length_append, R.len]; rfl
  · show (W.io ++ [p]).Nodup
    refine List.nodup_append.mpr ⟨R.nd, by simp, fun a ha b hb z => ?_⟩
    rw [List.mem_singleton.mp hb] at z
    exact (R.fresh h).1 (z ▸ ha)
  · have m' : a ∈ W.io ++ [p] := m
    rcases List.mem_append.mp m' with m' | m'
    · exact R.sep a m'
    · rw [List.mem_singleton.mp m']; exact (R.fresh h).2
  · have e1' : (W.io ++ [p])[i]? = some a := e1
    by_cases hi : i < ah.length
    · rw [List.getElem?_append_left (by rw [R.len]; exact hi)] at e1'
      rw [List.getElem?_append_left hi] at e2
      have m : a ∈ W.io := List.mem_of_getElem? e1'
      exact (R.obj i a x e1' e2).mono S.fz S.io (upd_ne (fun z : a = p => (R.fresh h).1 (by rw [← z]; exact m)))
    · have hl : i < ah.length + 1 := by
        have q := (List.getElem?_eq_some_iff.mp e2).1
        rw [List.length_append] at q
        exact q
      have hi' : i = ah.length := by omega
      subst hi'
      rw [List.getElem?_append_right (by rw [R.len]; exact Nat.le_refl _), R.len, Nat.sub_self] at e1'
      rw [List.getElem?_append_right (Nat.le_refl _), Nat.sub_self] at e2
      cases e1'
      cases e2
      exact new
theorem Step.write (R : RelH K nm W ah H) {n : Nat} {p : Addr} {o : HO} (e : W.io[n]? = some p) : Step W H W (upd H p o) := by
  have m : p ∈ W.io := List.mem_of_getElem? e
  refine ⟨List.prefix_refl _, Same.refl _, fun b u e n => ?_, fun b m => .inl m, fun b q => .inl q, fun b q => ?_⟩
  · rw [upd_ne (fun z : b = p => n (by rw [z]; exact m))]; exact e
  · by_cases hb : b = p
    · rw [hb, upd_same] at q; cases q
    · rw [upd_ne hb] at q; exact q
theorem RelH.write (R : RelH K nm W ah H) {n : Nat} {p : Addr} {o : HO} {u : AO} (e : W.io[n]? = some p) (new : RO K nm W (upd H p o) p u) : RelH K nm W (ah.set n u) (upd H p o) := by
  have m : p ∈ W.io := List.mem_of_getElem? e
  refine ⟨fun b x q => ?_, ?_, R.nd, R.sep, fun i a x e1 e2 => ?_⟩
  · rw [upd_ne (fun z => by rw [z, R.sep p m] at q; cases q)]
    exact R.fz b x q
  · rw [List.length_set]; exact R.len
  · by_cases hi : i = n
    · subst hi
      rw [e] at e1
      cases e1
      have hl : i < ah.length := by rw [← R.len]; exact (List.getElem?_eq_some_iff.mp e).1
      rw [List.getElem?_set_self hl] at e2
      cases e2
      exact new
    · rw [List.getElem?_set_ne (Ne.symm hi)] at e2
      refine (R.obj i a x e1 e2).mono (Same.refl _) (List.prefix_refl _) (upd_ne fun z => hi ?_)
      subst z
      have h1 := (List.getElem?_eq_some_iff.mp e1)
      have h2 := (List.getElem?_eq_some_iff.mp e)
      exact (List.getElem?_inj h1.1 R.nd).mp (e1.trans e.symm)
end
end Ko

/-! Ko, part B: readings of expressions by abstract functions. -/
namespace Ko
open PySem L2

section
variable {K : PySem.W.Frag} {nm : Nm} {W : Wd} {ah : AH} {H : Hp} {α β : Type}
/-- what must hold behind r: k of its value, e of its exception -/
def Post (K : PySem.W.Frag) (nm : Nm) (W : Wd) (H : Hp) (r : Ot α) (k : α → AH → Wd → Hp → Prop) (e : EX → AH → Wd → Hp → Prop) : Prop :=
  match r with
  | .ok a ah' => ∀ W' H', Step W H W' H' → RelH K nm W' ah' H' → k a ah' W' H'
  | .ex x ah' => ∀ W' H', Step W H W' H' → RelH K nm W' ah' H' → e x ah' W' H'
  | .st => False
theorem Post.imp {r : Ot α} {k k' : α → AH → Wd → Hp → Prop} {e e' : EX → AH → Wd → Hp → Prop} (p : Post K nm W H r k e)
    (h : ∀ a ah' W' H', Step W H W' H' → RelH K nm W' ah' H' → k a ah' W' H' → k' a ah' W' H') (he : ∀ x ah' W' H', Step W H W' H' → RelH K nm W' ah' H' → e x ah' W' H' → e' x ah' W' H') : Post K nm W H r k' e' := by
  cases r with
  | ok a ah' => exact fun W' H' s R => h a ah' W' H' s R (p W' H' s R)
  | ex x ah' => exact fun W' H' s R => he x ah' W' H' s R (p W' H' s R)
  | st => exact p
theorem Post.shift {r : Ot α} {W0 : Wd} {H0 : Hp} {k : α → AH → Wd → Hp → Prop} {e : EX → AH → Wd → Hp → Prop} (s : Step W0 H0 W H) (p : Post K nm W0 H0 r k e) : Post K nm W H r k e := by
  cases r with
  | ok a ah' => exact fun W' H' s' R => p W' H' (s.trans s') R
  | ex x ah' => exact fun W' H' s' R => p W' H' (s.trans s') R
  | st => exact p
theorem Post.bind {r : Ot α} {f : α → AH → Ot β} {k : β → AH → Wd → Hp → Prop} {e : EX → AH → Wd → Hp → Prop} (p : Post K nm W H (r.bind f) k e) :
    Post K nm W H r (fun a ah1 W1 H1 => Post K nm W1 H1 (f a ah1) k e) e := by
  cases r with
  | ok a ah' => exact fun W' H' s R => Post.shift s p
  | ex x ah' => exact p
  | st => exact p
end

/-- slots: what the abstract ones know -/
inductive RS (K : PySem.W.Frag) (W : Wd) : Rho → St → Prop
  | nil : RS K W [] []
  | un {o : Option V} {ρ : Rho} {σ : St} : RS K W ρ σ → RS K W (none :: ρ) (o :: σ)
  | kn {x : AV} {v : V} {ρ : Rho} {σ : St} : W.RV K x v → RS K W ρ σ → RS K W (some x :: ρ) (some v :: σ)
section
variable {K : PySem.W.Frag} {W W' : Wd} {H H' : Hp}
theorem RS.step (s : Step W H W' H') : ∀ {ρ : Rho} {σ : St}, RS K W ρ σ → RS K W' ρ σ
  | _, _, .nil => .nil
  | _, _, .un t => .un (RS.step s t)
  | _, _, .kn r t => .kn (r.step s) (RS.step s t)
theorem RS.get : ∀ {ρ : Rho} {σ : St} {i : Nat} {x : AV}, RS K W ρ σ → ρ[i]? = some (some x) → ∃ v, σ[i]? = some (some v) ∧ W.RV K x v
  | _, _, _, _, .nil, e => by simp at e
  | _, _, 0, _, .un _, e => by simp at e
  | _, _, 0, _, .kn r _, e => by simp at e; subst e; exact ⟨_, rfl, r⟩
  | _, _, i + 1, x, .un t, e => by
    obtain ⟨v, h1, h2⟩ := RS.get (i := i) (x := x) t (by simpa using e)
    exact ⟨v, by simpa using h1, h2⟩
  | _, _, i + 1, x, .kn _ t, e => by
    obtain ⟨v, h1, h2⟩ := RS.get (i := i) (x := x) t (by simpa using e)
    exact ⟨v, by simpa using h1, h2⟩
theorem RS.set {x : AV} {v : V} (r : W.RV K x v) : ∀ {ρ : Rho} {σ : St} (i : Nat), RS K W ρ σ → RS K W (ρ.set i (some x)) (σ.set i (some v))
  | _, _, _, .nil => .nil
  | _, _, 0, .un t => .kn r t
  | _, _, 0, .kn _ t => .kn r t
  | _, _, i + 1, .un t => .un (RS.set r i t)
  | _, _, i + 1, .kn q t => .kn q (RS.set r i t)
theorem RS.forget : ∀ {ρ : Rho} {σ : St} (i : Nat) (o : Option V), RS K W ρ σ → RS K W (ρ.set i none) (σ.set i o)
  | _, _, _, _, .nil => .nil
  | _, _, 0, _, .un t => .un t
  | _, _, 0, _, .kn _ t => .un t
  | _, _, i + 1, o, .un t => .un (RS.forget i o t)
  | _, _, i + 1, o, .kn q t => .kn q (RS.forget i o t)
theorem RS.length : ∀ {ρ : Rho} {σ : St}, RS K W ρ σ → σ.length = ρ.length
  | _, _, .nil => rfl
  | _, _, .un t => by simp [RS.length t]
  | _, _, .kn _ t => by simp [RS.length t]
end

/-- an exception's class and dict as x tells -/
def ExRep (K : PySem.W.Frag) (nm : Nm) (W : Wd) (x : EX) (cls : Value) (d : Option Addr) : Prop :=
  ∃ C, nm.cls x.c = some C ∧ cls = .ref C ∧ ((x.fs = [] ∧ d = none) ∨ ∃ dd ws, d = some dd ∧ W.fz dd = some (.xd ws) ∧ RFs K W x.fs ws)
/-- the wish about exceptions at slots σ -/
abbrev xw (K : PySem.W.Frag) (nm : Nm) (Wx : WX) (σ : St) : EX → AH → Wd → Hp → Prop := fun x _ W' H' => ∀ cls d, ExRep K nm W' x cls d → Wx cls d σ H'

section
variable (nm : Nm) (K : PySem.W.Frag) (Wx : WX)
def TrE (f : Rho → AH → Ot AV) : TE := fun σ H Q => ∃ W ρ ah, RelH K nm W ah H ∧ RS K W ρ σ ∧ Post K nm W H (f ρ ah) (fun v _ W' H' => ∀ w, W'.RV K v w → Q w H') (xw K nm Wx σ)
def TrA (f : Rho → AH → Ot (List AV)) : TA := fun σ H Q => ∃ W ρ ah, RelH K nm W ah H ∧ RS K W ρ σ ∧ Post K nm W H (f ρ ah) (fun v _ W' H' => ∀ w, W'.RVs K v w → Q w H') (xw K nm Wx σ)
def TrT (f : Rho → AH → Ot Bool) : TT := fun σ H Q => ∃ W ρ ah, RelH K nm W ah H ∧ RS K W ρ σ ∧ Post K nm W H (f ρ ah) (fun v _ W' H' => Q v H') (xw K nm Wx σ)
end

theorem PE.weak {X : Cx} {e : Expr} {t t' : TE} (h : PE X e t) (w : ∀ σ H Q, t' σ H Q → t σ H Q) : PE X e t' := ⟨fun pins s σ H Q I q => h.run pins s σ H Q I (w σ H Q q)⟩
theorem PT.weak {X : Cx} {e : Expr} {t t' : TT} (h : PT X e t) (w : ∀ σ H Q, t' σ H Q → t σ H Q) : PT X e t' := ⟨fun pins s σ H Q I q => h.run pins s σ H Q I (w σ H Q q)⟩
theorem PW.weak {X : Cx} {e : Expr} {t t' : TT} (h : PW X e t) (w : ∀ σ H Q, t' σ H Q → t σ H Q) : PW X e t' := ⟨fun wh pins s σ H Q I q => h.run wh pins s σ H Q I (w σ H Q q)⟩
theorem PA.weak {X : Cx} {e : List Expr} {t t' : TA} (h : PA X e t) (w : ∀ σ H Q, t' σ H Q → t σ H Q) : PA X e t' := ⟨fun p pins s σ H Q I q => h.run p pins s σ H Q I (w σ H Q q)⟩
theorem PS.weak {X : Cx} {e : Stmt} {t t' : TS} (h : PS X e t) (w : ∀ D σ H, t' D σ H → t D σ H) : PS X e t' := ⟨fun pins s σ H D I q => h.run pins s σ H D I (w D σ H q)⟩
theorem PSs.weak {X : Cx} {e : List Stmt} {t t' : TS} (h : PSs X e t) (w : ∀ D σ H, t' D σ H → t D σ H) : PSs X e t' := ⟨fun pins s σ H D I q => h.run pins s σ H D I (w D σ H q)⟩

section
variable (nm : Nm)
abbrev EV (X : Cx) (Wx : WX) (e : Expr) (f : Rho → AH → Ot AV) : Prop := PE X e (TrE nm X.K Wx f)
abbrev EA (X : Cx) (Wx : WX) (e : List Expr) (f : Rho → AH → Ot (List AV)) : Prop := PA X e (TrA nm X.K Wx f)
abbrev ET (X : Cx) (Wx : WX) (e : Expr) (f : Rho → AH → Ot Bool) : Prop := PT X e (TrT nm X.K Wx f)
abbrev EW (X : Cx) (Wx : WX) (e : Expr) (f : Rho → AH → Ot Bool) : Prop := PW X e (TrT nm X.K Wx f)
end

def Ot.of {α : Type} (o : Option α) (ah : AH) : Ot α := match o with | some a => .ok a ah | none => .st
/-- a value -/
def cF (v : AV) : Rho → AH → Ot AV := fun _ ah => .ok v ah
def vF (i : Nat) : Rho → AH → Ot AV := fun ρ ah => match ρ[i]? with | some (some v) => .ok v ah | _ => .st
def f2 (g : AH → AV → AV → Option AV) (a b : Rho → AH → Ot AV) : Rho → AH → Ot AV := fun ρ ah => (a ρ ah).bind fun x ah1 => (b ρ ah1).bind fun y ah2 => Ot.of (g ah2 x y) ah2
def f1 (g : AH → AV → Option AV) (a : Rho → AH → Ot AV) : Rho → AH → Ot AV := fun ρ ah => (a ρ ah).bind fun x ah1 => Ot.of (g ah1 x) ah1
def fA (g : AH → List AV → Option AV) (a : Rho → AH → Ot (List AV)) : Rho → AH → Ot AV := fun ρ ah => (a ρ ah).bind fun x ah1 => Ot.of (g ah1 x) ah1
def aNil : Rho → AH → Ot (List AV) := fun _ ah => .ok [] ah
def aCons (a : Rho → AH → Ot AV) (b : Rho → AH → Ot (List AV)) : Rho → AH → Ot (List AV) := fun ρ ah => (a ρ ah).bind fun x ah1 => (b ρ ah1).bind fun y ah2 => .ok (x :: y) ah2

/-- the reading of an operation on values, by an abstract function -/
def r2 (nm : Nm) (K : PySem.W.Frag) (g : AH → AV → AV → Option AV) : R2 := fun x y H Q => ∃ W ah a b c, RelH K nm W ah H ∧ W.RV K a x ∧ W.RV K b y ∧ g ah a b = some c ∧ ∀ W' H' w, Step W H W' H' → RelH K nm W' ah H' → W'.RV K c w → Q w H'
def r1 (nm : Nm) (K : PySem.W.Frag) (g : AH → AV → Option AV) : V → Hp → VK → Prop := fun x H Q => ∃ W ah a c, RelH K nm W ah H ∧ W.RV K a x ∧ g ah a = some c ∧ ∀ W' H' w, Step W H W' H' → RelH K nm W' ah H' → W'.RV K c w → Q w H'
def rA (nm : Nm) (K : PySem.W.Frag) (g : AH → List AV → Option AV) : List V → Hp → VK → Prop := fun x H Q => ∃ W ah a c, RelH K nm W ah H ∧ W.RVs K a x ∧ g ah a = some c ∧ ∀ W' H' w, Step W H W' H' → RelH K nm W' ah H' → W'.RV K c w → Q w H'

section
variable {nm : Nm} {X : Cx} {Wx : WX} {K : PySem.W.Frag}
/-- one after the other -/
theorem TrE.seq {f : Rho → AH → Ot AV} {g : AV → AH → Ot AV} {σ : St} {H : Hp} {Q : VK} {R : V → Hp → Prop} {W : Wd} {ρ : Rho} {ah : AH} (rh : RelH K nm W ah H) (rs : RS K W ρ σ)
    (p : Post K nm W H ((f ρ ah).bind g) (fun v _ W' H' => ∀ w, W'.RV K v w → Q w H') (xw K nm Wx σ))
    (h : ∀ a ah1 W1 H1 w, Step W H W1 H1 → RelH K nm W1 ah1 H1 → RS K W1 ρ σ → W1.RV K a w → Post K nm W1 H1 (g a ah1) (fun v _ W' H' => ∀ w, W'.RV K v w → Q w H') (xw K nm Wx σ) → R w H1) : TrE nm K Wx f σ H R :=
  ⟨W, ρ, ah, rh, rs, p.bind.imp (fun a ah1 W1 H1 s R1 q w r => h a ah1 W1 H1 w s R1 (rs.step s) r q) fun _ _ _ _ _ _ q => q⟩
theorem Post.of {o : Option AV} {ah : AH} {W : Wd} {H : Hp} {k : AV → AH → Wd → Hp → Prop} {e : EX → AH → Wd → Hp → Prop} (p : Post K nm W H (Ot.of o ah) k e) :
    ∃ c, o = some c ∧ ∀ W' H', Step W H W' H' → RelH K nm W' ah H' → k c ah W' H' := by
  cases o with
  | none => exact False.elim p
  | some c => exact ⟨c, rfl, p⟩

theorem ev_var {i : Nat} {x : Str} {pos : Pos} (hN : X.N[i]? = some x) (hv : Vis X.env.scope x) (hd : (x == ("__debug__" : Str)) = false) (hcd : (x == ("__classdict__" : Str)) = false) : EV nm X Wx (.Name x pos) (vF i) := by
  refine PE.weak (pe_var hN hv hd hcd) fun σ H Q ⟨W, ρ, ah, rh, rs, p⟩ => ?_
  unfold vF at p
  split at p
  · rename_i v e
    obtain ⟨u, h1, h2⟩ := rs.get e
    exact ⟨u, h1, p W H (Step.refl _ _) rh u h2⟩
  · exact False.elim p
theorem ev_of {e : Expr} {v : V} {a : AV} (h : PE X e (tC v)) (r : ∀ W : Wd, W.RV X.K a v) : EV nm X Wx e (cF a) :=
  PE.weak h fun σ H Q ⟨W, ρ, ah, rh, rs, p⟩ => p W H (Step.refl _ _) rh v (r W)
theorem ev_int {i j pos} : EV nm X Wx (.Constant (.int i) j pos) (cF (.int i)) := ev_of pe_int fun _ => .int i
theorem ev_bl {b j pos} : EV nm X Wx (.Constant (.bool b) j pos) (cF (.bl b)) := ev_of pe_bl fun _ => .bl b
theorem ev_non {j pos} : EV nm X Wx (.Constant .none j pos) (cF .non) := ev_of pe_non fun _ => .non
theorem ev_str {z j pos} : EV nm X Wx (.Constant (.str z) j pos) (cF (.str z)) := ev_of pe_str fun _ => .str z

theorem ev_bin {a b : Expr} {op : Operator} {g : AH → AV → AV → Option AV} {fa fb : Rho → AH → Ot AV} {pos : Pos} (ho : OpR X (binaryOp op) (r2 nm X.K g)) (ha : EV nm X Wx a fa) (hb : EV nm X Wx b fb) : EV nm X Wx (.BinOp a op b pos) (f2 g fa fb) := by
  refine PE.weak (pe_op ho ha hb) fun σ H Q ⟨W, ρ, ah, rh, rs, p⟩ => ?_
  refine TrE.seq rh rs p fun x ah1 W1 H1 w1 s1 R1 S1 v1 p1 => TrE.seq R1 S1 p1 fun y ah2 W2 H2 w2 s2 R2 S2 v2 p2 => ?_
  obtain ⟨c, e, k⟩ := p2.of
  exact ⟨W2, ah2, x, y, c, R2, v1.step s2, v2, e, fun W' H' w s R r => k W' H' s R w r⟩
theorem ev_un {a : Expr} {op : UnaryOp} {g : AH → AV → Option AV} {fa : Rho → AH → Ot AV} {pos : Pos} (ho : UnR X (unaryOp op) (r1 nm X.K g)) (ha : EV nm X Wx a fa) : EV nm X Wx (.UnaryOp op a pos) (f1 g fa) := by
  refine PE.weak (pe_un ho ha) fun σ H Q ⟨W, ρ, ah, rh, rs, p⟩ => ?_
  refine TrE.seq rh rs p fun x ah1 W1 H1 w1 s1 R1 S1 v1 p1 => ?_
  obtain ⟨c, e, k⟩ := p1.of
  exact ⟨W1, ah1, x, c, R1, v1, e, fun W' H' w s R r => k W' H' s R w r⟩
theorem ev_cmp {a b : Expr} {op : CmpOp} {g : AH → AV → AV → Option AV} {fa fb : Rho → AH → Ot AV} {pos : Pos} (ho : OpR X (compareOp op) (r2 nm X.K g)) (ha : EV nm X Wx a fa) (hb : EV nm X Wx b fb) (hm : behindInMarks op b = false) :
    EV nm X Wx (.Compare a [op] [b] pos) (f2 g fa fb) := by
  refine PE.weak (pe_cmpR ho ha hb hm) fun σ H Q ⟨W, ρ, ah, rh, rs, p⟩ => ?_
  refine TrE.seq rh rs p fun x ah1 W1 H1 w1 s1 R1 S1 v1 p1 => TrE.seq R1 S1 p1 fun y ah2 W2 H2 w2 s2 R2 S2 v2 p2 => ?_
  obtain ⟨c, e, k⟩ := p2.of
  exact ⟨W2, ah2, x, y, c, R2, v1.step s2, v2, e, fun W' H' w s R r => k W' H' s R w r⟩
/-- a comparison's answer -/
def asB : Option AV → Option Bool | some (.bl b) => some b | _ => none
def fChain (g g' : AH → AV → AV → Option AV) (a b c : Rho → AH → Ot AV) : Rho → AH → Ot AV := fun ρ ah => (a ρ ah).bind fun x ah1 => (b ρ ah1).bind fun y ah2 =>
  match asB (g ah2 x y) with
  | some true => (c ρ ah2).bind fun z ah3 => Ot.of (g' ah3 y z) ah3
  | some false => .ok (.bl false) ah2
  | none => .st
theorem asB_some {o : Option AV} {b : Bool} (h : asB o = some b) : o = some (.bl b) := by
  unfold asB at h
  split at h
  · cases h; rfl
  · cases h
theorem ev_chain {a b c : Expr} {op op' : CmpOp} {g g' : AH → AV → AV → Option AV} {fa fb fc : Rho → AH → Ot AV} {pos : Pos} (ho : OpR X (compareOp op) (r2 nm X.K g)) (ho' : OpR X (compareOp op') (r2 nm X.K g')) (ha : EV nm X Wx a fa) (hb : EV nm X Wx b fb) (hc : EV nm X Wx c fc)
    (hm : lastMarks [op, op'] [b, c] = false) : EV nm X Wx (.Compare a [op, op'] [b, c] pos) (fChain g g' fa fb fc) := by
  refine PE.weak (pe_chain ho ho' ha hb hc hm) fun σ H Q ⟨W, ρ, ah, rh, rs, p⟩ => ?_
  refine TrE.seq rh rs p fun x ah1 W1 H1 w1 s1 R1 S1 v1 p1 => TrE.seq R1 S1 p1 fun y ah2 W2 H2 w2 s2 R2 S2 v2 p2 => ?_
  split at p2
  · rename_i e
    refine ⟨W2, ah2, x, y, .bl true, R2, v1.step s2, v2, asB_some e, fun W3 H3 w s3 R3 r => ?_⟩
    cases r
    refine ⟨true, rfl, ?_⟩
    rw [if_pos rfl]
    refine TrE.seq R3 (S2.step s3) (Post.shift s3 p2) fun z ah4 W4 H4 w4 s4 R4 S4 v4 p4 => ?_
    obtain ⟨c, e, k⟩ := p4.of
    exact ⟨W4, ah4, y, z, c, R4, (v2.step s3).step s4, v4, e, fun W' H' w s R r => k W' H' s R w r⟩
  · rename_i e
    refine ⟨W2, ah2, x, y, .bl false, R2, v1.step s2, v2, asB_some e, fun W3 H3 w s3 R3 r => ?_⟩
    cases r
    refine ⟨false, rfl, ?_⟩
    rw [if_neg Bool.false_ne_true]
    exact p2 W3 H3 s3 R3 _ (.bl false)
  · exact False.elim p2

/-! tests -/
theorem TrT.seq {f : Rho → AH → Ot Bool} {β : Type} {g : Bool → AH → Ot β} {σ : St} {H : Hp} {R : Bool → Hp → Prop} {W : Wd} {ρ : Rho} {ah : AH} {k : β → AH → Wd → Hp → Prop} (rh : RelH K nm W ah H) (rs : RS K W ρ σ)
    (p : Post K nm W H ((f ρ ah).bind g) k (xw K nm Wx σ))
    (h : ∀ a ah1 W1 H1, Step W H W1 H1 → RelH K nm W1 ah1 H1 → RS K W1 ρ σ → Post K nm W1 H1 (g a ah1) k (xw K nm Wx σ) → R a H1) : TrT nm K Wx f σ H R :=
  ⟨W, ρ, ah, rh, rs, p.bind.imp (fun a ah1 W1 H1 s R1 q => h a ah1 W1 H1 s R1 (rs.step s) q) fun _ _ _ _ _ _ q => q⟩
def truF (ah : AH) : AV → Option Bool
  | .non => some false
  | .bl b => some b
  | .int i => some (i != 0)
  | .str z => if z.length ≤ sizeLine then some ((z.length : Int) != 0) else none
  | .tup xs => some !xs.isEmpty
  | .lst xs => some !xs.isEmpty
  | .dct kvs => some !kvs.isEmpty
  | .ref n => match ah[n]? with
    | some (.lst xs) => some !xs.isEmpty
    | some (.dct kvs) => some !kvs.isEmpty
    | _ => none
theorem isEmpty_rvs {W : Wd} {xs : List AV} {vs : List V} (r : W.RVs K xs vs) : xs.isEmpty = vs.isEmpty := by
  cases r <;> rfl
theorem isEmpty_rks {W : Wd} {xs : List (Key × AV)} {vs : List (Key × V)} (r : RKs K W.fz W.io xs vs) : xs.isEmpty = vs.isEmpty := by
  cases r <;> rfl
theorem RelH.at {W : Wd} {ah : AH} {H : Hp} (R : RelH K nm W ah H) {n : Nat} {a : Addr} {o : AO} (h : W.io[n]? = some a) (e : ah[n]? = some o) : RO K nm W H a o := R.obj n a o h e
theorem tru_of {W : Wd} {ah : AH} {H : Hp} {a : AV} {w : V} {b : Bool} (R : RelH K nm W ah H) (r : W.RV K a w) (e : truF ah a = some b) : TruV K w H b := by
  cases r with
  | non => cases e; rfl
  | bl c => cases e; rfl
  | int i => cases e; rfl
  | str z =>
    by_cases h : z.length ≤ sizeLine
    · have e' : (if z.length ≤ sizeLine then some ((z.length : Int) != 0) else none) = some b := e
      rw [if_pos h] at e'
      cases e'
      exact ⟨h, rfl⟩
    · have e' : (if z.length ≤ sizeLine then some ((z.length : Int) != 0) else none) = some b := e
      rw [if_neg h] at e'
      cases e'
  | tup h r => cases e; exact .inr (.inl ⟨_, same_tup R.fz h, by rw [isEmpty_rvs r]⟩)
  | lst h r => cases e; exact .inl ⟨_, .inl (same_rd R.fz h), by rw [isEmpty_rvs r]⟩
  | dct h r => cases e; exact .inr (.inr ⟨_, R.fz _ _ h, by rw [isEmpty_rks r]⟩)
  | ref h =>
    simp only [truF] at e
    split at e
    · rename_i q
      cases e
      obtain ⟨vs, h1, h2⟩ := R.at h q
      exact .inl ⟨vs, SqL.of h1, by rw [isEmpty_rvs h2]⟩
    · rename_i q
      cases e
      obtain ⟨vs, h1, h2⟩ := R.at h q
      exact .inr (.inr ⟨vs, h1, by rw [isEmpty_rks h2]⟩)
    · cases e
def tF (a : Rho → AH → Ot AV) : Rho → AH → Ot Bool := fun ρ ah => (a ρ ah).bind fun x ah1 => Ot.of (truF ah1 x) ah1
theorem Post.ofB {α : Type} {o : Option α} {ah : AH} {W : Wd} {H : Hp} {k : α → AH → Wd → Hp → Prop} {e : EX → AH → Wd → Hp → Prop} (p : Post K nm W H (Ot.of o ah) k e) :
    ∃ c, o = some c ∧ ∀ W' H', Step W H W' H' → RelH K nm W' ah H' → k c ah W' H' := by
  cases o with
  | none => exact False.elim p
  | some c => exact ⟨c, rfl, p⟩
theorem TrE.seqB {f : Rho → AH → Ot AV} {β : Type} {g : AV → AH → Ot β} {σ : St} {H : Hp} {R : V → Hp → Prop} {W : Wd} {ρ : Rho} {ah : AH} {k : β → AH → Wd → Hp → Prop} (rh : RelH K nm W ah H) (rs : RS K W ρ σ)
    (p : Post K nm W H ((f ρ ah).bind g) k (xw K nm Wx σ))
    (h : ∀ a ah1 W1 H1 w, Step W H W1 H1 → RelH K nm W1 ah1 H1 → RS K W1 ρ σ → W1.RV K a w → Post K nm W1 H1 (g a ah1) k (xw K nm Wx σ) → R w H1) : TrE nm K Wx f σ H R :=
  ⟨W, ρ, ah, rh, rs, p.bind.imp (fun a ah1 W1 H1 s R1 q w r => h a ah1 W1 H1 w s R1 (rs.step s) r q) fun _ _ _ _ _ _ q => q⟩
theorem et_truth {a : Expr} {fa : Rho → AH → Ot AV} (ha : EV nm X Wx a fa) (he : ∀ whole, isTrue a X.env whole = (do let v ← whole; standAt a.pos; holding [v] (truthy v))) : ET nm X Wx a (tF fa) := by
  refine PT.weak (pt_truth ha he) fun σ H Q ⟨W, ρ, ah, rh, rs, p⟩ => ?_
  refine TrE.seqB rh rs p fun x ah1 W1 H1 w1 s1 R1 S1 v1 p1 => ?_
  obtain ⟨c, e, k⟩ := p1.ofB
  exact ⟨c, tru_of R1 v1 e, k W1 H1 (Step.refl _ _) R1⟩
def bF (a : Rho → AH → Ot AV) : Rho → AH → Ot Bool := fun ρ ah => (a ρ ah).bind fun x ah1 => Ot.of (asB (some x)) ah1
theorem et_cmp {a b : Expr} {op : CmpOp} {g : AH → AV → AV → Option AV} {fa fb : Rho → AH → Ot AV} {pos : Pos} (ho : OpR X (compareOp op) (r2 nm X.K g)) (ha : EV nm X Wx a fa) (hb : EV nm X Wx b fb) (hm : behindInMarks op b = false) :
    ET nm X Wx (.Compare a [op] [b] pos) (bF (f2 g fa fb)) := by
  refine PT.weak (pt_cmpR ho ha hb hm) fun σ H Q ⟨W, ρ, ah, rh, rs, p⟩ => ?_
  have p := p.bind
  refine TrE.seqB rh rs p fun x ah1 W1 H1 w1 s1 R1 S1 v1 p1 => TrE.seqB R1 S1 p1 fun y ah2 W2 H2 w2 s2 R2 S2 v2 p2 => ?_
  obtain ⟨c, e, k⟩ := p2.of
  refine ⟨W2, ah2, x, y, c, R2, v1.step s2, v2, e, fun W' H' w s R r => ?_⟩
  obtain ⟨b, eb, kb⟩ := (k W' H' s R).ofB
  have := asB_some eb
  cases this
  cases r
  exact ⟨b, rfl, kb W' H' (Step.refl _ _) R⟩
theorem et_chain {a b c : Expr} {op op' : CmpOp} {g g' : AH → AV → AV → Option AV} {fa fb fc : Rho → AH → Ot AV} {pos : Pos} (ho : OpR X (compareOp op) (r2 nm X.K g)) (ho' : OpR X (compareOp op') (r2 nm X.K g')) (ha : EV nm X Wx a fa) (hb : EV nm X Wx b fb) (hc : EV nm X Wx c fc)
    (hm : lastMarks [op, op'] [b, c] = false) : ET nm X Wx (.Compare a [op, op'] [b, c] pos) (bF (fChain g g' fa fb fc)) := by
  refine PT.weak (pt_chain ho ho' ha hb hc hm) fun σ H Q ⟨W, ρ, ah, rh, rs, p⟩ => ?_
  have p := p.bind
  refine TrE.seqB rh rs p fun x ah1 W1 H1 w1 s1 R1 S1 v1 p1 => TrE.seqB R1 S1 p1 fun y ah2 W2 H2 w2 s2 R2 S2 v2 p2 => ?_
  split at p2
  · rename_i e
    refine ⟨W2, ah2, x, y, .bl true, R2, v1.step s2, v2, asB_some e, fun W3 H3 w s3 R3 r => ?_⟩
    cases r
    refine ⟨true, rfl, ?_⟩
    rw [if_pos rfl]
    refine TrE.seqB R3 (S2.step s3) (Post.shift s3 p2) fun z ah4 W4 H4 w4 s4 R4 S4 v4 p4 => ?_
    obtain ⟨c, e, k⟩ := p4.of
    refine ⟨W4, ah4, y, z, c, R4, (v2.step s3).step s4, v4, e, fun W' H' w s R r => ?_⟩
    obtain ⟨b, eb, kb⟩ := (k W' H' s R).ofB
    have := asB_some eb
    cases this
    cases r
    exact ⟨b, rfl, kb W' H' (Step.refl _ _) R⟩
  · rename_i e
    refine ⟨W2, ah2, x, y, .bl false, R2, v1.step s2, v2, asB_some e, fun W3 H3 w s3 R3 r => ?_⟩
    cases r
    refine ⟨false, rfl, ?_⟩
    rw [if_neg Bool.false_ne_true]
    obtain ⟨b, eb, kb⟩ := (p2 W3 H3 s3 R3).ofB
    have e2 : b = false := by cases eb; rfl
    subst e2
    exact ⟨false, rfl, kb W3 H3 (Step.refl _ _) R3⟩
  · exact False.elim p2
def tAndF (a b : Rho → AH → Ot Bool) : Rho → AH → Ot Bool := fun ρ ah => (a ρ ah).bind fun x ah1 => if x = true then b ρ ah1 else .ok false ah1
def tOrF (a b : Rho → AH → Ot Bool) : Rho → AH → Ot Bool := fun ρ ah => (a ρ ah).bind fun x ah1 => if x = true then .ok true ah1 else b ρ ah1
def tNotF (a : Rho → AH → Ot Bool) : Rho → AH → Ot Bool := fun ρ ah => (a ρ ah).bind fun x ah1 => .ok (!x) ah1
theorem ew_and {a b : Expr} {rest : List Expr} {fa fb : Rho → AH → Ot Bool} {pos : Pos} (ha : ET nm X Wx a fa) (hb : EW nm X Wx (.BoolOp .And (b :: rest) pos) fb) : EW nm X Wx (.BoolOp .And (a :: b :: rest) pos) (tAndF fa fb) := by
  refine PW.weak (pw_and ha hb) fun σ H Q ⟨W, ρ, ah, rh, rs, p⟩ => ?_
  refine TrT.seq rh rs p fun x ah1 W1 H1 s1 R1 S1 p1 => ?_
  cases x with
  | true => rw [if_pos rfl] at p1 ⊢; exact ⟨W1, ρ, ah1, R1, S1, p1⟩
  | false => rw [if_neg Bool.false_ne_true] at p1 ⊢; exact p1 W1 H1 (Step.refl _ _) R1
theorem ew_or {a b : Expr} {rest : List Expr} {fa fb : Rho → AH → Ot Bool} {pos : Pos} (ha : ET nm X Wx a fa) (hb : EW nm X Wx (.BoolOp .Or (b :: rest) pos) fb) : EW nm X Wx (.BoolOp .Or (a :: b :: rest) pos) (tOrF fa fb) := by
  refine PW.weak (pw_or ha hb) fun σ H Q ⟨W, ρ, ah, rh, rs, p⟩ => ?_
  refine TrT.seq rh rs p fun x ah1 W1 H1 s1 R1 S1 p1 => ?_
  cases x with
  | true => rw [if_pos rfl] at p1 ⊢; exact p1 W1 H1 (Step.refl _ _) R1
  | false => rw [if_neg Bool.false_ne_true] at p1 ⊢; exact ⟨W1, ρ, ah1, R1, S1, p1⟩
theorem et_not {a : Expr} {fa : Rho → AH → Ot Bool} {pos : Pos} (ha : ET nm X Wx a fa) : ET nm X Wx (.UnaryOp .Not a pos) (tNotF fa) := by
  refine PT.weak (pt_not ha) fun σ H Q ⟨W, ρ, ah, rh, rs, p⟩ => ?_
  exact TrT.seq rh rs p fun x ah1 W1 H1 s1 R1 S1 p1 => p1 W1 H1 (Step.refl _ _) R1
/-- a if t else b -/
def ifF (t : Rho → AH → Ot Bool) (a b : Rho → AH → Ot AV) : Rho → AH → Ot AV := fun ρ ah => (t ρ ah).bind fun x ah1 => if x = true then a ρ ah1 else b ρ ah1
theorem ev_if {c a b : Expr} {fc : Rho → AH → Ot Bool} {fa fb : Rho → AH → Ot AV} {pos : Pos} (hc : ET nm X Wx c fc) (ha : EV nm X Wx a fa) (hb : EV nm X Wx b fb) : EV nm X Wx (.IfExp c a b pos) (ifF fc fa fb) := by
  refine PE.weak (pe_ifExp hc ha hb) fun σ H Q ⟨W, ρ, ah, rh, rs, p⟩ => ?_
  refine TrT.seq rh rs p fun x ah1 W1 H1 s1 R1 S1 p1 => ?_
  cases x with
  | true => rw [if_pos rfl] at p1 ⊢; exact ⟨W1, ρ, ah1, R1, S1, p1⟩
  | false => rw [if_neg Bool.false_ne_true] at p1 ⊢; exact ⟨W1, ρ, ah1, R1, S1, p1⟩

/-! argument lists, displays -/
theorem TrA.seqB {f : Rho → AH → Ot (List AV)} {β : Type} {g : List AV → AH → Ot β} {σ : St} {H : Hp} {R : List V → Hp → Prop} {W : Wd} {ρ : Rho} {ah : AH} {k : β → AH → Wd → Hp → Prop} (rh : RelH K nm W ah H) (rs : RS K W ρ σ)
    (p : Post K nm W H ((f ρ ah).bind g) k (xw K nm Wx σ))
    (h : ∀ a ah1 W1 H1 w, Step W H W1 H1 → RelH K nm W1 ah1 H1 → RS K W1 ρ σ → W1.RVs K a w → Post K nm W1 H1 (g a ah1) k (xw K nm Wx σ) → R w H1) : TrA nm K Wx f σ H R :=
  ⟨W, ρ, ah, rh, rs, p.bind.imp (fun a ah1 W1 H1 s R1 q w r => h a ah1 W1 H1 w s R1 (rs.step s) r q) fun _ _ _ _ _ _ q => q⟩
theorem ea_nil : EA nm X Wx [] aNil := PA.weak pa_nil fun σ H Q ⟨W, ρ, ah, rh, rs, p⟩ => p W H (Step.refl _ _) rh [] .nil
theorem ea_cons {e : Expr} {es : List Expr} {fa : Rho → AH → Ot AV} {fb : Rho → AH → Ot (List AV)} (ha : EV nm X Wx e fa) (hb : EA nm X Wx es fb) (hs : starEach (e :: es) X.env = (false, eval e X.env) :: starEach es X.env) :
    EA nm X Wx (e :: es) (aCons fa fb) := by
  refine PA.weak (pa_cons ha hb hs) fun σ H Q ⟨W, ρ, ah, rh, rs, p⟩ => ?_
  refine TrE.seqB rh rs p fun x ah1 W1 H1 w1 s1 R1 S1 v1 p1 => TrA.seqB R1 S1 p1 fun y ah2 W2 H2 w2 s2 R2 S2 v2 p2 => ?_
  exact p2 W2 H2 (Step.refl _ _) R2 _ (.cons (v1.step s2) v2)
def tupF (a : Rho → AH → Ot (List AV)) : Rho → AH → Ot AV := fun ρ ah => (a ρ ah).bind fun xs ah1 => if xs.length ≤ sizeLine then .ok (.tup xs) ah1 else .st
def lstF (a : Rho → AH → Ot (List AV)) : Rho → AH → Ot AV := fun ρ ah => (a ρ ah).bind fun xs ah1 => if xs.length ≤ sizeLine then .ok (.lst xs) ah1 else .st
def lstM (a : Rho → AH → Ot (List AV)) : Rho → AH → Ot AV := fun ρ ah => (a ρ ah).bind fun xs ah1 => if xs.length ≤ sizeLine then .ok (.ref ah1.length) (ah1 ++ [.lst xs]) else .st
theorem ev_tup {es : List Expr} {x1 pos} {fa : Rho → AH → Ot (List AV)} (ha : EA nm X Wx es fa) : EV nm X Wx (.Tuple es x1 pos) (tupF fa) := by
  refine PE.weak (pe_tup ha) fun σ H Q ⟨W, ρ, ah, rh, rs, p⟩ => ?_
  refine TrA.seqB rh rs p fun xs ah1 W1 H1 vs s1 R1 S1 v1 p1 => ?_
  split at p1
  · rename_i h
    refine ⟨by rw [v1.length]; exact h, fun p hp => ?_⟩
    exact p1 (W1.keep p (.tup vs)) _ (Step.keep R1 hp) (R1.keep hp) _ (.tup (SqT.of upd_same) (v1.step (Step.keep (o := .tup vs) R1 hp)))
  · exact False.elim p1
theorem ev_lst {es : List Expr} {pos} {fa : Rho → AH → Ot (List AV)} (ha : EA nm X Wx es fa) : EV nm X Wx (.List es pos) (lstF fa) := by
  refine PE.weak (pe_lst ha) fun σ H Q ⟨W, ρ, ah, rh, rs, p⟩ => ?_
  refine TrA.seqB rh rs p fun xs ah1 W1 H1 vs s1 R1 S1 v1 p1 => ?_
  split at p1
  · rename_i h
    refine ⟨by rw [v1.length]; exact h, fun p hp => ?_⟩
    exact p1 (W1.keep p (.lst vs)) _ (Step.keep R1 hp) (R1.keep hp) _ (.lst (Rd.of upd_same) (v1.step (Step.keep (o := .lst vs) R1 hp)))
  · exact False.elim p1
theorem ev_lstM {es : List Expr} {pos} {fa : Rho → AH → Ot (List AV)} (ha : EA nm X Wx es fa) : EV nm X Wx (.List es pos) (lstM fa) := by
  refine PE.weak (pe_lst ha) fun σ H Q ⟨W, ρ, ah, rh, rs, p⟩ => ?_
  refine TrA.seqB rh rs p fun xs ah1 W1 H1 vs s1 R1 S1 v1 p1 => ?_
  split at p1
  · rename_i h
    refine ⟨by rw [v1.length]; exact h, fun p hp => ?_⟩
    have st := Step.more (o := .lst vs) R1 hp
    refine p1 (W1.more p) _ st (R1.more hp ⟨vs, upd_same, v1.step st⟩) _ (.ref ?_)
    show (W1.io ++ [p])[ah1.length]? = some p
    rw [← R1.len]; simp
  · exact False.elim p1
end
end Ko

/-! Ko, part C: the operations on abstract values. -/
namespace Ko
open PySem L2

/-! ### contents -/
def asL (ah : AH) : AV → Option (List AV)
  | .lst xs => some xs
  | .ref n => match ah[n]? with | some (.lst xs) => some xs | _ => none
  | _ => none
section
variable {K : PySem.W.Frag} {nm : Nm} {W : Wd} {ah : AH} {H : Hp}
theorem asL_of {a : AV} {w : V} {xs : List AV} (R : RelH K nm W ah H) (r : W.RV K a w) (e : asL ah a = some xs) : ∃ p vs, w = .ref p ∧ Rd H p (.lst vs) ∧ W.RVs K xs vs := by
  cases r with
  | lst h r => cases e; exact ⟨_, _, rfl, same_rd R.fz h, r⟩
  | ref h =>
    simp only [asL] at e
    split at e
    · rename_i q
      cases e
      obtain ⟨vs, h1, h2⟩ := R.at h q
      exact ⟨_, vs, rfl, Rd.of h1, h2⟩
    · cases e
  | _ => cases e
def asInts : List AV → Option (List Int)
  | [] => some []
  | .int i :: r => (asInts r).map (i :: ·)
  | _ :: _ => none
theorem asInts_of : ∀ {xs : List AV} {vs : List V} {ns : List Int}, W.RVs K xs vs → asInts xs = some ns → vs = ns.map V.int
  | [], _, ns, .nil, e => by cases e; rfl
  | .int i :: r, _, ns, .cons h t, e => by
    cases h
    simp only [asInts, Option.map_eq_some_iff] at e
    obtain ⟨ms, e1, rfl⟩ := e
    rw [asInts_of t e1]; rfl
def asStrs : List AV → Option (List Str)
  | [] => some []
  | .str z :: r => (asStrs r).map (z :: ·)
  | _ :: _ => none
theorem asStrs_of : ∀ {xs : List AV} {vs : List V} {ns : List Str}, W.RVs K xs vs → asStrs xs = some ns → vs = ns.map V.str
  | [], _, ns, .nil, e => by cases e; rfl
  | .str i :: r, _, ns, .cons h t, e => by
    cases h
    simp only [asStrs, Option.map_eq_some_iff] at e
    obtain ⟨ms, e1, rfl⟩ := e
    rw [asStrs_of t e1]; rfl
def asBls : List AV → Option (List Bool)
  | [] => some []
  | .bl z :: r => (asBls r).map (z :: ·)
  | _ :: _ => none
theorem asBls_of : ∀ {xs : List AV} {vs : List V} {ns : List Bool}, W.RVs K xs vs → asBls xs = some ns → vs = ns.map V.bl
  | [], _, ns, .nil, e => by cases e; rfl
  | .bl i :: r, _, ns, .cons h t, e => by
    cases h
    simp only [asBls, Option.map_eq_some_iff] at e
    obtain ⟨ms, e1, rfl⟩ := e
    rw [asBls_of t e1]; rfl
end

/-! ### arithmetic -/
def addF (ah : AH) : AV → AV → Option AV
  | .int i, .int j => some (.int (i + j))
  | .str x, .str y => if x.length + y.length ≤ sizeLine then some (.str (x ++ y)) else none
  | .tup xs, .tup ys => if xs.length + ys.length ≤ sizeLine then some (.tup (xs ++ ys)) else none
  | a, b => (asL ah a).bind fun xs => (asL ah b).bind fun ys => if xs.length + ys.length ≤ sizeLine then some (.lst (xs ++ ys)) else none
def subF (_ : AH) : AV → AV → Option AV
  | .int i, .int j => some (.int (i - j))
  | _, _ => none
def mulF (ah : AH) : AV → AV → Option AV
  | .int i, .int j => if i.natAbs.log2 + j.natAbs.log2 < 1000000 then some (.int (i * j)) else none
  | .str x, .int j => if 0 ≤ j ∧ x.length * j.toNat ≤ sizeLine ∧ j < 2 ^ 40 then some (.str (Txt.mul x j)) else none
  | a, .int j => (asL ah a).bind fun xs => if -(2 ^ 63) ≤ j ∧ j < 2 ^ 63 ∧ xs.length * j.toNat ≤ sizeLine then some (.lst (List.replicate j.toNat xs).flatten) else none
  | _, _ => none
def divF (_ : AH) : AV → AV → Option AV
  | .int i, .int j => if 0 < j ∧ j.natAbs.log2 < 9000 then some (.int (i / j)) else none
  | _, _ => none
def modF (_ : AH) : AV → AV → Option AV
  | .int i, .int j => if 0 < j then some (.int (i % j)) else none
  | _, _ => none
def powF (_ : AH) : AV → AV → Option AV
  | .int i, .int j => if 0 ≤ j ∧ j ≤ 1000000 ∧ i.natAbs < 2 ^ 64 then some (.int (i ^ j.toNat)) else none
  | _, _ => none
def binF : Operator → AH → AV → AV → Option AV
  | .Add => addF
  | .Sub => subF
  | .Mult => mulF
  | .FloorDiv => divF
  | .Mod => modF
  | .Pow => powF
  | _ => fun _ _ _ => none
def negF (_ : AH) : AV → Option AV
  | .int i => some (.int (-i))
  | _ => none

section
variable {nm : Nm} {X : Cx}
theorem rd_obj {pins : List (Addr × Obj)} {σ : St} {H : Hp} {s : Shared} {l : Addr} {xs : List V} (I : Inv X pins σ H s) (h : Rd H l (.lst xs)) :
    xs.length ≤ sizeLine ∧ ∃ (its : List Value) (n : Nat), Vals xs its ∧ xs.length = its.length ∧ s.heap.get? l = some { cls := .type "list", data := .seq its.toArray n } := by
  obtain ⟨z, its, n, r, e⟩ := h.ok I.hok
  exact ⟨z, its, n, r, r.length, e⟩
/-- list + list, also of a list that is locked -/
theorem op_catL : OpR X (binaryOp .Add) (fun x y H Q => ∃ l b xs zs, x = .ref l ∧ y = .ref b ∧ Rd H l (.lst xs) ∧ Rd H b (.lst zs) ∧ xs.length + zs.length ≤ sizeLine ∧ ∀ p, H p = none → Q (.ref p) (upd H p (.lst (xs ++ zs)))) := by
  rintro pins s σ H x y v u Q I rx ry ⟨l, b, xs, zs, rfl, rfl, h1, h2, hz, q⟩
  cases rx
  cases ry
  obtain ⟨_, i1, n1, r1, l1, e1⟩ := rd_obj I h1
  obtain ⟨_, i2, n2, r2, l2, e2⟩ := rd_obj I h2
  refine PySem.P.add_list e1 e2 ?_ (by simp only [List.size_toArray]; omega)
  have ea : i1.toArray ++ i2.toArray = (i1 ++ i2).toArray := by simp
  rw [ea]
  exact ⟨.ref _, _, I.lnew (t' := s.toks) (r1.append r2) (by rw [List.length_append]; omega), rfl, q _ I.fresh⟩
theorem mulOk_of {x : Str} {j : Int} (h0 : 0 ≤ j) (h1 : x.length * j.toNat ≤ sizeLine) (h2 : j < 2 ^ 40) : MulOk x j := by
  refine ⟨?_, fun hj _ => ?_, fun _ _ => ?_⟩
  · rw [decide_eq_false (by omega), decide_eq_false (by omega)]; rfl
  · have hj1 : 1 ≤ j := by omega
    intro hc
    have h3 : (x.length : Int) * j ≤ 16777216 := by
      have e : (j.toNat : Int) = j := Int.toNat_of_nonneg h0
      have h1' : ((x.length * j.toNat : Nat) : Int) ≤ ((16777216 : Nat) : Int) := by
        have q : sizeLine = 16777216 := sizeLine_eq
        rw [q] at h1
        exact Int.ofNat_le.mpr h1
      rw [Int.natCast_mul, e] at h1'
      exact h1'
    have h4 : ((2 ^ 63 - 1) / j + 1) * j ≤ (x.length : Int) * j := Int.mul_le_mul_of_nonneg_right (by omega) h0
    have h5 := Int.lt_ediv_add_one_mul_self (2 ^ 63 - 1) (show 0 < j by omega)
    omega
  · unfold Builtin.Str.tooLong
    rw [decide_eq_false]
    omega
theorem r2_go {g : AH → AV → AV → Option AV} {W : Wd} {ah : AH} {H : Hp} {c : AV} {w : V} {Q : VK} (R : RelH X.K nm W ah H) (k : ∀ W' H' w, Step W H W' H' → RelH X.K nm W' ah H' → W'.RV X.K c w → Q w H') (r : W.RV X.K c w) : Q w H :=
  k W H w (Step.refl _ _) R r
theorem op_addF : OpR X (binaryOp .Add) (r2 nm X.K addF) := by
  rintro pins s σ H x y v u Q I rx ry ⟨W, ah, a, b, c, R, ra, rb, e, k⟩
  unfold addF at e
  split at e
  · cases ra; cases rb; cases e
    exact op_add pins s σ H _ _ v u Q I rx ry ⟨_, _, rfl, rfl, k W H _ (Step.refl _ _) R (.int _)⟩
  · cases ra; cases rb
    split at e
    · rename_i h
      cases e
      exact op_add_str pins s σ H _ _ v u Q I rx ry ⟨_, _, rfl, rfl, h, k W H _ (Step.refl _ _) R (.str _)⟩
    · cases e
  · split at e
    · rename_i h
      cases e
      cases ra with
      | tup h1 r1 =>
        cases rb with
        | tup h2 r2 =>
          rename_i p1 v1 p2 v2
          refine op_catA pins s σ H _ _ v u Q I rx ry ⟨p1, p2, v1, v2, rfl, rfl, same_tup R.fz h1, same_tup R.fz h2, by rw [r1.length, r2.length]; exact h, fun e => ?_, fun _ e => ?_, fun _ _ p hp => ?_⟩
          · subst e
            cases r1
            exact k W H _ (Step.refl _ _) R (.tup h2 r2)
          · subst e
            cases r2
            exact k W H _ (Step.refl _ _) R (by rw [List.append_nil]; exact .tup h1 r1)
          · have st := Step.keep (o := .tup (v1 ++ v2)) R hp
            exact k _ _ _ st (R.keep hp) (.tup (SqT.of upd_same) ((r1.append r2).step st))
    · cases e
  · simp only [Option.bind_eq_some_iff] at e
    obtain ⟨xs, e1, ys, e2, e⟩ := e
    split at e
    · rename_i h
      cases e
      obtain ⟨p1, v1, rfl, h1, r1⟩ := asL_of R ra e1
      obtain ⟨p2, v2, rfl, h2, r2⟩ := asL_of R rb e2
      refine op_catL pins s σ H _ _ v u Q I rx ry ⟨p1, p2, v1, v2, rfl, rfl, h1, h2, by rw [r1.length, r2.length]; exact h, fun p hp => ?_⟩
      have st := Step.keep (o := .lst (v1 ++ v2)) R hp
      exact k _ _ _ st (R.keep hp) (.lst (Rd.of upd_same) ((r1.append r2).step st))
    · cases e
theorem op_subF : OpR X (binaryOp .Sub) (r2 nm X.K subF) := by
  rintro pins s σ H x y v u Q I rx ry ⟨W, ah, a, b, c, R, ra, rb, e, k⟩
  unfold subF at e
  split at e
  · cases ra; cases rb; cases e
    exact op_sub pins s σ H _ _ v u Q I rx ry ⟨_, _, rfl, rfl, k W H _ (Step.refl _ _) R (.int _)⟩
  · cases e
theorem rvs_rep {W : Wd} {xs : List AV} {vs : List V} (r : W.RVs X.K xs vs) : ∀ n : Nat, W.RVs X.K (List.replicate n xs).flatten (List.replicate n vs).flatten
  | 0 => .nil
  | n + 1 => by
    rw [List.replicate_succ, List.replicate_succ, List.flatten_cons, List.flatten_cons]
    exact r.append (rvs_rep r n)
/-- a list that may be locked, times an int -/
theorem op_repR : OpR X (binaryOp .Mult) (fun x y H Q => ∃ l m zs, x = .ref l ∧ y = .int m ∧ Rd H l (.lst zs) ∧ (-(2 ^ 63) ≤ m ∧ m < 2 ^ 63 ∧ zs.length * m.toNat ≤ sizeLine) ∧ ∀ p, H p = none → Q (.ref p) (upd H p (.lst (List.replicate m.toNat zs).flatten))) := by
  rintro pins s σ H x y v u Q I rx ry ⟨l, m, zs, rfl, rfl, h1, ⟨b1, b2, b3⟩, q⟩
  cases rx
  obtain ⟨tk, rfl⟩ := ry
  obtain ⟨_, ws, c, rv, hl, eo⟩ := rd_obj I h1
  have g1 : ws.toArray.size * m.toNat ≤ sizeLine := by simpa only [List.size_toArray, ← hl] using b3
  have g2 : ¬ ws.toArray.size * m.toNat > (2 ^ 63 - 1) / 8 := fun z => absurd (Nat.lt_of_lt_of_le z g1) (by decide)
  have g3 : ¬ (!Builtin.List.listFitsIndex m) = true := by simp [fitsIndex_both b1 b2]
  have g4 : ¬ Builtin.List.listTooLong (ws.toArray.size * m.toNat) = true := fun z => by
    rw [notLongL g1] at z
    cases z
  have fl : ∀ i : Nat, List.foldl (· ++ ·) #[] (List.replicate i ws.toArray) = (List.replicate i ws).flatten.toArray := fun i => by simpa using foldl_rep ws i []
  have g5 : List.foldl (· ++ ·) #[] (List.replicate (if ws.toArray.isEmpty = true then 0 else m.toNat) ws.toArray) = (List.replicate m.toNat ws).flatten.toArray := by
    rw [fl]
    cases ws <;> simp
  have md := AutoListH.list___mul___list_int_3 l ws.toArray c m tk g3 g2 g4
  have t1 := typeIs_int s m tk
  refine wpAny_binaryOp_repeat_ref (T := "list") (U := "int") (by decide) ⟨_, eo, rfl⟩ (typeIs_int · m tk) noFill_list_mul F.fills_int_mul F.slot_int_rmul repeat_list F.slot_int_index.lookup ?_
  refine call_meets F.slot_int_rmul t1 F.entry_int_rmul (F.args_int_rmul_2 _ _) (int___rmul___int_list m tk l ws.toArray c) ⟨eo, rfl, ⟨_, eo, rfl⟩, ?_⟩
  refine call_meets F.slot_list_mul ⟨_, eo, rfl⟩ F.entry_list_mul (F.args_list_mul_2 _ _) md ⟨eo, ?_⟩
  rw [g5]
  have hsz : ((List.replicate m.toNat zs).flatten).length ≤ sizeLine := by
    rw [List.length_flatten, List.map_replicate, List.sum_replicate_nat, Nat.mul_comm]
    exact b3
  exact ⟨.ref _, _, I.lnew (t' := s.toks) (rv.rep m.toNat) hsz, rfl, q _ I.fresh⟩
theorem op_mulF : OpR X (binaryOp .Mult) (r2 nm X.K mulF) := by
  rintro pins s σ H x y v u Q I rx ry ⟨W, ah, a, b, c, R, ra, rb, e, k⟩
  unfold mulF at e
  split at e
  · cases ra; cases rb
    split at e
    · rename_i h
      cases e
      exact op_mulW pins s σ H _ _ v u Q I rx ry ⟨_, _, rfl, rfl, h, k W H _ (Step.refl _ _) R (.int _)⟩
    · cases e
  · cases ra; cases rb
    split at e
    · rename_i h
      cases e
      obtain ⟨t, rfl⟩ := rx
      obtain ⟨t', rfl⟩ := ry
      exact PySem.SB.mul (mulOk_of h.1 h.2.1 h.2.2) fun t2 k2 => ⟨.str _, H, I.tok _, ⟨_, rfl⟩, k W H _ (Step.refl _ _) R (.str _)⟩
    · cases e
  · rename_i j _ _
    cases rb
    simp only [Option.bind_eq_some_iff] at e
    obtain ⟨xs, e1, e⟩ := e
    split at e
    · rename_i h
      cases e
      obtain ⟨p1, v1, rfl, h1, r1⟩ := asL_of R ra e1
      refine op_repR pins s σ H _ _ v u Q I rx ry ⟨p1, _, v1, rfl, rfl, h1, by rw [r1.length]; exact h, fun p hp => ?_⟩
      have st := Step.keep (o := .lst (List.replicate j.toNat v1).flatten) R hp
      exact k _ _ _ st (R.keep hp) (.lst (Rd.of upd_same) ((rvs_rep r1 _).step st))
    · cases e
  · cases e
theorem op_divF : OpR X (binaryOp .FloorDiv) (r2 nm X.K divF) := by
  rintro pins s σ H x y v u Q I rx ry ⟨W, ah, a, b, c, R, ra, rb, e, k⟩
  unfold divF at e
  split at e
  · cases ra; cases rb
    split at e
    · rename_i h
      cases e
      exact op_fdivW pins s σ H _ _ v u Q I rx ry ⟨_, _, rfl, rfl, h, k W H _ (Step.refl _ _) R (.int _)⟩
    · cases e
  · cases e
theorem op_modF : OpR X (binaryOp .Mod) (r2 nm X.K modF) := by
  rintro pins s σ H x y v u Q I rx ry ⟨W, ah, a, b, c, R, ra, rb, e, k⟩
  unfold modF at e
  split at e
  · cases ra; cases rb
    split at e
    · rename_i h
      cases e
      exact op_mod pins s σ H _ _ v u Q I rx ry ⟨_, _, rfl, rfl, h, k W H _ (Step.refl _ _) R (.int _)⟩
    · cases e
  · cases e
theorem op_powF : OpR X (binaryOp .Pow) (r2 nm X.K powF) := by
  rintro pins s σ H x y v u Q I rx ry ⟨W, ah, a, b, c, R, ra, rb, e, k⟩
  unfold powF at e
  split at e
  · cases ra; cases rb
    split at e
    · rename_i h
      cases e
      exact op_pow pins s σ H _ _ v u Q I rx ry ⟨_, _, rfl, rfl, h, k W H _ (Step.refl _ _) R (.int _)⟩
    · cases e
  · cases e
theorem op_none {op : Operator} : OpR X (binaryOp op) (r2 nm X.K fun _ _ _ => none) := by
  rintro pins s σ H x y v u Q I rx ry ⟨W, ah, a, b, c, R, ra, rb, e, k⟩
  cases e
theorem op_binF (op : Operator) : OpR X (binaryOp op) (r2 nm X.K (binF op)) := by
  cases op with
  | Add => exact op_addF
  | Sub => exact op_subF
  | Mult => exact op_mulF
  | FloorDiv => exact op_divF
  | Mod => exact op_modF
  | Pow => exact op_powF
  | _ => exact op_none
theorem un_negF : UnR X (unaryOp .USub) (r1 nm X.K negF) := by
  rintro pins s σ H x v Q I rx ⟨W, ah, a, c, R, ra, e, k⟩
  unfold negF at e
  split at e
  · cases ra; cases e
    exact un_neg pins s σ H _ v Q I rx ⟨_, rfl, k W H _ (Step.refl _ _) R (.int _)⟩
  · cases e
end
end Ko

/-! Ko, part D: comparisons, isinstance, repr, len and the other built-in functions. -/
namespace Ko
open PySem L2

/-! ### data -/
def kdat : Key → PyData
  | .inl i => .int i
  | .inr z => .str z
mutual
def dat : AV → Option PyData
  | .non => some .none
  | .bl b => some (.bool b)
  | .int i => some (.int i)
  | .str z => some (.str z)
  | .tup xs => (datL xs).map .tuple
  | .lst xs => (datL xs).map .list
  | .dct kvs => (datK kvs).map .dict
  | .ref _ => none
def datL : List AV → Option (List PyData)
  | [] => some []
  | x :: xs => (dat x).bind fun d => (datL xs).map (d :: ·)
def datK : List (Key × AV) → Option (List (PyData × PyData))
  | [] => some []
  | (k, x) :: xs => (dat x).bind fun d => (datK xs).map ((kdat k, d) :: ·)
end
/-- .. of the objects within too -/
def datR (ah : AH) (n : Nat) : Option PyData := match ah[n]? with
    | some (.lst xs) => (datL xs).map .list
    | some (.dct kvs) => (datK kvs).map .dict
    | _ => none
mutual
def datH (ah : AH) : AV → Option PyData
  | .non => some .none
  | .bl b => some (.bool b)
  | .int i => some (.int i)
  | .str z => some (.str z)
  | .tup xs => (datHL ah xs).map .tuple
  | .lst xs => (datHL ah xs).map .list
  | .dct kvs => (datHK ah kvs).map .dict
  | .ref n => datR ah n
def datHL (ah : AH) : List AV → Option (List PyData)
  | [] => some []
  | x :: xs => (datH ah x).bind fun d => (datHL ah xs).map (d :: ·)
def datHK (ah : AH) : List (Key × AV) → Option (List (PyData × PyData))
  | [] => some []
  | (k, x) :: xs => (datH ah x).bind fun d => (datHK ah xs).map ((kdat k, d) :: ·)
end
mutual
theorem dat_H {ah : AH} : ∀ {a : AV} {d : PyData}, dat a = some d → datH ah a = some d
  | .non, _, e => e
  | .bl _, _, e => e
  | .int _, _, e => e
  | .str _, _, e => e
  | .tup xs, d, e => by
    simp only [dat, Option.map_eq_some_iff] at e
    obtain ⟨ds, e1, rfl⟩ := e
    simp only [datH, datL_H e1, Option.map_some]
  | .lst xs, d, e => by
    simp only [dat, Option.map_eq_some_iff] at e
    obtain ⟨ds, e1, rfl⟩ := e
    simp only [datH, datL_H e1, Option.map_some]
  | .dct xs, d, e => by
    simp only [dat, Option.map_eq_some_iff] at e
    obtain ⟨ds, e1, rfl⟩ := e
    simp only [datH, datK_H e1, Option.map_some]
  | .ref _, _, e => by cases e
theorem datL_H {ah : AH} : ∀ {a : List AV} {d : List PyData}, datL a = some d → datHL ah a = some d
  | [], _, e => e
  | x :: xs, d, e => by
    simp only [datL, Option.bind_eq_some_iff, Option.map_eq_some_iff] at e
    obtain ⟨d1, e1, ds, e2, rfl⟩ := e
    simp only [datHL, dat_H e1, datL_H e2, Option.bind_some, Option.map_some]
theorem datK_H {ah : AH} : ∀ {a : List (Key × AV)} {d : List (PyData × PyData)}, datK a = some d → datHK ah a = some d
  | [], _, e => e
  | (k, x) :: xs, d, e => by
    simp only [datK, Option.bind_eq_some_iff, Option.map_eq_some_iff] at e
    obtain ⟨d1, e1, ds, e2, rfl⟩ := e
    simp only [datHK, dat_H e1, datK_H e2, Option.bind_some, Option.map_some]
end

section
variable {X : Cx} {pins : List (Addr × Obj)} {σ : St} {H : Hp} {s : Shared} {nm : Nm} {W : Wd} {ah : AH}
/-- the table of modules stands where it stands -/
def SM (X : Cx) : Prop := ∃ o es ep, X.base.get? sysModules = some o ∧ o.data = .dict es ep
theorem ne_sm (sm : SM X) (I : Inv X pins σ H s) {a : Addr} {o : Obj} {its : Array Value} {n : Nat} (h : s.heap.get? a = some o) (hc : o.data = .seq its n) : a ≠ sysModules := by
  rintro rfl
  obtain ⟨u, es, ep, h1, h2⟩ := sm
  have := I.bk _ _ h1
  rw [h] at this
  cases this
  rw [hc] at h2
  cases h2
theorem kv_data {P : Program} {w : World} {k : Key} {u : Value} (h : (mixKind P w).is k u = true) : ∀ hp : Heap, Reads hp u (kdat k) [] := by
  rcases keyIs_shape h with ⟨i, t, rfl, rfl⟩ | ⟨z, t, rfl, rfl⟩
  · exact fun hp => Reads.int i t
  · exact fun hp => Reads.str z t
mutual
theorem reads_of (sm : SM X) (I : Inv X pins σ H s) (R : RelH X.K nm W ah H) : ∀ {a : AV} {w : V} {u : Value} {d : PyData}, W.RV X.K a w → RelV w u → dat a = some d → ∃ as, Reads s.heap u d as ∧ sysModules ∉ as
  | _, _, _, _, .non, rv, e => by cases rv; cases e; exact ⟨_, Reads.none, by simp⟩
  | _, _, _, _, .bl b, rv, e => by cases rv; cases e; exact ⟨_, Reads.bool b, by simp⟩
  | _, _, _, _, .int i, rv, e => by obtain ⟨t, rfl⟩ := rv; cases e; exact ⟨_, Reads.int i t, by simp⟩
  | _, _, _, _, .str z, rv, e => by obtain ⟨t, rfl⟩ := rv; cases e; exact ⟨_, Reads.str z t, by simp⟩
  | _, _, _, _, .tup (xs := xs) h r, rv, e => by
    cases rv
    simp only [dat, Option.map_eq_some_iff] at e
    obtain ⟨ds, e1, rfl⟩ := e
    obtain ⟨its, r2, ⟨o, ho, hc, n, hd⟩, _⟩ := I.tuple (same_tup R.fz h)
    obtain ⟨as, q, m⟩ := readsL_of sm I R r r2 e1
    exact ⟨_, Reads.tuple ho hc hd q, m⟩
  | _, _, _, _, .lst (xs := xs) h r, rv, e => by
    cases rv
    simp only [dat, Option.map_eq_some_iff] at e
    obtain ⟨ds, e1, rfl⟩ := e
    obtain ⟨_, its, n, r2, _, ho⟩ := rd_obj I (same_rd R.fz h)
    obtain ⟨as, q, m⟩ := readsL_of sm I R r r2 e1
    refine ⟨_, Reads.list ho rfl rfl q, ?_⟩
    simp only [List.mem_cons, not_or]
    exact ⟨(ne_sm sm I ho rfl).symm, m⟩
  | _, _, _, _, .dct (kvs := kvs) h r, rv, e => by
    cases rv
    simp only [dat, Option.map_eq_some_iff] at e
    obtain ⟨ds, e1, rfl⟩ := e
    obtain ⟨_, hsy, vs, kv, o, es, ep, ho, hx, hd, _, hp, _⟩ := I.hok _ _ (R.fz _ _ h)
    obtain ⟨as, bs, q1, q2, m1, m2⟩ := readsK_of sm I R r kv hp e1
    refine ⟨_, Reads.dict ho hx.1 hd q1 q2, ?_⟩
    simp only [List.cons_append, List.mem_cons, List.mem_append, not_or]
    exact ⟨fun z => by rw [← z] at hsy; exact absurd hsy (by decide), m1, m2⟩
  | _, _, _, _, .ref _, _, e => by cases e
theorem readsL_of (sm : SM X) (I : Inv X pins σ H s) (R : RelH X.K nm W ah H) : ∀ {xs : List AV} {ws : List V} {us : List Value} {ds : List PyData}, W.RVs X.K xs ws → Vals ws us → datL xs = some ds → ∃ as, ReadsAll s.heap us ds as ∧ sysModules ∉ as
  | _, _, _, _, .nil, .nil, e => by cases e; exact ⟨_, ReadsAll.nil, by simp⟩
  | _, _, _, _, .cons r t, .cons rv tv, e => by
    simp only [datL, Option.bind_eq_some_iff, Option.map_eq_some_iff] at e
    obtain ⟨d, e1, ds, e2, rfl⟩ := e
    obtain ⟨as, q1, m1⟩ := reads_of sm I R r rv e1
    obtain ⟨bs, q2, m2⟩ := readsL_of sm I R t tv e2
    exact ⟨_, ReadsAll.cons q1 q2, by simp only [List.mem_append, not_or]; exact ⟨m1, m2⟩⟩
theorem readsK_of (sm : SM X) (I : Inv X pins σ H s) (R : RelH X.K nm W ah H) : ∀ {xs : List (Key × AV)} {ws : List (Key × V)} {us : List (Key × Value)} {es : List DictEntry} {ds : List (PyData × PyData)}, RKs X.K W.fz W.io xs ws → KV ws us → Pairs (mixKind X.prog X.w) es us → datK xs = some ds →
    ∃ as bs, ReadsAll s.heap (es.map (·.key)) (ds.map (·.1)) as ∧ ReadsAll s.heap (es.map (·.val)) (ds.map (·.2)) bs ∧ sysModules ∉ as ∧ sysModules ∉ bs
  | _, _, _, _, _, .nil, .nil, .nil, e => by cases e; exact ⟨_, _, ReadsAll.nil, ReadsAll.nil, by simp, by simp⟩
  | _, _, _, _, _, .cons r t, .cons rv tv, .cons p1 p2 tp, e => by
    simp only [datK, Option.bind_eq_some_iff, Option.map_eq_some_iff] at e
    obtain ⟨d, e1, ds, e2, rfl⟩ := e
    obtain ⟨as, q1, m1⟩ := reads_of sm I R r rv.2 e1
    obtain ⟨bs, cs, q2, q3, m2, m3⟩ := readsK_of sm I R t tv tp e2
    have hk := kv_data p1 s.heap
    have ek : _ = _ := rv.1
    rw [← ek] at hk
    rw [← p2] at q1
    exact ⟨_, _, ReadsAll.cons hk q2, ReadsAll.cons q1 q3, by simpa using m2, by simp only [List.mem_append, not_or]; exact ⟨m1, m3⟩⟩
end
mutual
theorem readsH_of (sm : SM X) (I : Inv X pins σ H s) (R : RelH X.K nm W ah H) : ∀ {a : AV} {w : V} {u : Value} {d : PyData}, W.RV X.K a w → RelV w u → datH ah a = some d → ∃ as, Reads s.heap u d as ∧ sysModules ∉ as
  | _, _, _, _, .non, rv, e => by cases rv; cases e; exact ⟨_, Reads.none, by simp⟩
  | _, _, _, _, .bl b, rv, e => by cases rv; cases e; exact ⟨_, Reads.bool b, by simp⟩
  | _, _, _, _, .int i, rv, e => by obtain ⟨t, rfl⟩ := rv; cases e; exact ⟨_, Reads.int i t, by simp⟩
  | _, _, _, _, .str z, rv, e => by obtain ⟨t, rfl⟩ := rv; cases e; exact ⟨_, Reads.str z t, by simp⟩
  | _, _, _, _, .tup (xs := xs) h r, rv, e => by
    cases rv
    simp only [datH, Option.map_eq_some_iff] at e
    obtain ⟨ds, e1, rfl⟩ := e
    obtain ⟨its, r2, ⟨o, ho, hc, n, hd⟩, _⟩ := I.tuple (same_tup R.fz h)
    obtain ⟨as, q, m⟩ := readsHL_of sm I R r r2 e1
    exact ⟨_, Reads.tuple ho hc hd q, m⟩
  | _, _, _, _, .lst (xs := xs) h r, rv, e => by
    cases rv
    simp only [datH, Option.map_eq_some_iff] at e
    obtain ⟨ds, e1, rfl⟩ := e
    obtain ⟨_, its, n, r2, _, ho⟩ := rd_obj I (same_rd R.fz h)
    obtain ⟨as, q, m⟩ := readsHL_of sm I R r r2 e1
    refine ⟨_, Reads.list ho rfl rfl q, ?_⟩
    simp only [List.mem_cons, not_or]
    exact ⟨(ne_sm sm I ho rfl).symm, m⟩
  | _, _, _, _, .dct (kvs := kvs) h r, rv, e => by
    cases rv
    simp only [datH, Option.map_eq_some_iff] at e
    obtain ⟨ds, e1, rfl⟩ := e
    obtain ⟨_, hsy, vs, kv, o, es, ep, ho, hx, hd, _, hp, _⟩ := I.hok _ _ (R.fz _ _ h)
    obtain ⟨as, bs, q1, q2, m1, m2⟩ := readsHK_of sm I R r kv hp e1
    refine ⟨_, Reads.dict ho hx.1 hd q1 q2, ?_⟩
    simp only [List.cons_append, List.mem_cons, List.mem_append, not_or]
    exact ⟨fun z => by rw [← z] at hsy; exact absurd hsy (by decide), m1, m2⟩
  | _, _, _, _, .ref h, rv, e => by
    simp only [datH, datR] at e
    cases rv
    split at e
    · rename_i q
      simp only [Option.map_eq_some_iff] at e
      obtain ⟨ds, e1, rfl⟩ := e
      obtain ⟨vs, h1, h2⟩ := R.at h q
      obtain ⟨_, its, n, r2, _, ho⟩ := rd_obj I (Rd.of h1)
      obtain ⟨as, q, m⟩ := readsL_of sm I R h2 r2 e1
      refine ⟨_, Reads.list ho rfl rfl q, ?_⟩
      simp only [List.mem_cons, not_or]
      exact ⟨(ne_sm sm I ho rfl).symm, m⟩
    · rename_i q
      simp only [Option.map_eq_some_iff] at e
      obtain ⟨ds, e1, rfl⟩ := e
      obtain ⟨vs, h1, h2⟩ := R.at h q
      obtain ⟨_, hsy, vs, kv, o, es, ep, ho, hx, hd, _, hp, _⟩ := I.hok _ _ h1
      obtain ⟨as, bs, q1, q2, m1, m2⟩ := readsK_of sm I R h2 kv hp e1
      refine ⟨_, Reads.dict ho hx.1 hd q1 q2, ?_⟩
      simp only [List.cons_append, List.mem_cons, List.mem_append, not_or]
      exact ⟨fun z => by rw [← z] at hsy; exact absurd hsy (by decide), m1, m2⟩
    · cases e
theorem readsHL_of (sm : SM X) (I : Inv X pins σ H s) (R : RelH X.K nm W ah H) : ∀ {xs : List AV} {ws : List V} {us : List Value} {ds : List PyData}, W.RVs X.K xs ws → Vals ws us → datHL ah xs = some ds → ∃ as, ReadsAll s.heap us ds as ∧ sysModules ∉ as
  | _, _, _, _, .nil, .nil, e => by cases e; exact ⟨_, ReadsAll.nil, by simp⟩
  | _, _, _, _, .cons r t, .cons rv tv, e => by
    simp only [datHL, Option.bind_eq_some_iff, Option.map_eq_some_iff] at e
    obtain ⟨d, e1, ds, e2, rfl⟩ := e
    obtain ⟨as, q1, m1⟩ := readsH_of sm I R r rv e1
    obtain ⟨bs, q2, m2⟩ := readsHL_of sm I R t tv e2
    exact ⟨_, ReadsAll.cons q1 q2, by simp only [List.mem_append, not_or]; exact ⟨m1, m2⟩⟩
theorem readsHK_of (sm : SM X) (I : Inv X pins σ H s) (R : RelH X.K nm W ah H) : ∀ {xs : List (Key × AV)} {ws : List (Key × V)} {us : List (Key × Value)} {es : List DictEntry} {ds : List (PyData × PyData)}, RKs X.K W.fz W.io xs ws → KV ws us → Pairs (mixKind X.prog X.w) es us → datHK ah xs = some ds →
    ∃ as bs, ReadsAll s.heap (es.map (·.key)) (ds.map (·.1)) as ∧ ReadsAll s.heap (es.map (·.val)) (ds.map (·.2)) bs ∧ sysModules ∉ as ∧ sysModules ∉ bs
  | _, _, _, _, _, .nil, .nil, .nil, e => by cases e; exact ⟨_, _, ReadsAll.nil, ReadsAll.nil, by simp, by simp⟩
  | _, _, _, _, _, .cons r t, .cons rv tv, .cons p1 p2 tp, e => by
    simp only [datHK, Option.bind_eq_some_iff, Option.map_eq_some_iff] at e
    obtain ⟨d, e1, ds, e2, rfl⟩ := e
    obtain ⟨as, q1, m1⟩ := readsH_of sm I R r rv.2 e1
    obtain ⟨bs, cs, q2, q3, m2, m3⟩ := readsHK_of sm I R t tv tp e2
    have hk := kv_data p1 s.heap
    have ek : _ = _ := rv.1
    rw [← ek] at hk
    rw [← p2] at q1
    exact ⟨_, _, ReadsAll.cons hk q2, ReadsAll.cons q1 q3, by simpa using m2, by simp only [List.mem_append, not_or]; exact ⟨m1, m3⟩⟩
end
end

/-! ### comparisons -/
def eqD (ah : AH) (a b : AV) : Option Bool := (datH ah a).bind fun d => (datH ah b).bind fun e => if SeqAt.shaped d = true ∧ SeqAt.shaped e = true then some (PyData.eqv d e) else none
def eqF (ah : AH) (a b : AV) : Option AV := match a, b with
  | .str x, .str y => some (.bl (decide (x = y)))
  | a, b => (eqD ah a b).map .bl
def neF (ah : AH) (a b : AV) : Option AV := match a, b with
  | .str x, .str y => some (.bl (!decide (x = y)))
  | a, b => (eqD ah a b).map fun c => .bl (!c)
def ltF (_ : AH) : AV → AV → Option AV
  | .int i, .int j => some (.bl (decide (i < j)))
  | .str x, .str y => some (.bl (decide (x.cps.toList < y.cps.toList)))
  | _, _ => none
def leF (_ : AH) : AV → AV → Option AV
  | .int i, .int j => some (.bl (decide (i ≤ j)))
  | .str x, .str y => some (.bl (!decide (y.cps.toList < x.cps.toList)))
  | _, _ => none
def gtF (_ : AH) : AV → AV → Option AV
  | .int i, .int j => some (.bl (decide (j < i)))
  | .str x, .str y => some (.bl (decide (y.cps.toList < x.cps.toList)))
  | _, _ => none
def geF (_ : AH) : AV → AV → Option AV
  | .int i, .int j => some (.bl (decide (j ≤ i)))
  | .str x, .str y => some (.bl (!decide (x.cps.toList < y.cps.toList)))
  | _, _ => none
def isNon : AV → Bool | .non => true | _ => false
def isF (_ : AH) : AV → AV → Option AV
  | .bl a, .bl b => some (.bl (decide (a = b)))
  | a, .non => some (.bl (isNon a))
  | _, _ => none
def isNotF (_ : AH) : AV → AV → Option AV
  | .bl a, .bl b => some (.bl (!decide (a = b)))
  | a, .non => some (.bl (!isNon a))
  | _, _ => none
/-- None, a bool, an int, a text -/
def flatA : AV → Option V
  | .non => some .non
  | .bl b => some (.bl b)
  | .int i => some (.int i)
  | .str z => some (.str z)
  | _ => none
def flatL : List AV → Option (List V)
  | [] => some []
  | x :: xs => (flatA x).bind fun v => (flatL xs).map (v :: ·)
def inB (ah : AH) : AV → AV → Option Bool
  | .str x, .str z => if x.cps.size = 1 then some (decide (x.cps.toList.headD 0 ∈ z.cps.toList)) else none
  | a, .tup ys => (flatA a).bind fun x => (flatL ys).map fun vs => inV x vs
  | a, b => (flatA a).bind fun x => (asL ah b).bind fun ys => (flatL ys).map fun vs => inV x vs
def inF (ah : AH) (a b : AV) : Option AV := (inB ah a b).map .bl
def notInF (ah : AH) (a b : AV) : Option AV := (inB ah a b).map fun c => .bl (!c)
def cmpF : CmpOp → AH → AV → AV → Option AV
  | .Eq => eqF
  | .NotEq => neF
  | .Lt => ltF
  | .LtE => leF
  | .Gt => gtF
  | .GtE => geF
  | .Is => isF
  | .IsNot => isNotF
  | .In => inF
  | .NotIn => notInF

section
variable {X : Cx} {nm : Nm}
theorem flatA_of {K : PySem.W.Frag} {W : Wd} {a : AV} {w v : V} (r : W.RV K a w) (e : flatA a = some v) : w = v ∧ flatV v = true := by
  cases r <;> first | (cases e; exact ⟨rfl, rfl⟩) | (cases e)
theorem flatL_of {K : PySem.W.Frag} {W : Wd} : ∀ {xs : List AV} {ws vs : List V}, W.RVs K xs ws → flatL xs = some vs → ws = vs ∧ vs.all flatV = true
  | _, _, _, .nil, e => by cases e; exact ⟨rfl, rfl⟩
  | _, _, _, .cons r t, e => by
    simp only [flatL, Option.bind_eq_some_iff, Option.map_eq_some_iff] at e
    obtain ⟨v, e1, vs, e2, rfl⟩ := e
    obtain ⟨rfl, h1⟩ := flatA_of r e1
    obtain ⟨rfl, h2⟩ := flatL_of t e2
    exact ⟨rfl, by rw [List.all_cons, h1, h2]; rfl⟩
theorem eqD_of {a b : AV} {ah : AH} {c : Bool} (e : eqD ah a b = some c) : ∃ d f, datH ah a = some d ∧ datH ah b = some f ∧ SeqAt.shaped d = true ∧ SeqAt.shaped f = true ∧ c = PyData.eqv d f := by
  unfold eqD at e
  simp only [Option.bind_eq_some_iff] at e
  obtain ⟨d, e1, f, e2, e3⟩ := e
  split at e3
  · rename_i h; cases e3; exact ⟨d, f, e1, e2, h.1, h.2, rfl⟩
  · cases e3
theorem op_eqF (sm : SM X) (hu : X.A.units + 64 < cLine) : OpR X (compareOp .Eq) (r2 nm X.K eqF) := by
  rintro pins s σ H x y v u Q I rx ry ⟨W, ah, a, b, c, R, ra, rb, e, k⟩
  unfold eqF at e
  split at e
  · cases ra; cases rb; cases e
    refine op_eq pins s σ H _ _ v u Q I rx ry ⟨rfl, k W H _ (Step.refl _ _) R ?_⟩
    rename_i x y
    have : decide (V.str x = V.str y) = decide (x = y) := decide_eq_decide.mpr (by simp)
    rw [this]
    exact .bl _
  simp only [Option.map_eq_some_iff] at e
  obtain ⟨q, e1, rfl⟩ := e
  obtain ⟨d, f, h1, h2, h3, h4, rfl⟩ := eqD_of e1
  obtain ⟨as, q1, _⟩ := readsH_of sm I R ra rx h1
  obtain ⟨bs, q2, _⟩ := readsH_of sm I R rb ry h2
  exact SeqAt.compareEq_shaped q1 q2 h3 h4 hu ⟨.bl _, H, I, rfl, k W H _ (Step.refl _ _) R (.bl _)⟩
theorem op_neF (sm : SM X) (hu : X.A.units + 64 < cLine) : OpR X (compareOp .NotEq) (r2 nm X.K neF) := by
  rintro pins s σ H x y v u Q I rx ry ⟨W, ah, a, b, c, R, ra, rb, e, k⟩
  unfold neF at e
  split at e
  · cases ra; cases rb; cases e
    refine op_ne pins s σ H _ _ v u Q I rx ry ⟨rfl, k W H _ (Step.refl _ _) R ?_⟩
    rename_i x y
    have : decide (V.str x = V.str y) = decide (x = y) := decide_eq_decide.mpr (by simp)
    rw [this]
    exact .bl _
  simp only [Option.map_eq_some_iff] at e
  obtain ⟨q, e1, rfl⟩ := e
  obtain ⟨d, f, h1, h2, h3, h4, rfl⟩ := eqD_of e1
  obtain ⟨as, q1, _⟩ := readsH_of sm I R ra rx h1
  obtain ⟨bs, q2, _⟩ := readsH_of sm I R rb ry h2
  exact SeqAt.compareNe_shaped q1 q2 h3 h4 hu ⟨.bl _, H, I, rfl, k W H _ (Step.refl _ _) R (.bl _)⟩
theorem cmp_two {op : CmpOp} {g : AH → AV → AV → Option AV} {fi : Int → Int → Bool} {fs : Str → Str → Bool}
    (hi : OpR X (compareOp op) (rI0 fun i j => .bl (fi i j))) (hs : OpR X (compareOp op) (fun x y H Q => ∃ i j, x = .str i ∧ y = .str j ∧ Q (.bl (fs i j)) H))
    (hg : ∀ ah a b c, g ah a b = some c → (∃ i j, a = .int i ∧ b = .int j ∧ c = .bl (fi i j)) ∨ ∃ i j, a = .str i ∧ b = .str j ∧ c = .bl (fs i j)) : OpR X (compareOp op) (r2 nm X.K g) := by
  rintro pins s σ H x y v u Q I rx ry ⟨W, ah, a, b, c, R, ra, rb, e, k⟩
  rcases hg ah a b c e with ⟨i, j, rfl, rfl, rfl⟩ | ⟨i, j, rfl, rfl, rfl⟩
  · cases ra; cases rb
    exact hi pins s σ H _ _ v u Q I rx ry ⟨_, _, rfl, rfl, k W H _ (Step.refl _ _) R (.bl _)⟩
  · cases ra; cases rb
    exact hs pins s σ H _ _ v u Q I rx ry ⟨_, _, rfl, rfl, k W H _ (Step.refl _ _) R (.bl _)⟩
theorem op_ltF : OpR X (compareOp .Lt) (r2 nm X.K ltF) := cmp_two (fi := fun i j => decide (i < j)) (fs := fun i j => decide (i.cps.toList < j.cps.toList)) op_lt op_lt_str fun ah a b c e => by
  unfold ltF at e
  split at e <;> cases e
  · exact .inl ⟨_, _, rfl, rfl, rfl⟩
  · exact .inr ⟨_, _, rfl, rfl, rfl⟩
theorem op_leF : OpR X (compareOp .LtE) (r2 nm X.K leF) := cmp_two (fi := fun i j => decide (i ≤ j)) (fs := fun i j => !decide (j.cps.toList < i.cps.toList)) op_le op_le_str fun ah a b c e => by
  unfold leF at e
  split at e <;> cases e
  · exact .inl ⟨_, _, rfl, rfl, rfl⟩
  · exact .inr ⟨_, _, rfl, rfl, rfl⟩
theorem op_gtF : OpR X (compareOp .Gt) (r2 nm X.K gtF) := cmp_two (fi := fun i j => decide (j < i)) (fs := fun i j => decide (j.cps.toList < i.cps.toList)) op_gt op_gt_str fun ah a b c e => by
  unfold gtF at e
  split at e <;> cases e
  · exact .inl ⟨_, _, rfl, rfl, rfl⟩
  · exact .inr ⟨_, _, rfl, rfl, rfl⟩
theorem op_geF : OpR X (compareOp .GtE) (r2 nm X.K geF) := cmp_two (fi := fun i j => decide (j ≤ i)) (fs := fun i j => !decide (i.cps.toList < j.cps.toList)) op_ge op_ge_str fun ah a b c e => by
  unfold geF at e
  split at e <;> cases e
  · exact .inl ⟨_, _, rfl, rfl, rfl⟩
  · exact .inr ⟨_, _, rfl, rfl, rfl⟩
theorem isNon_of {K : PySem.W.Frag} {W : Wd} {a : AV} {w : V} (r : W.RV K a w) : decide (w = .non) = isNon a := by
  cases r <;> simp [isNon]
theorem op_isF : OpR X (compareOp .Is) (r2 nm X.K isF) := by
  rintro pins s σ H x y v u Q I rx ry ⟨W, ah, a, b, c, R, ra, rb, e, k⟩
  unfold isF at e
  split at e
  · cases ra; cases rb; cases e
    exact op_isBl pins s σ H _ _ v u Q I rx ry ⟨_, _, rfl, rfl, k W H _ (Step.refl _ _) R (.bl _)⟩
  · cases rb; cases e
    exact op_isN pins s σ H _ _ v u Q I rx ry ⟨rfl, by rw [isNon_of ra]; exact k W H _ (Step.refl _ _) R (.bl _)⟩
  · cases e
theorem op_isNotF : OpR X (compareOp .IsNot) (r2 nm X.K isNotF) := by
  rintro pins s σ H x y v u Q I rx ry ⟨W, ah, a, b, c, R, ra, rb, e, k⟩
  unfold isNotF at e
  split at e
  · cases ra; cases rb; cases e
    exact op_notBl pins s σ H _ _ v u Q I rx ry ⟨_, _, rfl, rfl, k W H _ (Step.refl _ _) R (.bl _)⟩
  · cases rb; cases e
    exact op_notN pins s σ H _ _ v u Q I rx ry ⟨rfl, by rw [isNon_of ra]; exact k W H _ (Step.refl _ _) R (.bl _)⟩
  · cases e
theorem inB_of {W : Wd} {ah : AH} {H : Hp} {a b : AV} {w1 w2 : V} {c : Bool} (R : RelH X.K nm W ah H) (ra : W.RV X.K a w1) (rb : W.RV X.K b w2) (e : inB ah a b = some c) :
    (∃ (c0 : Nat) (z : Str), w1 = .str ⟨#[c0]⟩ ∧ w2 = .str z ∧ c = decide (c0 ∈ z.cps.toList)) ∨ ∃ p vs, w2 = .ref p ∧ (SqL X.K H p vs ∨ SqT X.K H p vs) ∧ flatV w1 = true ∧ vs.all flatV = true ∧ c = inV w1 vs := by
  unfold inB at e
  split at e
  · cases ra; cases rb
    split at e
    · rename_i x z h
      cases e
      obtain ⟨⟨l⟩⟩ := x
      match l, h with
      | [c0], _ => exact .inl ⟨c0, z, rfl, rfl, rfl⟩
    · cases e
  · simp only [Option.bind_eq_some_iff, Option.map_eq_some_iff] at e
    obtain ⟨x, e1, vs, e2, rfl⟩ := e
    obtain ⟨rfl, h1⟩ := flatA_of ra e1
    cases rb with
    | tup h r =>
      obtain ⟨rfl, h2⟩ := flatL_of r e2
      exact .inr ⟨_, _, rfl, .inr (same_tup R.fz h), h1, h2, rfl⟩
  · simp only [Option.bind_eq_some_iff, Option.map_eq_some_iff] at e
    obtain ⟨x, e1, ys, e3, vs, e2, rfl⟩ := e
    obtain ⟨rfl, h1⟩ := flatA_of ra e1
    obtain ⟨p, ws, rfl, q1, q2⟩ := asL_of R rb e3
    obtain ⟨rfl, h2⟩ := flatL_of q2 e2
    exact .inr ⟨_, _, rfl, .inl (.inl q1), h1, h2, rfl⟩
theorem op_inF : OpR X (compareOp .In) (r2 nm X.K inF) := by
  rintro pins s σ H x y v u Q I rx ry ⟨W, ah, a, b, c, R, ra, rb, e, k⟩
  unfold inF at e
  simp only [Option.map_eq_some_iff] at e
  obtain ⟨q, e1, rfl⟩ := e
  rcases inB_of R ra rb e1 with ⟨c0, z, rfl, rfl, rfl⟩ | ⟨p, vs, rfl, h1, h2, h3, rfl⟩
  · exact op_in_sign pins s σ H _ _ v u Q I rx ry ⟨c0, z, rfl, rfl, k W H _ (Step.refl _ _) R (.bl _)⟩
  · exact op_in_seq pins s σ H _ _ v u Q I rx ry ⟨p, vs, rfl, h1, h2, h3, k W H _ (Step.refl _ _) R (.bl _)⟩
theorem op_notInF : OpR X (compareOp .NotIn) (r2 nm X.K notInF) := by
  rintro pins s σ H x y v u Q I rx ry ⟨W, ah, a, b, c, R, ra, rb, e, k⟩
  unfold notInF at e
  simp only [Option.map_eq_some_iff] at e
  obtain ⟨q, e1, rfl⟩ := e
  rcases inB_of R ra rb e1 with ⟨c0, z, rfl, rfl, rfl⟩ | ⟨p, vs, rfl, h1, h2, h3, rfl⟩
  · exact op_notIn_sign pins s σ H _ _ v u Q I rx ry ⟨c0, z, rfl, rfl, k W H _ (Step.refl _ _) R (.bl _)⟩
  · exact op_notIn_seq pins s σ H _ _ v u Q I rx ry ⟨p, vs, rfl, h1, h2, h3, k W H _ (Step.refl _ _) R (.bl _)⟩
theorem op_cmpF (sm : SM X) (hu : X.A.units + 64 < cLine) (op : CmpOp) : OpR X (compareOp op) (r2 nm X.K (cmpF op)) := by
  cases op with
  | Eq => exact op_eqF sm hu
  | NotEq => exact op_neF sm hu
  | Lt => exact op_ltF
  | LtE => exact op_leF
  | Gt => exact op_gtF
  | GtE => exact op_geF
  | Is => exact op_isF
  | IsNot => exact op_isNotF
  | In => exact op_inF
  | NotIn => exact op_notInF
end
end Ko

/-! Ko, part E: built-in functions, methods of texts, subscripts, slices. -/
namespace Ko
open PySem L2

/-! ### len, int, abs .. -/
def lenF (ah : AH) : AV → Option AV
  | .str z => if z.length ≤ sizeLine then some (.int z.length) else none
  | .tup xs => some (.int xs.length)
  | .dct kvs => some (.int kvs.length)
  | .ref n => match ah[n]? with
    | some (.lst xs) => some (.int xs.length)
    | some (.dct kvs) => some (.int kvs.length)
    | _ => none
  | .lst xs => some (.int xs.length)
  | _ => none
def reprF (ah : AH) (a : AV) : Option AV := (datH ah a).bind fun d => if d.showable = true ∧ d.shown.length ≤ sizeLine ∧ d.depth ≤ 60 then some (.str d.shown) else none
def intF : AV → Option AV
  | .int i => some (.int i)
  | .bl b => some (.int (if b then 1 else 0))
  | .str z => (PySem.intText? z).bind fun n => if z.length ≤ 640 then some (.int n) else none
  | _ => none
def strF : AV → Option AV
  | .int i => if i.natAbs.log2 < 1920 then some (.str (toString i)) else none
  | .str z => some (.str z)
  | _ => none
def kA : Key → AV
  | .inl i => .int i
  | .inr z => .str z
def asKs (ah : AH) : AV → Option (List (Key × AV))
  | .dct kvs => some kvs
  | .ref n => match ah[n]? with | some (.dct kvs) => some kvs | _ => none
  | _ => none
def listF (ah : AH) (a : AV) : Option AV := match a with
  | .tup xs => some (.lst xs)
  | a => match asKs ah a with
    | some kvs => some (.lst (kvs.map fun kv => kA kv.1))
    | none => (asL ah a).map .lst
def tupleF (ah : AH) : AV → Option AV
  | .tup xs => some (.tup xs)
  | a => (asL ah a).map .tup
def sumF (ah : AH) (a : AV) : Option AV := (asL ah a).bind fun xs => (asInts xs).map fun ns => .int ns.sum
def allF (ah : AH) (a : AV) : Option AV := (asL ah a).bind fun xs => (asBls xs).map fun ns => .bl (ns.all id)
def anyF (ah : AH) (a : AV) : Option AV := (asL ah a).bind fun xs => (asBls xs).map fun ns => .bl (ns.any id)
def absF : AV → Option AV
  | .int i => some (.int (if i < 0 then -i else i))
  | _ => none
def keyA : AV → Option Key
  | .int i => some (.inl i)
  | .str z => some (.inr z)
  | _ => none
def dictF (ah : AH) (a : AV) : Option AV := match asL ah a with
  | some [.tup [k, v]] => (keyA k).map fun q => .dct [(q, v)]
  | _ => none
inductive BI where
  | dict | len | repr | int | str | list | tuple | sum | all | any | abs | max | min
def BI.name : BI → Str
  | .dict => "dict"
  | .len => "len" | .repr => "repr" | .int => "int" | .str => "str" | .list => "list" | .tuple => "tuple"
  | .sum => "sum" | .all => "all" | .any => "any" | .abs => "abs" | .max => "max" | .min => "min"
def biF : BI → AH → List AV → Option AV
  | .dict, ah, [a] => dictF ah a
  | .len, ah, [a] => lenF ah a
  | .repr, ah, [a] => reprF ah a
  | .int, _, [a] => intF a
  | .str, _, [a] => strF a
  | .list, ah, [a] => listF ah a
  | .tuple, ah, [a] => tupleF ah a
  | .sum, ah, [a] => sumF ah a
  | .all, ah, [a] => allF ah a
  | .any, ah, [a] => anyF ah a
  | .abs, _, [a] => absF a
  | .max, _, [.int i, .int j] => some (.int (if j > i then j else i))
  | .min, _, [.int i, .int j] => some (.int (if j < i then j else i))
  | _, _, _ => none

/-- what the built-in functions ask of where they are called -/
structure Cal (X : Cx) : Prop where
  sm : SM X
  gd : X.A.guards = some []
  hu : X.A.units + 64 < cLine
  calm : X.calm = true

section
variable {X : Cx} {nm : Nm}
theorem rvs1 {K : PySem.W.Frag} {W : Wd} {a : AV} {ws : List V} (r : W.RVs K [a] ws) : ∃ w, ws = [w] ∧ W.RV K a w := by
  cases r with
  | cons h t => cases t; exact ⟨_, rfl, h⟩
theorem rvs2 {K : PySem.W.Frag} {W : Wd} {a b : AV} {ws : List V} (r : W.RVs K [a, b] ws) : ∃ w v, ws = [w, v] ∧ W.RV K a w ∧ W.RV K b v := by
  cases r with
  | cons h t =>
    obtain ⟨v, rfl, h2⟩ := rvs1 t
    exact ⟨_, v, rfl, h, h2⟩
/-- a one-place built-in -/
theorem bi1 {f : Value} {g : AH → AV → Option AV} {bi : AH → List AV → Option AV} (hb : ∀ ah xs c, bi ah xs = some c → ∃ a, xs = [a] ∧ g ah a = some c)
    (h : ∀ (pins : List (Addr × Obj)) (s : Shared) (σ : St) (H : Hp) (x : V) (u : Value) (Q : VK) (W : Wd) (ah : AH) (a c : AV), Inv X pins σ H s → RelV x u → RelH X.K nm W ah H → W.RV X.K a x → g ah a = some c →
      (∀ W' H' w, Step W H W' H' → RelH X.K nm W' ah H' → W'.RV X.K c w → Q w H') → wpAny (model X.prog X.w) X.A (call f [u]) (EP X pins σ Q) X.xe s) : CallR X f (rA nm X.K bi) := by
  rintro pins s σ H xs us Q I rx ⟨W, ah, as, c, R, ra, e, k⟩
  obtain ⟨a, rfl, e'⟩ := hb _ _ _ e
  obtain ⟨w, rfl, r1⟩ := rvs1 ra
  cases rx with
  | cons q t => cases t; exact h pins s σ H w _ Q W ah a c I q R r1 e' k
theorem rks_length {K : PySem.W.Frag} {fz : Hp} {io : List Addr} : ∀ {xs : List (Key × AV)} {vs : List (Key × V)}, RKs K fz io xs vs → vs.length = xs.length
  | _, _, .nil => rfl
  | _, _, .cons _ t => by simp [rks_length t]
theorem c_len : CallR X (.builtin "len") (rA nm X.K (biF .len)) := bi1 (g := lenF) (fun ah xs c e => by
    match xs, e with
    | [a], e => exact ⟨a, rfl, e⟩) fun pins s σ H x u Q W ah a c I rx R ra e k => by
  have fin := fun (n : Nat) (q : c = .int n) => k W H (.int n) (Step.refl _ _) R (by rw [q]; exact .int _)
  cases ra with
  | str z =>
    simp only [lenF] at e
    split at e
    · rename_i h
      cases e
      exact call_len pins s σ H [_] [u] Q I (.cons rx .nil) ⟨_, _, rfl, ⟨h, rfl⟩, fin _ rfl⟩
    · cases e
  | tup h r => cases e; exact call_len pins s σ H [_] [u] Q I (.cons rx .nil) ⟨_, _, rfl, .inr ⟨_, same_tup R.fz h, rfl⟩, fin _ (by rw [r.length])⟩
  | lst h r => cases e; exact call_len pins s σ H [_] [u] Q I (.cons rx .nil) ⟨_, _, rfl, .inl ⟨_, .inl (same_rd R.fz h), rfl⟩, fin _ (by rw [r.length])⟩
  | dct h r =>
    cases e
    exact call_lenD pins s σ H [_] [u] Q I (.cons rx .nil) ⟨_, _, rfl, R.fz _ _ h, fin _ (by rw [rks_length r])⟩
  | ref h =>
    simp only [lenF] at e
    split at e
    · rename_i q
      cases e
      obtain ⟨vs, h1, h2⟩ := R.at h q
      exact call_len pins s σ H [_] [u] Q I (.cons rx .nil) ⟨_, _, rfl, .inl ⟨_, SqL.of h1, rfl⟩, fin _ (by rw [h2.length])⟩
    · rename_i q
      cases e
      obtain ⟨vs, h1, h2⟩ := R.at h q
      exact call_lenD pins s σ H [_] [u] Q I (.cons rx .nil) ⟨_, _, rfl, h1, fin _ (by rw [rks_length h2])⟩
    · cases e
  | _ => cases e
theorem c_repr (C : Cal X) : CallR X (.builtin "repr") (rA nm X.K (biF .repr)) := bi1 (g := reprF) (fun ah xs c e => by
    match xs, e with
    | [a], e => exact ⟨a, rfl, e⟩) fun pins s σ H x u Q W ah a c I rx R ra e k => by
  unfold reprF at e
  simp only [Option.bind_eq_some_iff] at e
  obtain ⟨d, e1, e2⟩ := e
  split at e2
  · rename_i h
    cases e2
    obtain ⟨as, rd, nm'⟩ := readsH_of C.sm I R ra rx e1
    have fin : ∀ h' tk t, (∀ b o, s.heap.get? b = some o → h'.get? b = some o) → EP X pins σ Q (.str d.shown t) { s with heap := h', toks := tk } := fun h' tk t hk =>
      ⟨.str d.shown, H, I.kept hk, ⟨t, rfl⟩, k W H _ (Step.refl _ _) R (.str _)⟩
    have fin0 : ∀ t, EP X pins σ Q (.str d.shown t) { s with toks := s.toks + 1 } := fun t => fin s.heap _ t fun _ _ q => q
    cases rd with
    | none => exact PySem.P.repr_of_none (fin0 _)
    | bool b => exact PySem.P.repr_of_bool (fin0 _)
    | int i t => exact PySem.P.repr_of_int (of_decide_eq_true h.1) (fin0 _)
    | str z t => exact PySem.P.repr_of_str (fin0 _) h.2.1
    | list h1 h2 h3 h4 => exact repr_of_reads' (.list h1 h2 h3 h4) h.1 (fun _ => nm') C.gd (by have := C.hu; omega) (fun _ _ q => q) (fun h' t tk hk => fin h' tk t hk) h.2.1
    | tuple h1 h2 h3 h4 => exact repr_of_reads' (.tuple h1 h2 h3 h4) h.1 (fun _ => nm') C.gd (by have := C.hu; omega) (fun _ _ q => q) (fun h' t tk hk => fin h' tk t hk) h.2.1
    | dict h1 h2 h3 h4 h5 => exact repr_of_reads' (.dict h1 h2 h3 h4 h5) h.1 (fun _ => nm') C.gd (by have := C.hu; omega) (fun _ _ q => q) (fun h' t tk hk => fin h' tk t hk) h.2.1
  · cases e2
theorem c_int : CallR X (.type "int") (rA nm X.K (biF .int)) := bi1 (g := fun _ a => intF a) (fun ah xs c e => by
    match xs, e with
    | [a], e => exact ⟨a, rfl, e⟩) fun pins s σ H x u Q W ah a c I rx R ra e k => by
  cases ra with
  | int i => cases e; exact call_int1 pins s σ H [_] [u] Q I (.cons rx .nil) (.inl ⟨_, rfl, k W H _ (Step.refl _ _) R (.int _)⟩)
  | bl b => cases e; exact call_int1 pins s σ H [_] [u] Q I (.cons rx .nil) (.inr ⟨_, rfl, k W H _ (Step.refl _ _) R (.int _)⟩)
  | str z =>
    simp only [intF, Option.bind_eq_some_iff] at e
    obtain ⟨n, e1, e2⟩ := e
    split at e2
    · rename_i h
      cases e2
      exact call_int_str pins s σ H [_] [u] Q I (.cons rx .nil) ⟨_, _, rfl, e1, h, k W H _ (Step.refl _ _) R (.int _)⟩
    · cases e2
  | _ => cases e
theorem c_str : CallR X (.type "str") (rA nm X.K (biF .str)) := bi1 (g := fun _ a => strF a) (fun ah xs c e => by
    match xs, e with
    | [a], e => exact ⟨a, rfl, e⟩) fun pins s σ H x u Q W ah a c I rx R ra e k => by
  cases ra with
  | int i =>
    simp only [strF] at e
    split at e
    · rename_i h
      cases e
      exact call_str_int pins s σ H [_] [u] Q I (.cons rx .nil) ⟨_, rfl, h, k W H _ (Step.refl _ _) R (.str _)⟩
    · cases e
  | str z => cases e; exact SkE.call_str_str pins s σ H [_] [u] Q I (.cons rx .nil) ⟨_, rfl, k W H _ (Step.refl _ _) R (.str _)⟩
  | _ => cases e
theorem asKs_of {W : Wd} {ah : AH} {H : Hp} {a : AV} {w : V} {kvs : List (Key × AV)} (R : RelH X.K nm W ah H) (r : W.RV X.K a w) (e : asKs ah a = some kvs) : ∃ p ws, w = .ref p ∧ H p = some (.dK ws) ∧ RKs X.K W.fz W.io kvs ws := by
  cases r with
  | dct h r => cases e; exact ⟨_, _, rfl, R.fz _ _ h, r⟩
  | ref h =>
    simp only [asKs] at e
    split at e
    · rename_i q
      cases e
      obtain ⟨vs, h1, h2⟩ := R.at h q
      exact ⟨_, vs, rfl, h1, h2⟩
    · cases e
  | _ => cases e
theorem keys_of {K : PySem.W.Frag} {W : Wd} : ∀ {kvs : List (Key × AV)} {ws : List (Key × V)}, RKs K W.fz W.io kvs ws → W.RVs K (kvs.map fun kv => kA kv.1) (ws.map fun kv => kV kv.1)
  | _, _, .nil => .nil
  | _, _, .cons (k := k) r t => by
    refine .cons ?_ (keys_of t)
    cases k with
    | inl i => exact .int i
    | inr z => exact .str z
theorem c_list (C : Cal X) : CallR X (.type "list") (rA nm X.K (biF .list)) := bi1 (g := listF) (fun ah xs c e => by
    match xs, e with
    | [a], e => exact ⟨a, rfl, e⟩) fun pins s σ H x u Q W ah a c I rx R ra e k => by
  have new : ∀ (xs : List AV) (vs : List V), W.RVs X.K xs vs → c = .lst xs → ∀ l, H l = none → Q (.ref l) (upd H l (.lst vs)) := fun xs vs r ec l hl => by
    have st := Step.keep (o := .lst vs) R hl
    exact k _ _ _ st (R.keep hl) (by rw [ec]; exact .lst (Rd.of upd_same) (r.step st))
  unfold listF at e
  split at e
  · cases e
    cases ra with
    | tup h r => exact call_list_of pins s σ H [_] [u] Q I (.cons rx .nil) ⟨_, _, rfl, .inr (same_tup R.fz h), new _ _ r rfl⟩
  · split at e
    · rename_i q
      cases e
      obtain ⟨p, ws, rfl, h1, h2⟩ := asKs_of R ra q
      exact call_list_dK C.calm pins s σ H [_] [u] Q I (.cons rx .nil) ⟨_, _, rfl, h1, new _ _ (keys_of h2) rfl⟩
    · simp only [Option.map_eq_some_iff] at e
      obtain ⟨xs, e1, rfl⟩ := e
      obtain ⟨p, vs, rfl, h1, h2⟩ := asL_of R ra e1
      exact call_list_of pins s σ H [_] [u] Q I (.cons rx .nil) ⟨_, _, rfl, .inl (.inl h1), new _ _ h2 rfl⟩
theorem c_tuple : CallR X (.type "tuple") (rA nm X.K (biF .tuple)) := bi1 (g := tupleF) (fun ah xs c e => by
    match xs, e with
    | [a], e => exact ⟨a, rfl, e⟩) fun pins s σ H x u Q W ah a c I rx R ra e k => by
  unfold tupleF at e
  split at e
  · cases e
    cases ra with
    | tup h r => exact call_tuple_of pins s σ H [_] [u] Q I (.cons rx .nil) ⟨_, _, rfl, .inr ⟨same_tup R.fz h, k W H _ (Step.refl _ _) R (.tup h r)⟩⟩
  · simp only [Option.map_eq_some_iff] at e
    obtain ⟨xs, e1, rfl⟩ := e
    obtain ⟨p, vs, rfl, h1, h2⟩ := asL_of R ra e1
    refine call_tuple_of pins s σ H [_] [u] Q I (.cons rx .nil) ⟨_, _, rfl, .inl ⟨.inl h1, fun l hl => ?_⟩⟩
    have st := Step.keep (o := .tup vs) R hl
    exact k _ _ _ st (R.keep hl) (.tup (SqT.of upd_same) (h2.step st))
theorem c_dict (C : Cal X) : CallR X (.type "dict") (rA nm X.K (biF .dict)) := bi1 (g := dictF) (fun ah xs c e => by
    match xs, e with
    | [a], e => exact ⟨a, rfl, e⟩) fun pins s σ H x u Q W ah a c I rx R ra e k => by
  unfold dictF at e
  split at e
  · rename_i q v e1
    simp only [Option.map_eq_some_iff] at e
    obtain ⟨ky, e2, rfl⟩ := e
    obtain ⟨p, vs, rfl, h1, h2⟩ := asL_of R ra e1
    obtain ⟨v0, rfl, r0⟩ := rvs1 h2
    cases r0 with
    | tup h r =>
      obtain ⟨w1, w2, rfl, r1, r2⟩ := rvs2 r
      have ew : w1 = kV ky := by
        unfold keyA at e2
        split at e2
        · cases e2; cases r1; rfl
        · cases e2; cases r1; rfl
        · cases e2
      subst ew
      refine call_dictP C.calm pins s σ H [_] [u] Q I (.cons rx .nil) ⟨_, [_], [(ky, w2)], rfl, .inl h1, .cons (same_tup R.fz h) .nil, fun l hl => ?_⟩
      have st := Step.keep (o := .dK [(ky, w2)]) R hl
      exact k _ _ _ st (R.keep hl) (.dct upd_same (.cons (r2.step st) .nil))
  · cases e
theorem c_sum (C : Cal X) : CallR X (.builtin "sum") (rA nm X.K (biF .sum)) := bi1 (g := sumF) (fun ah xs c e => by
    match xs, e with
    | [a], e => exact ⟨a, rfl, e⟩) fun pins s σ H x u Q W ah a c I rx R ra e k => by
  simp only [sumF, Option.bind_eq_some_iff, Option.map_eq_some_iff] at e
  obtain ⟨xs, e1, ns, e2, rfl⟩ := e
  obtain ⟨p, vs, rfl, h1, h2⟩ := asL_of R ra e1
  obtain rfl := asInts_of h2 e2
  exact cr_sum C.calm pins s σ H [_] [u] Q I (.cons rx .nil) ⟨_, _, rfl, .inl h1, k W H _ (Step.refl _ _) R (.int _)⟩
theorem c_all (C : Cal X) : CallR X (.builtin "all") (rA nm X.K (biF .all)) := bi1 (g := allF) (fun ah xs c e => by
    match xs, e with
    | [a], e => exact ⟨a, rfl, e⟩) fun pins s σ H x u Q W ah a c I rx R ra e k => by
  simp only [allF, Option.bind_eq_some_iff, Option.map_eq_some_iff] at e
  obtain ⟨xs, e1, ns, e2, rfl⟩ := e
  obtain ⟨p, vs, rfl, h1, h2⟩ := asL_of R ra e1
  obtain rfl := asBls_of h2 e2
  exact cr_all C.calm pins s σ H [_] [u] Q I (.cons rx .nil) ⟨_, _, rfl, .inl h1, k W H _ (Step.refl _ _) R (.bl _)⟩
theorem c_any (C : Cal X) : CallR X (.builtin "any") (rA nm X.K (biF .any)) := bi1 (g := anyF) (fun ah xs c e => by
    match xs, e with
    | [a], e => exact ⟨a, rfl, e⟩) fun pins s σ H x u Q W ah a c I rx R ra e k => by
  simp only [anyF, Option.bind_eq_some_iff, Option.map_eq_some_iff] at e
  obtain ⟨xs, e1, ns, e2, rfl⟩ := e
  obtain ⟨p, vs, rfl, h1, h2⟩ := asL_of R ra e1
  obtain rfl := asBls_of h2 e2
  exact cr_any C.calm pins s σ H [_] [u] Q I (.cons rx .nil) ⟨_, _, rfl, .inl h1, k W H _ (Step.refl _ _) R (.bl _)⟩
theorem c_abs : CallR X (.builtin "abs") (rA nm X.K (biF .abs)) := bi1 (g := fun _ a => absF a) (fun ah xs c e => by
    match xs, e with
    | [a], e => exact ⟨a, rfl, e⟩) fun pins s σ H x u Q W ah a c I rx R ra e k => by
  cases ra with
  | int i => cases e; exact call_abs pins s σ H [_] [u] Q I (.cons rx .nil) ⟨_, rfl, k W H _ (Step.refl _ _) R (.int _)⟩
  | _ => cases e
theorem c_max (C : Cal X) : CallR X (.builtin "max") (rA nm X.K (biF .max)) := by
  rintro pins s σ H xs us Q I rx ⟨W, ah, as, c, R, ra, e, k⟩
  match as, e with
  | [.int i, .int j], e =>
    cases e
    obtain ⟨_, _, rfl, r1, r2⟩ := rvs2 ra
    cases r1; cases r2
    exact call_max2 C.calm pins s σ H _ us Q I rx ⟨_, _, rfl, k W H _ (Step.refl _ _) R (.int _)⟩
theorem c_min (C : Cal X) : CallR X (.builtin "min") (rA nm X.K (biF .min)) := by
  rintro pins s σ H xs us Q I rx ⟨W, ah, as, c, R, ra, e, k⟩
  match as, e with
  | [.int i, .int j], e =>
    cases e
    obtain ⟨_, _, rfl, r1, r2⟩ := rvs2 ra
    cases r1; cases r2
    exact call_min2 C.calm pins s σ H _ us Q I rx ⟨_, _, rfl, k W H _ (Step.refl _ _) R (.int _)⟩
/-- a call of a built-in by its name -/
theorem ev_bi (C : Cal X) {Wx : WX} (b : BI) {e : Expr} {es : List Expr} {fa : Rho → AH → Ot (List AV)} {p pos : Pos} (hg : Gl X b.name) (hm : X.mg b.name = none) (ha : EA nm X Wx (e :: es) fa)
    (he : starEach (e :: es) X.env = (false, eval e X.env) :: starEach es X.env) (hpl : (backTo pos (starEach es X.env)).any (·.1) = false) : EV nm X Wx (.Call (.Name b.name p) (e :: es) [] pos) (fA (biF b) fa) := by
  have go : ∀ {t : TE}, PE X (.Call (.Name b.name p) (e :: es) [] pos) (tCB (rA nm X.K (biF b)) (TrA nm X.K Wx fa)) → EV nm X Wx (.Call (.Name b.name p) (e :: es) [] pos) (fA (biF b) fa) := fun {t} h =>
    PE.weak h fun σ H Q ⟨W, ρ, ah, rh, rs, p⟩ => TrA.seqB rh rs p fun xs ah1 W1 H1 vs s1 R1 S1 v1 p1 => by
      obtain ⟨c, e, k⟩ := p1.of
      exact ⟨W1, ah1, xs, c, R1, v1, e, fun W' H' w s R r => k W' H' s R w r⟩
  cases b with
  | dict => exact go (t := tVar 0) (pe_callTy (c_dict C) hg hm (by decide +kernel) ha (by decide) (by decide) he hpl)
  | len => exact go (t := tVar 0) (pe_callB c_len hg hm (by decide +kernel) ha (by decide) (by decide) he hpl)
  | repr => exact go (t := tVar 0) (pe_callB (c_repr C) hg hm (by decide +kernel) ha (by decide) (by decide) he hpl)
  | int => exact go (t := tVar 0) (pe_callTy c_int hg hm (by decide +kernel) ha (by decide) (by decide) he hpl)
  | str => exact go (t := tVar 0) (pe_callTy c_str hg hm (by decide +kernel) ha (by decide) (by decide) he hpl)
  | list => exact go (t := tVar 0) (pe_callTy (c_list C) hg hm (by decide +kernel) ha (by decide) (by decide) he hpl)
  | tuple => exact go (t := tVar 0) (pe_callTy c_tuple hg hm (by decide +kernel) ha (by decide) (by decide) he hpl)
  | sum => exact go (t := tVar 0) (pe_callB (c_sum C) hg hm (by decide +kernel) ha (by decide) (by decide) he hpl)
  | all => exact go (t := tVar 0) (pe_callB (c_all C) hg hm (by decide +kernel) ha (by decide) (by decide) he hpl)
  | any => exact go (t := tVar 0) (pe_callB (c_any C) hg hm (by decide +kernel) ha (by decide) (by decide) he hpl)
  | abs => exact go (t := tVar 0) (pe_callB c_abs hg hm (by decide +kernel) ha (by decide) (by decide) he hpl)
  | max => exact go (t := tVar 0) (pe_callB (c_max C) hg hm (by decide +kernel) ha (by decide) (by decide) he hpl)
  | min => exact go (t := tVar 0) (pe_callB (c_min C) hg hm (by decide +kernel) ha (by decide) (by decide) he hpl)
end
end Ko

/-! Ko, part F: subscripts, slices, isinstance, methods of texts. -/
namespace Ko
open PySem L2

/-! ### the text around -/
def notSt : Expr → Bool | .Starred .. => false | _ => true
theorem star_cons {e : Expr} {es : List Expr} {env : Env} (h : notSt e = true) : starEach (e :: es) env = (false, eval e env) :: starEach es env := by
  cases e <;> first | rfl | exact absurd h Bool.false_ne_true
theorem star_plain (pos : Pos) (env : Env) : ∀ {es : List Expr}, es.all notSt = true → (backTo pos (starEach es env)).any (·.1) = false
  | [], _ => rfl
  | e :: es, h => by
    rw [List.all_cons, Bool.and_eq_true] at h
    rw [star_cons h.1]
    show (false || (backTo pos (starEach es env)).any (·.1)) = false
    rw [star_plain pos env h.2]; rfl
def plainBase : Expr → Bool | .Call _ [] [] _ => false | _ => true
theorem base_of {o : Expr} {attr : Str} {env : Env} {w : Sem Value} (h : plainBase o = true) : attributeBase o attr env w = w := by
  unfold attributeBase
  split
  · exact absurd h Bool.false_ne_true
  · rfl
def noSlice : Expr → Bool | .Slice .. => false | _ => true
theorem plainIx_of {b : Expr} (h : noSlice b = true) : PlainIx b := fun o i => by
  cases b <;> first | rfl | exact absurd h Bool.false_ne_true

/-! ### a[i] -/
def ixF (ah : AH) (a i : AV) : Option AV := match i with
  | .int k => match a with
    | .tup xs => atI xs k
    | .str z => if z.length ≤ sizeLine then (atI z.cps.toList k).map fun c => .str ⟨#[c]⟩ else none
    | a => (asL ah a).bind fun xs => atI xs k
  | _ => none
section
variable {X : Cx} {nm : Nm} {Wx : WX}
theorem atI_rvs {K : PySem.W.Frag} {W : Wd} {xs : List AV} {vs : List V} {k : Int} {c : AV} (r : W.RVs K xs vs) (e : atI xs k = some c) : ∃ v, atI vs k = some v ∧ W.RV K c v := by
  unfold atI at e ⊢
  rw [r.length]
  cases q : ixN xs.length k with
  | none => rw [q] at e; cases e
  | some j =>
    rw [q] at e
    exact r.get e
theorem ix_F : IxR X (r2 nm X.K ixF) := by
  rintro value slice pins s σ H x y v u Q I rx ry ⟨W, ah, a, i, c, R, ra, ri, e, k⟩ hs
  unfold ixF at e
  split at e
  · cases ri
    split at e
    · cases ra with
      | tup h r =>
        obtain ⟨w, h1, h2⟩ := atI_rvs r e
        exact ix_tup value slice pins s σ H _ _ v u Q I rx ry ⟨_, _, _, w, rfl, rfl, same_tup R.fz h, h1, k W H _ (Step.refl _ _) R h2⟩ hs
    · cases ra
      split at e
      · rename_i h
        simp only [Option.map_eq_some_iff] at e
        obtain ⟨c0, e1, rfl⟩ := e
        exact ix_str value slice pins s σ H _ _ v u Q I rx ry ⟨_, _, c0, rfl, rfl, h, e1, k W H _ (Step.refl _ _) R (.str _)⟩ hs
      · cases e
    · simp only [Option.bind_eq_some_iff] at e
      obtain ⟨xs, e1, e2⟩ := e
      obtain ⟨p, vs, rfl, h1, h2⟩ := asL_of R ra e1
      obtain ⟨w, h3, h4⟩ := atI_rvs h2 e2
      exact ix_list value slice pins s σ H _ _ v u Q I rx ry ⟨_, _, _, w, rfl, rfl, .inl h1, h3, k W H _ (Step.refl _ _) R h4⟩ hs
  · cases e
theorem ev_sub {a b : Expr} {fa fb : Rho → AH → Ot AV} {pos : Pos} (ha : EV nm X Wx a fa) (hb : EV nm X Wx b fb) (hs : noSlice b = true) : EV nm X Wx (.Subscript a b pos) (f2 ixF fa fb) := by
  refine PE.weak (pe_ix (ix_F (nm := nm)) ha hb (plainIx_of hs)) fun σ H Q ⟨W, ρ, ah, rh, rs, p⟩ => ?_
  refine TrE.seq rh rs p fun x ah1 W1 H1 w1 s1 R1 S1 v1 p1 => TrE.seq R1 S1 p1 fun y ah2 W2 H2 w2 s2 R2 S2 v2 p2 => ?_
  obtain ⟨c, e, k⟩ := p2.of
  exact ⟨W2, ah2, x, y, c, R2, v1.step s2, v2, e, fun W' H' w s R r => k W' H' s R w r⟩

/-! ### a[lo:hi] -/
def cutA (xs : List AV) (lo hi : Option Int) : List AV := (xs.drop (HT.sIx xs.length 0 lo)).take (HT.sIx xs.length xs.length hi - HT.sIx xs.length 0 lo)
def slF (ah : AH) (a : AV) (lo hi : Option Int) : Option AV := match a with
  | .tup xs => some (.tup (cutA xs lo hi))
  | .str z => if z.length ≤ sizeLine then some (.str (cutS z lo hi)) else none
  | a => (asL ah a).map fun xs => .lst (cutA xs lo hi)
theorem cut_rvs {K : PySem.W.Frag} {W : Wd} {xs : List AV} {vs : List V} (r : W.RVs K xs vs) (lo hi : Option Int) : W.RVs K (cutA xs lo hi) (cutV vs lo hi) := by
  unfold cutA cutV
  rw [r.length]
  exact (r.drop _).take _
def rSl (nm : Nm) (K : PySem.W.Frag) : V → Option Int → Option Int → Hp → VK → Prop := fun x lo hi H Q => ∃ W ah a c, RelH K nm W ah H ∧ W.RV K a x ∧ slF ah a lo hi = some c ∧ ∀ W' H' w, Step W H W' H' → RelH K nm W' ah H' → W'.RV K c w → Q w H'
theorem whole_cut {xs : List AV} {lo hi : Option Int} (h : HT.sIx xs.length 0 lo = 0 ∧ HT.sIx xs.length xs.length hi = xs.length) : cutA xs lo hi = xs := by
  unfold cutA
  rw [h.1, h.2]; simp
theorem sl_F : SlR X (rSl nm X.K) := by
  rintro pins s σ H x v vl vu lo hi sl Q I rx hs pl pu ⟨W, ah, a, c, R, ra, e, k⟩
  unfold slF at e
  split at e
  · cases e
    cases ra with
    | tup h r =>
      rename_i p vs
      refine sl_tupA pins s σ H _ v vl vu lo hi sl Q I rx hs pl pu ⟨p, vs, rfl, same_tup R.fz h, fun hw => ?_, fun _ q hq => ?_⟩
      · rw [r.length] at hw
        exact k W H _ (Step.refl _ _) R (by rw [whole_cut hw]; exact .tup h r)
      · have st := Step.keep (o := .tup (cutV vs lo hi)) R hq
        exact k _ _ _ st (R.keep hq) (.tup (SqT.of upd_same) ((cut_rvs r lo hi).step st))
  · cases ra
    split at e
    · rename_i h
      cases e
      exact sl_str pins s σ H _ v vl vu lo hi sl Q I rx hs pl pu ⟨_, rfl, h, k W H _ (Step.refl _ _) R (.str _)⟩
    · cases e
  · simp only [Option.map_eq_some_iff] at e
    obtain ⟨xs, e1, rfl⟩ := e
    obtain ⟨p, vs, rfl, h1, h2⟩ := asL_of R ra e1
    refine sl_list pins s σ H _ v vl vu lo hi sl Q I rx hs pl pu ⟨p, vs, rfl, .inl h1, fun q hq => ?_⟩
    have st := Step.keep (o := .lst (cutV vs lo hi)) R hq
    exact k _ _ _ st (R.keep hq) (.lst (Rd.of upd_same) ((cut_rvs h2 lo hi).step st))
/-- a part of a slice -/
def pNone : Rho → AH → Ot (Option Int) := fun _ ah => .ok none ah
def asI : AV → Option Int | .int i => some i | _ => none
def pSome (a : Rho → AH → Ot AV) : Rho → AH → Ot (Option Int) := fun ρ ah => (a ρ ah).bind fun x ah1 => match asI x with | some i => .ok (some i) ah1 | none => .st
def TrO (nm : Nm) (K : PySem.W.Frag) (Wx : WX) (f : Rho → AH → Ot (Option Int)) : TO := fun σ H Q => ∃ W ρ ah, RelH K nm W ah H ∧ RS K W ρ σ ∧ Post K nm W H (f ρ ah) (fun v _ W' H' => Q v H') (xw K nm Wx σ)
abbrev EO (nm : Nm) (X : Cx) (Wx : WX) (e : Option Expr) (f : Rho → AH → Ot (Option Int)) : Prop := PO X e (TrO nm X.K Wx f)
theorem PO.weak {X : Cx} {e : Option Expr} {t t' : TO} (h : PO X e t) (w : ∀ σ H Q, t' σ H Q → t σ H Q) : PO X e t' := ⟨fun pins s σ H Q I q => h.run pins s σ H Q I (w σ H Q q)⟩
theorem eo_none : EO nm X Wx none pNone := PO.weak po_none fun σ H Q ⟨W, ρ, ah, rh, rs, p⟩ => p W H (Step.refl _ _) rh
theorem eo_some {e : Expr} {fa : Rho → AH → Ot AV} (ha : EV nm X Wx e fa) : EO nm X Wx (some e) (pSome fa) := by
  refine PO.weak (po_some ha) fun σ H Q ⟨W, ρ, ah, rh, rs, p⟩ => ?_
  refine TrE.seqB rh rs p fun x ah1 W1 H1 w1 s1 R1 S1 v1 p1 => ?_
  cases v1 <;> first | exact ⟨_, rfl, p1 W1 H1 (Step.refl _ _) R1⟩ | exact False.elim p1
def slcF (a : Rho → AH → Ot AV) (lo hi : Rho → AH → Ot (Option Int)) : Rho → AH → Ot AV := fun ρ ah => (a ρ ah).bind fun x ah1 => (lo ρ ah1).bind fun l ah2 => (hi ρ ah2).bind fun h ah3 => Ot.of (slF ah3 x l h) ah3
theorem TrO.seqB {K : PySem.W.Frag} {f : Rho → AH → Ot (Option Int)} {β : Type} {g : Option Int → AH → Ot β} {σ : St} {H : Hp} {R : Option Int → Hp → Prop} {W : Wd} {ρ : Rho} {ah : AH} {k : β → AH → Wd → Hp → Prop} (rh : RelH K nm W ah H) (rs : RS K W ρ σ)
    (p : Post K nm W H ((f ρ ah).bind g) k (xw K nm Wx σ))
    (h : ∀ a ah1 W1 H1, Step W H W1 H1 → RelH K nm W1 ah1 H1 → RS K W1 ρ σ → Post K nm W1 H1 (g a ah1) k (xw K nm Wx σ) → R a H1) : TrO nm K Wx f σ H R :=
  ⟨W, ρ, ah, rh, rs, p.bind.imp (fun a ah1 W1 H1 s R1 q => h a ah1 W1 H1 s R1 (rs.step s) q) fun _ _ _ _ _ _ q => q⟩
theorem ev_slc {a : Expr} {lo hi : Option Expr} {p2 pos : Pos} {fa : Rho → AH → Ot AV} {fl fh : Rho → AH → Ot (Option Int)} (ha : EV nm X Wx a fa) (hl : EO nm X Wx lo fl) (hh : EO nm X Wx hi fh) : EV nm X Wx (.Subscript a (.Slice lo hi none p2) pos) (slcF fa fl fh) := by
  refine PE.weak (pe_slice (sl_F (nm := nm)) ha hl hh) fun σ H Q ⟨W, ρ, ah, rh, rs, p⟩ => ?_
  refine TrE.seqB rh rs p fun x ah1 W1 H1 w1 s1 R1 S1 v1 p1 => TrO.seqB R1 S1 p1 fun l ah2 W2 H2 s2 R2 S2 p2 => TrO.seqB R2 S2 p2 fun h ah3 W3 H3 s3 R3 S3 p3 => ?_
  obtain ⟨c, e, k⟩ := p3.of
  exact ⟨W3, ah3, x, c, R3, (v1.step s2).step s3, e, fun W' H' w s R r => k W' H' s R w r⟩

/-! ### isinstance -/
inductive Ty where
  | bool | int | str | tuple | list | dict
  deriving DecidableEq
def Ty.name : Ty → Str
  | .bool => "bool" | .int => "int" | .str => "str" | .tuple => "tuple" | .list => "list" | .dict => "dict"
def Ty.tn : Ty → String
  | .bool => "bool" | .int => "int" | .str => "str" | .tuple => "tuple" | .list => "list" | .dict => "dict"
def tyA (ah : AH) : AV → Option String
  | .non => some "NoneType"
  | .bl _ => some "bool"
  | .int _ => some "int"
  | .str _ => some "str"
  | .tup _ => some "tuple"
  | .lst _ => some "list"
  | .dct _ => some "dict"
  | .ref n => match ah[n]? with
    | some (.lst _) => some "list"
    | some (.dct _) => some "dict"
    | _ => none
def isTy (t : String) (u : Ty) : Bool := match t, u with
  | "bool", .bool => true
  | "bool", .int => true
  | "int", .int => true
  | "str", .str => true
  | "tuple", .tuple => true
  | "list", .list => true
  | "dict", .dict => true
  | _, _ => false
theorem isTy_kit (K : PySem.W.Frag) {ah : AH} {a : AV} {t : String} (h : tyA ah a = some t) (u : Ty) : PySem.W.kitOne K (.type t) (.type u.tn) = some (isTy t u) := by
  have key : t = "NoneType" ∨ t = "bool" ∨ t = "int" ∨ t = "str" ∨ t = "tuple" ∨ t = "list" ∨ t = "dict" := by
    unfold tyA at h
    split at h <;> first | (cases h; simp; done) | skip
    split at h <;> first | (cases h; simp; done) | cases h
  rcases key with rfl | rfl | rfl | rfl | rfl | rfl | rfl <;> cases u <;> exact kit_ty (by decide +kernel)
theorem tyX_of {W : Wd} {ah : AH} {H : Hp} {a : AV} {w : V} {t : String} (R : RelH X.K nm W ah H) (r : W.RV X.K a w) (e : tyA ah a = some t) : TyX X.K H w (.type t) := by
  cases r with
  | non => cases e; exact .base .non
  | bl b => cases e; exact .base (.bl b)
  | int b => cases e; exact .base (.int b)
  | str b => cases e; exact .base (.str b)
  | tup h r =>
    cases e
    rcases same_tup R.fz h with (h | ⟨o, h⟩) | ⟨o, its, n, h, hc, _⟩
    · exact .base (.tup h)
    · exact .fTuple h
    · exact .kTuple h hc
  | lst h r =>
    cases e
    rcases same_rd R.fz h with h | ⟨o, h⟩
    · exact .base (.lst h)
    · exact .base (.frz h)
  | dct h r => cases e; exact .base (.dK (R.fz _ _ h))
  | ref h =>
    simp only [tyA] at e
    split at e
    · rename_i q
      cases e
      obtain ⟨vs, h1, h2⟩ := R.at h q
      exact .base (.lst h1)
    · rename_i q
      cases e
      obtain ⟨vs, h1, h2⟩ := R.at h q
      exact .base (.dK h1)
    · cases e
def isiF (ts : List Ty) (a : Rho → AH → Ot AV) : Rho → AH → Ot AV := f1 (fun ah x => (tyA ah x).map fun t => .bl (ts.any (isTy t))) a
theorem boot_ty (u : Ty) : bootBuiltins u.name = some (.type u.tn) := by cases u <;> decide +kernel
theorem pe_ty (u : Ty) {pos : Pos} (hg : Gl X u.name) (hm : X.mg u.name = none) : PE X (.Name u.name pos) (tC (.ty u.tn)) :=
  pe_bltn hg hm (boot_ty u) rfl (by cases u <;> decide) (by cases u <;> decide)
theorem ev_isi1 {a : Expr} {fa : Rho → AH → Ot AV} {u : Ty} {p p1 pos : Pos} (hg : Gl X "isinstance") (hm : X.mg "isinstance" = none) (hgu : Gl X u.name) (hmu : X.mg u.name = none) (ha : EV nm X Wx a fa) (hst : notSt a = true) :
    EV nm X Wx (.Call (.Name "isinstance" p) [a, .Name u.name p1] [] pos) (isiF [u] fa) := by
  refine PE.weak (pe_callB call_isi hg hm (by decide +kernel) (pa_cons ha (pa_cons (pe_ty u hgu hmu) pa_nil) (star_cons hst)) (by decide) (by decide) (star_cons hst) rfl) fun σ H Q ⟨W, ρ, ah, rh, rs, p⟩ => ?_
  refine TrE.seqB rh rs p fun x ah1 W1 H1 w1 s1 R1 S1 v1 p1 => ?_
  obtain ⟨c, e, k⟩ := p1.of
  simp only [Option.map_eq_some_iff] at e
  obtain ⟨t, e1, rfl⟩ := e
  refine ⟨w1, .ty u.tn, .type t, .type u.tn, _, rfl, .ty _, tyX_of R1 v1 e1, isTy_kit X.K e1 u, ?_⟩
  have q := k W1 H1 (Step.refl _ _) R1 _ (.bl _)
  simpa using q
theorem ev_isi2 {a : Expr} {fa : Rho → AH → Ot AV} {u u' : Ty} {k0 : Nat} {p p1 p2 p3 pos : Pos} (hg : Gl X "isinstance") (hm : X.mg "isinstance" = none) (hgu : Gl X u.name) (hmu : X.mg u.name = none) (hgv : Gl X u'.name) (hmv : X.mg u'.name = none) (ha : EV nm X Wx a fa) (hst : notSt a = true) :
    EV nm X Wx (.Call (.Name "isinstance" p) [a, .Tuple [.Name u.name p1, .Name u'.name p2] k0 p3] [] pos) (isiF [u, u'] fa) := by
  refine PE.weak (pe_callB call_isiT hg hm (by decide +kernel) (pa_cons ha (pa_cons (pe_tup (pa_cons (pe_ty u hgu hmu) (pa_cons (pe_ty u' hgv hmv) pa_nil))) pa_nil) (star_cons hst)) (by decide) (by decide) (star_cons hst) rfl) fun σ H Q ⟨W, ρ, ah, rh, rs, p⟩ => ?_
  refine TrE.seqB rh rs p fun x ah1 W1 H1 w1 s1 R1 S1 v1 p1 => ?_
  obtain ⟨c, e, k⟩ := p1.of
  simp only [Option.map_eq_some_iff] at e
  obtain ⟨t, e1, rfl⟩ := e
  refine ⟨(by show 2 ≤ sizeLine; decide), fun l hl => ?_⟩
  have st := Step.keep (o := .tup [.ty u.tn, .ty u'.tn]) R1 hl
  have R2 := R1.keep (o := .tup [.ty u.tn, .ty u'.tn]) hl
  refine ⟨w1, l, [.ty u.tn, .ty u'.tn], .type t, [.type u.tn, .type u'.tn], (isTy t u || isTy t u'), rfl, upd_same, .cons (.ty _) (.cons (.ty _) .nil), tyX_of R2 (v1.step st) e1, ?_, ?_⟩
  · refine kitAny_cons (isTy_kit X.K e1 u) (fun h => kitAny_cons (isTy_kit X.K e1 u') (fun h2 => ?_) fun h2 => ?_) fun h => ?_
    · rw [h, h2]; exact kitAny_nil
    · rw [h2]; simp
    · rw [h]; rfl
  · have q := k _ _ st R2 _ (.bl _)
    simpa using q

/-! ### methods of texts -/
inductive MI where
  | isascii | isprintable | isalpha | islower | isdigit | join | count | startswith | endswith | zfill | stripC
def MI.name : MI → Str
  | .isascii => "isascii" | .isprintable => "isprintable" | .isalpha => "isalpha" | .islower => "islower" | .isdigit => "isdigit" | .join => "join" | .count => "count"
  | .startswith => "startswith" | .endswith => "endswith" | .zfill => "zfill" | .stripC => "strip"
def miF (m : MI) (ah : AH) : AV → List AV → Option AV
  | .str z, [] => match m with
    | .isascii => some (.bl (Txt.isascii z))
    | .isprintable => some (.bl (Txt.isprintable z))
    | .isalpha => some (.bl (Txt.isalpha z))
    | .islower => some (.bl (Txt.islower z))
    | .isdigit => some (.bl (Txt.isdigit z))
    | _ => none
  | .str z, [a] => match m, a with
    | .join, a => (asL ah a).bind fun xs => (asStrs xs).bind fun ys => if (ys.map (·.length)).sum + ys.length * z.length ≤ 16777216 then some (.str (Txt.join z ys)) else none
    | .count, .str y => some (.int (Txt.count z y))
    | .startswith, .str y => some (.bl (Txt.startswith z y))
    | .endswith, .str y => some (.bl (Txt.endswith z y))
    | .zfill, .int i => if PadOk i = true then some (.str (Txt.zfill z i)) else none
    | .stripC, .str y => if z.length ≤ sizeLine then some (.str (Txt.stripChars z y)) else none
    | _, _ => none
  | _, _ => none
def rM (nm : Nm) (K : PySem.W.Frag) (g : AH → AV → List AV → Option AV) : V → List V → Hp → VK → Prop := fun x xs H Q => ∃ W ah a as c, RelH K nm W ah H ∧ W.RV K a x ∧ W.RVs K as xs ∧ g ah a as = some c ∧ ∀ W' H' w, Step W H W' H' → RelH K nm W' ah H' → W'.RV K c w → Q w H'
def meF (g : AH → AV → List AV → Option AV) (o : Rho → AH → Ot AV) (a : Rho → AH → Ot (List AV)) : Rho → AH → Ot AV := fun ρ ah => (o ρ ah).bind fun x ah1 => (a ρ ah1).bind fun xs ah2 => Ot.of (g ah2 x xs) ah2
theorem mi_str {m : MI} {ah : AH} {a c : AV} {as : List AV} (e : miF m ah a as = some c) : ∃ z, a = .str z := by
  unfold miF at e
  split at e
  · exact ⟨_, rfl⟩
  · exact ⟨_, rfl⟩
  · cases e
theorem mi0 {m : MI} {id : String} {g : Str → V} {C : Str → Prop} (h : MtR X id (fun x xs H Q => ∃ a, x = .str a ∧ xs = [] ∧ C a ∧ Q (g a) H)) (hg : ∀ ah z as c, miF m ah (.str z) as = some c → as = [] ∧ C z ∧ ∀ W : Wd, W.RV X.K c (g z)) : MtR X id (rM nm X.K (miF m)) := by
  rintro pins s σ H x xs v us Q I rx rs ⟨W, ah, a, as, c, R, ra, rs', e, k⟩
  obtain ⟨z, rfl⟩ := mi_str e
  cases ra
  obtain ⟨rfl, h1, h2⟩ := hg _ _ _ _ e
  cases rs'
  exact h pins s σ H _ _ v us Q I rx rs ⟨z, rfl, rfl, h1, k W H _ (Step.refl _ _) R (h2 W)⟩
theorem mi1 {m : MI} {id : String} {g : Str → Str → V} {C : Str → Str → Prop} (h : MtR X id (fun x xs H Q => ∃ a b, x = .str a ∧ xs = [.str b] ∧ C a b ∧ Q (g a b) H)) (hg : ∀ ah z as c, miF m ah (.str z) as = some c → ∃ y, as = [.str y] ∧ C z y ∧ ∀ W : Wd, W.RV X.K c (g z y)) : MtR X id (rM nm X.K (miF m)) := by
  rintro pins s σ H x xs v us Q I rx rs ⟨W, ah, a, as, c, R, ra, rs', e, k⟩
  obtain ⟨z, rfl⟩ := mi_str e
  cases ra
  obtain ⟨y, rfl, h1, h2⟩ := hg _ _ _ _ e
  obtain ⟨w, rfl, r1⟩ := rvs1 rs'
  cases r1
  exact h pins s σ H _ _ v us Q I rx rs ⟨z, y, rfl, rfl, h1, k W H _ (Step.refl _ _) R (h2 W)⟩
theorem no_args0 {m : MI} {ah : AH} {z : Str} {as : List AV} {c : AV} (e : miF m ah (.str z) as = some c) (h : m = .isascii ∨ m = .isprintable ∨ m = .isalpha ∨ m = .islower ∨ m = .isdigit) : as = [] := by
  match as, e with
  | [], _ => rfl
  | [a], e => rcases h with rfl | rfl | rfl | rfl | rfl <;> cases e
  | _ :: _ :: _, e => cases e
end
end Ko

/-! Ko, part G: methods of texts, called. -/
namespace Ko
open PySem L2
section
variable {X : Cx} {nm : Nm} {Wx : WX}
theorem m_ascii : MtR X "str.isascii" (rM nm X.K (miF .isascii)) := mi0 (C := fun _ => True) mt_isascii fun ah z as c e => by
  obtain rfl := no_args0 e (by simp); cases e; exact ⟨rfl, trivial, fun _ => .bl _⟩
theorem m_print : MtR X "str.isprintable" (rM nm X.K (miF .isprintable)) := mi0 (C := fun _ => True) mt_isprintable fun ah z as c e => by
  obtain rfl := no_args0 e (by simp); cases e; exact ⟨rfl, trivial, fun _ => .bl _⟩
theorem m_alpha : MtR X "str.isalpha" (rM nm X.K (miF .isalpha)) := mi0 (C := fun _ => True) mt_isalpha fun ah z as c e => by
  obtain rfl := no_args0 e (by simp); cases e; exact ⟨rfl, trivial, fun _ => .bl _⟩
theorem m_lower : MtR X "str.islower" (rM nm X.K (miF .islower)) := mi0 (C := fun _ => True) mt_islower fun ah z as c e => by
  obtain rfl := no_args0 e (by simp); cases e; exact ⟨rfl, trivial, fun _ => .bl _⟩
theorem m_digit : MtR X "str.isdigit" (rM nm X.K (miF .isdigit)) := mi0 (C := fun _ => True) mt_isdigit fun ah z as c e => by
  obtain rfl := no_args0 e (by simp); cases e; exact ⟨rfl, trivial, fun _ => .bl _⟩
theorem one_arg {m : MI} {ah : AH} {z : Str} {as : List AV} {c : AV} (e : miF m ah (.str z) as = some c) (h : m = .join ∨ m = .count ∨ m = .startswith ∨ m = .endswith ∨ m = .zfill ∨ m = .stripC) : ∃ a, as = [a] := by
  match as, e with
  | [], e => rcases h with rfl | rfl | rfl | rfl | rfl | rfl <;> cases e
  | [a], e => exact ⟨a, rfl⟩
  | _ :: _ :: _, e => cases e
theorem m_count : MtR X "str.count" (rM nm X.K (miF .count)) := mi1 (g := fun a b => .int (Txt.count a b)) (C := fun _ _ => True) (fun pins s σ H x xs v us Q I rx rs ⟨a, b, h1, h2, _, q⟩ => mt_count pins s σ H x xs v us Q I rx rs ⟨a, b, h1, h2, q⟩) fun ah z as c e => by
  obtain ⟨a, rfl⟩ := one_arg e (by simp)
  cases a <;> first | (cases e; exact ⟨_, rfl, trivial, fun _ => .int _⟩) | cases e
theorem m_starts : MtR X "str.startswith" (rM nm X.K (miF .startswith)) := mi1 (g := fun a b => .bl (Txt.startswith a b)) (C := fun _ _ => True) (fun pins s σ H x xs v us Q I rx rs ⟨a, b, h1, h2, _, q⟩ => mt_startswith pins s σ H x xs v us Q I rx rs ⟨a, b, h1, h2, q⟩) fun ah z as c e => by
  obtain ⟨a, rfl⟩ := one_arg e (by simp)
  cases a <;> first | (cases e; exact ⟨_, rfl, trivial, fun _ => .bl _⟩) | cases e
theorem m_ends : MtR X "str.endswith" (rM nm X.K (miF .endswith)) := mi1 (g := fun a b => .bl (Txt.endswith a b)) (C := fun _ _ => True) (fun pins s σ H x xs v us Q I rx rs ⟨a, b, h1, h2, _, q⟩ => mt_endswith pins s σ H x xs v us Q I rx rs ⟨a, b, h1, h2, q⟩) fun ah z as c e => by
  obtain ⟨a, rfl⟩ := one_arg e (by simp)
  cases a <;> first | (cases e; exact ⟨_, rfl, trivial, fun _ => .bl _⟩) | cases e
theorem m_strip : MtR X "str.strip" (rM nm X.K (miF .stripC)) := mi1 (g := fun a b => .str (Txt.stripChars a b)) (C := fun a _ => a.length ≤ sizeLine) mt_stripChars fun ah z as c e => by
  obtain ⟨a, rfl⟩ := one_arg e (by simp)
  cases a with
  | str y =>
    have e' : (if z.length ≤ sizeLine then some (AV.str (Txt.stripChars z y)) else none) = some c := e
    split at e'
    · rename_i h; cases e'; exact ⟨y, rfl, h, fun _ => .str _⟩
    · cases e'
  | _ => cases e
theorem m_zfill : MtR X "str.zfill" (rM nm X.K (miF .zfill)) := by
  rintro pins s σ H x xs v us Q I rx rs ⟨W, ah, a, as, c, R, ra, rs', e, k⟩
  obtain ⟨z, rfl⟩ := mi_str e
  cases ra
  obtain ⟨a, rfl⟩ := one_arg e (by simp)
  obtain ⟨w, rfl, r1⟩ := rvs1 rs'
  cases a with
  | int i =>
    cases r1
    have e' : (if PadOk i = true then some (AV.str (Txt.zfill z i)) else none) = some c := e
    split at e'
    · rename_i h
      cases e'
      exact mt_zfill pins s σ H _ _ v us Q I rx rs ⟨z, i, rfl, rfl, h, k W H _ (Step.refl _ _) R (.str _)⟩
    · cases e'
  | _ => cases e
theorem m_join : MtR X "str.join" (rM nm X.K (miF .join)) := by
  rintro pins s σ H x xs v us Q I rx rs ⟨W, ah, a, as, c, R, ra, rs', e, k⟩
  obtain ⟨z, rfl⟩ := mi_str e
  cases ra
  obtain ⟨a, rfl⟩ := one_arg e (by simp)
  obtain ⟨w, rfl, r1⟩ := rvs1 rs'
  have e' : ((asL ah a).bind fun xs => (asStrs xs).bind fun ys => if (ys.map (·.length)).sum + ys.length * z.length ≤ 16777216 then some (AV.str (Txt.join z ys)) else none) = some c := by
    cases a <;> exact e
  simp only [Option.bind_eq_some_iff] at e'
  obtain ⟨xs, e1, ys, e2, e3⟩ := e'
  split at e3
  · rename_i h
    cases e3
    obtain ⟨p, vs, rfl, h1, h2⟩ := asL_of R r1 e1
    obtain rfl := asStrs_of h2 e2
    exact mt_join pins s σ H _ _ v us Q I rx rs ⟨z, p, ys, rfl, rfl, .inl (.inl h1), h, k W H _ (Step.refl _ _) R (.str _)⟩
  · cases e3
def isStr : AV → Bool | .str _ => true | _ => false
def msF (m : MI) (o : Rho → AH → Ot AV) (a : Rho → AH → Ot (List AV)) : Rho → AH → Ot AV := fun ρ ah => (o ρ ah).bind fun x ah1 => if isStr x = true then (a ρ ah1).bind fun xs ah2 => Ot.of (miF m ah2 x xs) ah2 else .st
theorem bm0_of {id : String} {name : Str} {m : MI} {o : Expr} {fo : Rho → AH → Ot AV} {apos cpos : Pos} (slot : Slot "str" name id) (hty : typeOf (.builtin id) = pure (.type "method_descriptor")) (hm : MtR X id (rM nm X.K (miF m))) (ho : EV nm X Wx o fo)
    (hb : plainBase o = true) (hl : (apos.endLine == cpos.line) = true) : EV nm X Wx (.Call (.Attribute o name apos) [] [] cpos) (msF m fo aNil) := by
  refine PE.weak (pe_bm0 PySem.F.plainAttrs_str slot hty hm ho (base_of hb) hl) fun σ H Q ⟨W, ρ, ah, rh, rs, p⟩ => ?_
  refine TrE.seqB rh rs p fun x ah1 W1 H1 w1 s1 R1 S1 v1 p1 => ?_
  split at p1
  · obtain ⟨c, e, k⟩ := Post.of (o := miF m ah1 x []) p1
    obtain ⟨z, rfl⟩ := mi_str e
    cases v1
    exact ⟨rfl, W1, ah1, .str z, [], c, R1, .str z, .nil, e, fun W' H' w s R r => k W' H' s R w r⟩
  · exact False.elim p1
theorem bm_of {id : String} {name : Str} {m : MI} {o e : Expr} {es : List Expr} {fo : Rho → AH → Ot AV} {fa : Rho → AH → Ot (List AV)} {apos cpos : Pos} (slot : Slot "str" name id) (hty : typeOf (.builtin id) = pure (.type "method_descriptor")) (hm : MtR X id (rM nm X.K (miF m))) (ho : EV nm X Wx o fo)
    (ha : EA nm X Wx (e :: es) fa) (hb : plainBase o = true) (hl : (apos.endLine == cpos.line) = true) (hs : (e :: es).all notSt = true) (hlen : (e :: es).length < 30) : EV nm X Wx (.Call (.Attribute o name apos) (e :: es) [] cpos) (msF m fo fa) := by
  have hs' := hs
  rw [List.all_cons, Bool.and_eq_true] at hs'
  refine PE.weak (pe_bm PySem.F.plainAttrs_str slot hty hm ho ha (base_of hb) ?_ hl (star_cons hs'.1) (star_plain _ _ hs'.2)) fun σ H Q ⟨W, ρ, ah, rh, rs, p⟩ => ?_
  · have h1 := star_plain cpos X.env hs
    have h2 : (backTo cpos (starEach (e :: es) X.env)).all (fun x => !x.1) = true := by
      rw [List.all_eq_true]
      intro y hy
      have := List.any_eq_false.mp h1 y hy
      simpa using this
    rw [h2]
    simp only [keywordEach, backToKw, List.map_nil, List.all_nil, Bool.and_self, Bool.true_and, List.length_nil, List.isEmpty_nil, if_true, Nat.add_zero]
    exact decide_eq_true hlen
  · refine TrE.seqB rh rs p fun x ah1 W1 H1 w1 s1 R1 S1 v1 p1 => ?_
    split at p1
    · rename_i h
      cases v1 <;> try exact absurd h Bool.false_ne_true
      refine ⟨rfl, ?_⟩
      refine TrA.seqB R1 S1 p1 fun xs ah2 W2 H2 vs s2 R2 S2 v2 p2 => ?_
      obtain ⟨c, e, k⟩ := Post.of (o := miF m ah2 _ xs) p2
      exact ⟨W2, ah2, .str _, xs, c, R2, .str _, v2, e, fun W' H' w s R r => k W' H' s R w r⟩
    · exact False.elim p1
def MI.nullary : MI → Bool | .isascii | .isprintable | .isalpha | .islower | .isdigit => true | _ => false
theorem ev_mi0 (m : MI) {o : Expr} {fo : Rho → AH → Ot AV} {apos cpos : Pos} (ho : EV nm X Wx o fo) (hn : m.nullary = true) (hb : plainBase o = true) (hl : (apos.endLine == cpos.line) = true) : EV nm X Wx (.Call (.Attribute o m.name apos) [] [] cpos) (msF m fo aNil) := by
  cases m with
  | isascii => exact bm0_of PySem.F.slot_str_isascii PySem.F.type_str_isascii m_ascii ho hb hl
  | isprintable => exact bm0_of PySem.F.slot_str_isprintable PySem.F.type_str_isprintable m_print ho hb hl
  | isalpha => exact bm0_of PySem.F.slot_str_isalpha PySem.F.type_str_isalpha m_alpha ho hb hl
  | islower => exact bm0_of PySem.F.slot_str_islower PySem.F.type_str_islower m_lower ho hb hl
  | isdigit => exact bm0_of PySem.F.slot_str_isdigit PySem.F.type_str_isdigit m_digit ho hb hl
  | _ => exact absurd hn Bool.false_ne_true
theorem ev_mi1 (m : MI) {o e : Expr} {es : List Expr} {fo : Rho → AH → Ot AV} {fa : Rho → AH → Ot (List AV)} {apos cpos : Pos} (ho : EV nm X Wx o fo) (ha : EA nm X Wx (e :: es) fa) (hn : m.nullary = false) (hb : plainBase o = true) (hl : (apos.endLine == cpos.line) = true)
    (hs : (e :: es).all notSt = true) (hlen : (e :: es).length < 30) : EV nm X Wx (.Call (.Attribute o m.name apos) (e :: es) [] cpos) (msF m fo fa) := by
  cases m with
  | join => exact bm_of PySem.F.slot_str_join PySem.F.type_str_join m_join ho ha hb hl hs hlen
  | count => exact bm_of PySem.F.slot_str_count PySem.F.type_str_count m_count ho ha hb hl hs hlen
  | startswith => exact bm_of PySem.F.slot_str_startswith PySem.F.type_str_startswith m_starts ho ha hb hl hs hlen
  | endswith => exact bm_of PySem.F.slot_str_endswith PySem.F.type_str_endswith m_ends ho ha hb hl hs hlen
  | zfill => exact bm_of PySem.F.slot_str_zfill PySem.F.type_str_zfill m_zfill ho ha hb hl hs hlen
  | stripC => exact bm_of PySem.F.slot_str_strip PySem.F.type_str_strip m_strip ho ha hb hl hs hlen
  | _ => exact absurd hn.symm Bool.false_ne_true
end
end Ko

/-! Ko, part H: statements, targets, loops. -/
namespace Ko
open PySem L2

/-- how far a statement comes -/
inductive SR where
  | nx (ρ : Rho) (ah : AH)
  | rt (v : AV) (ah : AH)
  | bk (ρ : Rho) (ah : AH)
  | ct (ρ : Rho) (ah : AH)
  | ex (x : EX) (ρ : Rho) (ah : AH)
  | st

section
variable {K : PySem.W.Frag} {nm : Nm} {Wx : WX} {W : Wd} {H : Hp}
def PoS (K : PySem.W.Frag) (nm : Nm) (Wx : WX) (W : Wd) (H : Hp) (D : Ends) : SR → Prop
  | .nx ρ ah => ∀ W' H' σ', Step W H W' H' → RelH K nm W' ah H' → RS K W' ρ σ' → D.nx σ' H'
  | .rt v ah => ∀ W' H' w, Step W H W' H' → RelH K nm W' ah H' → W'.RV K v w → D.rt w H'
  | .bk ρ ah => ∀ W' H' σ', Step W H W' H' → RelH K nm W' ah H' → RS K W' ρ σ' → D.bk σ' H'
  | .ct ρ ah => ∀ W' H' σ', Step W H W' H' → RelH K nm W' ah H' → RS K W' ρ σ' → D.ct σ' H'
  | .ex x ρ ah => ∀ W' H' σ' cls d, Step W H W' H' → RelH K nm W' ah H' → RS K W' ρ σ' → ExRep K nm W' x cls d → Wx cls d σ' H'
  | .st => False
theorem PoS.shift {r : SR} {D : Ends} {W' : Wd} {H' : Hp} (s : Step W H W' H') (p : PoS K nm Wx W H D r) : PoS K nm Wx W' H' D r := by
  cases r with
  | nx ρ ah => exact fun W2 H2 σ' s2 => p W2 H2 σ' (s.trans s2)
  | rt v ah => exact fun W2 H2 σ' s2 => p W2 H2 σ' (s.trans s2)
  | bk ρ ah => exact fun W2 H2 σ' s2 => p W2 H2 σ' (s.trans s2)
  | ct ρ ah => exact fun W2 H2 σ' s2 => p W2 H2 σ' (s.trans s2)
  | ex x ρ ah => exact fun W2 H2 σ' cls d s2 => p W2 H2 σ' cls d (s.trans s2)
  | st => exact p
def TrS (nm : Nm) (K : PySem.W.Frag) (Wx : WX) (f : Rho → AH → SR) : TS := fun D σ H => ∃ W ρ ah, RelH K nm W ah H ∧ RS K W ρ σ ∧ PoS K nm Wx W H D (f ρ ah)
/-- an expression, then k -/
def Ot.to {α : Type} (r : Ot α) (ρ : Rho) (k : α → AH → SR) : SR := match r with | .ok a ah => k a ah | .ex x ah => .ex x ρ ah | .st => .st
theorem PoS.to {α : Type} {r : Ot α} {ρ : Rho} {k : α → AH → SR} {D : Ends} {σ : St} (rs : RS K W ρ σ) (p : PoS K nm Wx W H D (r.to ρ k)) : Post K nm W H r (fun a ah1 W1 H1 => PoS K nm Wx W1 H1 D (k a ah1)) (xw K nm Wx σ) := by
  cases r with
  | ok a ah' => exact fun W' H' s R => PoS.shift s p
  | ex x ah' => exact fun W' H' s R cls d h => p W' H' σ cls d s R (rs.step s) h
  | st => exact p
def seqF (f g : Rho → AH → SR) : Rho → AH → SR := fun ρ ah => match f ρ ah with | .nx ρ1 ah1 => g ρ1 ah1 | r => r
end
section
variable (nm : Nm)
abbrev ES (X : Cx) (Wx : WX) (e : Stmt) (f : Rho → AH → SR) : Prop := PS X e (TrS nm X.K Wx f)
abbrev ESs (X : Cx) (Wx : WX) (e : List Stmt) (f : Rho → AH → SR) : Prop := PSs X e (TrS nm X.K Wx f)
end

section
variable {nm : Nm} {X : Cx} {Wx : WX} {K : PySem.W.Frag}
def nilF : Rho → AH → SR := fun ρ ah => .nx ρ ah
theorem es_nil : ESs nm X Wx [] nilF := PSs.weak pss_nil fun D σ H ⟨W, ρ, ah, rh, rs, p⟩ => p W H σ (Step.refl _ _) rh rs
theorem es_cons {s : Stmt} {r : List Stmt} {f g : Rho → AH → SR} (h1 : ES nm X Wx s f) (h2 : ESs nm X Wx r g) : ESs nm X Wx (s :: r) (seqF f g) := by
  refine PSs.weak (pss_cons h1 h2) fun D σ H ⟨W, ρ, ah, rh, rs, p⟩ => ?_
  refine ⟨W, ρ, ah, rh, rs, ?_⟩
  unfold seqF at p
  cases q : f ρ ah with
  | nx ρ1 ah1 => rw [q] at p; exact fun W' H' σ' s R S => ⟨W', ρ1, ah1, R, S, PoS.shift s p⟩
  | rt v ah1 => rw [q] at p; exact p
  | bk ρ1 ah1 => rw [q] at p; exact p
  | ct ρ1 ah1 => rw [q] at p; exact p
  | ex x ρ1 ah1 => rw [q] at p; exact p
  | st => rw [q] at p; exact p
def retF (a : Rho → AH → Ot AV) : Rho → AH → SR := fun ρ ah => (a ρ ah).to ρ fun v ah1 => .rt v ah1
theorem TrE.to {f : Rho → AH → Ot AV} {k : AV → AH → SR} {D : Ends} {σ : St} {H : Hp} {R : V → Hp → Prop} {W : Wd} {ρ : Rho} {ah : AH} (rh : RelH K nm W ah H) (rs : RS K W ρ σ) (p : PoS K nm Wx W H D ((f ρ ah).to ρ k))
    (h : ∀ a ah1 W1 H1 w, Step W H W1 H1 → RelH K nm W1 ah1 H1 → RS K W1 ρ σ → W1.RV K a w → PoS K nm Wx W1 H1 D (k a ah1) → R w H1) : TrE nm K Wx f σ H R :=
  ⟨W, ρ, ah, rh, rs, (PoS.to rs p).imp (fun a ah1 W1 H1 s R1 q w r => h a ah1 W1 H1 w s R1 (rs.step s) r q) fun _ _ _ _ _ _ q => q⟩
theorem TrT.to {f : Rho → AH → Ot Bool} {k : Bool → AH → SR} {D : Ends} {σ : St} {H : Hp} {R : Bool → Hp → Prop} {W : Wd} {ρ : Rho} {ah : AH} (rh : RelH K nm W ah H) (rs : RS K W ρ σ) (p : PoS K nm Wx W H D ((f ρ ah).to ρ k))
    (h : ∀ a ah1 W1 H1, Step W H W1 H1 → RelH K nm W1 ah1 H1 → RS K W1 ρ σ → PoS K nm Wx W1 H1 D (k a ah1) → R a H1) : TrT nm K Wx f σ H R :=
  ⟨W, ρ, ah, rh, rs, (PoS.to rs p).imp (fun a ah1 W1 H1 s R1 q => h a ah1 W1 H1 s R1 (rs.step s) q) fun _ _ _ _ _ _ q => q⟩
theorem es_ret {e : Expr} {pos : Pos} {fa : Rho → AH → Ot AV} (ha : EV nm X Wx e fa) : ES nm X Wx (.Return (some e) pos) (retF fa) := by
  refine PS.weak (ps_ret ha) fun D σ H ⟨W, ρ, ah, rh, rs, p⟩ => ?_
  exact TrE.to rh rs p fun a ah1 W1 H1 w s R1 S1 r q => q W1 H1 w (Step.refl _ _) R1 r
def retN : Rho → AH → SR := fun _ ah => .rt .non ah
theorem es_retN {pos : Pos} : ES nm X Wx (.Return none pos) retN := PS.weak ps_retN fun D σ H ⟨W, ρ, ah, rh, rs, p⟩ => p W H .non (Step.refl _ _) rh .non
theorem es_pass {pos : Pos} : ES nm X Wx (.Pass pos) nilF := PS.weak ps_pass fun D σ H ⟨W, ρ, ah, rh, rs, p⟩ => p W H σ (Step.refl _ _) rh rs
def brkF : Rho → AH → SR := fun ρ ah => .bk ρ ah
theorem es_brk {pos : Pos} : ES nm X Wx (.Break pos) brkF := PS.weak ps_break fun D σ H ⟨W, ρ, ah, rh, rs, p⟩ => p W H σ (Step.refl _ _) rh rs
def cntF : Rho → AH → SR := fun ρ ah => .ct ρ ah
theorem es_cnt {pos : Pos} : ES nm X Wx (.Continue pos) cntF := PS.weak ps_continue fun D σ H ⟨W, ρ, ah, rh, rs, p⟩ => p W H σ (Step.refl _ _) rh rs
def expF (a : Rho → AH → Ot AV) : Rho → AH → SR := fun ρ ah => (a ρ ah).to ρ fun _ ah1 => .nx ρ ah1
def notLC : Expr → Bool | .ListComp .. => false | .SetComp .. => false | .DictComp .. => false | _ => true
theorem swaps_of {e : Expr} {t : Option Expr} {l : Nat} {env : Env} (h : notLC e = true) : swapsWith e t l env = pure false := by
  cases e <;> first | rfl | exact absurd h Bool.false_ne_true
theorem es_exp {e : Expr} {pos : Pos} {fa : Rho → AH → Ot AV} (ha : EV nm X Wx e fa) (hn : notLC e = true) : ES nm X Wx (.Expr e pos) (expF fa) := by
  refine PS.weak (ps_expr ha (swaps_of hn)) fun D σ H ⟨W, ρ, ah, rh, rs, p⟩ => ?_
  exact TrE.to rh rs p fun a ah1 W1 H1 w s R1 S1 r q => q W1 H1 σ (Step.refl _ _) R1 S1
def ifS (c : Rho → AH → Ot Bool) (f g : Rho → AH → SR) : Rho → AH → SR := fun ρ ah => (c ρ ah).to ρ fun b ah1 => if b = true then f ρ ah1 else g ρ ah1
theorem es_if {c : Expr} {a b : List Stmt} {pos : Pos} {fc : Rho → AH → Ot Bool} {f g : Rho → AH → SR} (hc : ET nm X Wx c fc) (ha : ESs nm X Wx a f) (hb : ESs nm X Wx b g) : ES nm X Wx (.If c a b pos) (ifS fc f g) := by
  refine PS.weak (ps_if hc ha hb) fun D σ H ⟨W, ρ, ah, rh, rs, p⟩ => ?_
  refine TrT.to rh rs p fun x ah1 W1 H1 s R1 S1 q => ?_
  cases x with
  | true => rw [if_pos rfl] at q ⊢; exact ⟨W1, ρ, ah1, R1, S1, q⟩
  | false => rw [if_neg Bool.false_ne_true] at q ⊢; exact ⟨W1, ρ, ah1, R1, S1, q⟩

/-! ### targets: names, tuples of names -/
inductive TP where
  | nm (i : Nat)
  | tp (l : List TP)
mutual
def TP.put : TP → AV → AH → Rho → Option Rho
  | .nm i, v, _, ρ => some (ρ.set i (some v))
  | .tp l, .tup xs, ah, ρ => putL l xs ah ρ
  | .tp l, .lst xs, ah, ρ => putL l xs ah ρ
  | .tp l, .ref n, ah, ρ => match ah[n]? with | some (.lst xs) => putL l xs ah ρ | _ => none
  | .tp _, _, _, _ => none
def putL : List TP → List AV → AH → Rho → Option Rho
  | [], [], _, ρ => some ρ
  | t :: l, x :: xs, ah, ρ => (t.put x ah ρ).bind fun ρ1 => putL l xs ah ρ1
  | _, _, _, _ => none
end
mutual
def TP.slots : TP → List Nat
  | .nm i => [i]
  | .tp l => slotsL l
def slotsL : List TP → List Nat
  | [] => []
  | t :: l => t.slots ++ slotsL l
end
/-- alike but for these slots -/
def WEq (S : List Nat) (σ σ' : St) : Prop := ∀ vs : List Nat, (∀ i ∈ S, i ∈ vs) → wipe σ' vs = wipe σ vs
theorem wipe_get (σ : St) : ∀ (vs : List Nat) (i : Nat), (wipe σ vs)[i]? = if i ∈ vs then (if i < σ.length then some none else none) else σ[i]?
  | [], i => by simp [wipe]
  | v :: vs, i => by
    unfold wipe
    by_cases h : v = i
    · subst h
      by_cases hl : v < σ.length
      · rw [List.getElem?_set_self (by rw [wipe_length]; exact hl)]
        simp [hl]
      · rw [List.getElem?_eq_none (by rw [List.length_set, wipe_length]; omega)]
        simp [hl]
    · rw [List.getElem?_set_ne h, wipe_get σ vs i]
      have : i ≠ v := fun z => h z.symm
      simp [this]
theorem weq_set {σ : St} {i : Nat} {o : Option V} : WEq [i] σ (σ.set i o) := fun vs h => by
  have hi : i ∈ vs := h i (by simp)
  refine List.ext_getElem? fun j => ?_
  rw [wipe_get, wipe_get, List.length_set]
  by_cases hj : j ∈ vs
  · rw [if_pos hj, if_pos hj]
  · rw [if_neg hj, if_neg hj, List.getElem?_set_ne (fun z : i = j => hj (by rw [← z]; exact hi))]
theorem WEq.refl (S : List Nat) (σ : St) : WEq S σ σ := fun _ _ => rfl
theorem WEq.app {S T : List Nat} {σ σ1 σ2 : St} (a : WEq S σ σ1) (b : WEq T σ1 σ2) : WEq (S ++ T) σ σ2 := fun vs h =>
  (b vs fun i m => h i (List.mem_append_right _ m)).trans (a vs fun i m => h i (List.mem_append_left _ m))
def TrG (nm : Nm) (K : PySem.W.Frag) (t : TP) : TG := fun v σ H Q => ∃ W ρ ah a ρ', RelH K nm W ah H ∧ RS K W ρ σ ∧ W.RV K a v ∧ t.put a ah ρ = some ρ' ∧ ∀ σ', RS K W ρ' σ' → WEq t.slots σ σ' → Q σ' H
def TrGs (nm : Nm) (K : PySem.W.Frag) (l : List TP) : TGs := fun vs σ H Q => ∃ W ρ ah xs ρ', RelH K nm W ah H ∧ RS K W ρ σ ∧ W.RVs K xs vs ∧ putL l xs ah ρ = some ρ' ∧ ∀ σ', RS K W ρ' σ' → WEq (slotsL l) σ σ' → Q σ' H
theorem PG.weak {X : Cx} {e : Expr} {t t' : TG} (h : PG X e t) (w : ∀ v σ H Q, t' v σ H Q → t v σ H Q) : PG X e t' := ⟨fun pins s σ H v u Q I r q => h.run pins s σ H v u Q I r (w v σ H Q q)⟩
theorem PGs.weak {X : Cx} {e : List Expr} {t t' : TGs} (h : PGs X e t) (w : ∀ v σ H Q, t' v σ H Q → t v σ H Q) : PGs X e t' := ⟨fun pins s σ H v u Q I r q => h.run pins s σ H v u Q I r (w v σ H Q q)⟩
theorem PG.or {X : Cx} {e : Expr} {t t' : TG} (h : PG X e t) (h' : PG X e t') : PG X e (fun v σ H Q => t v σ H Q ∨ t' v σ H Q) :=
  ⟨fun pins s σ H v u Q I r q => q.elim (fun q => h.run pins s σ H v u Q I r q) fun q => h'.run pins s σ H v u Q I r q⟩
/-- the scope knows the name as its own -/
def isLoc (sc : Scope) (x : Str) : Bool := match sc.names.lookup x with | some .local => true | some .cell => true | _ => false
theorem loc_of {sc : Scope} {x : Str} (h : isLoc sc x = true) : L2.Loc sc x := by
  unfold isLoc at h
  unfold L2.Loc
  split at h
  · rename_i e; exact .inl e
  · rename_i e; exact .inr e
  · exact absurd h Bool.false_ne_true
theorem eg_name {i : Nat} {x : Str} {pos : Pos} (hN : X.N.Nodup) (hi : X.N[i]? = some x) (hx : L2.Loc X.env.scope x) (hf : X.fn x = true ∨ X.env.scope.names.lookup x = some .local) : PG X (.Name x pos) (TrG nm X.K (.nm i)) :=
  PG.weak (pg_name hN hi hx hf) fun v σ H Q ⟨W, ρ, ah, a, ρ', rh, rs, r, e, k⟩ => by
    cases e
    exact k _ (rs.set r i) weq_set
theorem egs_nil : PGs X [] (TrGs nm X.K []) := PGs.weak pgs_nil fun vs σ H Q ⟨W, ρ, ah, xs, ρ', rh, rs, r, e, k⟩ => by
  cases r with
  | nil => cases e; exact ⟨rfl, k σ rs (WEq.refl _ _)⟩
  | cons _ _ => cases e
theorem egs_cons {e : Expr} {es : List Expr} {t : TP} {l : List TP} (h1 : PG X e (TrG nm X.K t)) (h2 : PGs X es (TrGs nm X.K l)) (hs : notSt e = true) : PGs X (e :: es) (TrGs nm X.K (t :: l)) :=
  PGs.weak (pgs_cons h1 h2 (by cases e <;> first | rfl | exact absurd hs Bool.false_ne_true)) fun vs σ H Q ⟨W, ρ, ah, xs, ρ', rh, rs, r, e, k⟩ => by
    cases r with
    | nil => cases e
    | cons r rr =>
      simp only [putL, Option.bind_eq_some_iff] at e
      obtain ⟨ρ1, e1, e2⟩ := e
      exact ⟨_, _, rfl, W, ρ, ah, _, ρ1, rh, rs, r, e1, fun σ' S q1 => ⟨W, ρ1, ah, _, ρ', rh, S, rr, e2, fun σ2 S2 q2 => k σ2 S2 (q1.app q2)⟩⟩
theorem each_len (env : Env) : ∀ {es : List Expr}, es.all notSt = true → (assignEach es env).length = es.length ∧ (assignEach es env).findIdx? (·.1) = none
  | [], _ => ⟨rfl, rfl⟩
  | e :: es, h => by
    rw [List.all_cons, Bool.and_eq_true] at h
    have q : assignEach (e :: es) env = (false, assign e env) :: assignEach es env := by cases e <;> first | rfl | exact absurd h.1 Bool.false_ne_true
    obtain ⟨h1, h2⟩ := each_len env h.2
    rw [q, List.length_cons, List.length_cons, h1]
    refine ⟨rfl, ?_⟩
    rw [List.findIdx?_cons, if_neg (by simp), h2]; rfl
theorem putL_len : ∀ {l : List TP} {xs : List AV} {ah : AH} {ρ ρ' : Rho}, putL l xs ah ρ = some ρ' → l.length = xs.length
  | [], [], _, _, _, _ => rfl
  | t :: l, x :: xs, ah, ρ, ρ', e => by
    simp only [putL, Option.bind_eq_some_iff] at e
    obtain ⟨ρ1, _, e2⟩ := e
    rw [List.length_cons, List.length_cons, putL_len e2]
  | [], _ :: _, _, _, _, e => by simp [putL] at e
  | _ :: _, [], _, _, _, e => by simp [putL] at e
theorem eg_tup {es : List Expr} {k : Nat} {l : List TP} {pos : Pos} (hc : X.calm = true) (h : PGs X es (TrGs nm X.K l)) (hs : es.all notSt = true) (hlen : es.length = l.length) : PG X (.Tuple es k pos) (TrG nm X.K (.tp l)) := by
  obtain ⟨h1, h2⟩ := each_len X.env hs
  refine PG.weak (PG.or (pg_tup (n := es.length) hc h h1 h2) (pg_lst (n := es.length) hc h h1 h2)) fun v σ H Q ⟨W, ρ, ah, a, ρ', rh, rs, r, e, kk⟩ => ?_
  cases r with
  | tup q r =>
    have e' : putL l _ ah ρ = some ρ' := e
    exact .inl ⟨_, _, rfl, same_tup rh.fz q, by rw [r.length, hlen, putL_len e'], W, ρ, ah, _, ρ', rh, rs, r, e', kk⟩
  | lst q r =>
    have e' : putL l _ ah ρ = some ρ' := e
    exact .inr ⟨_, _, rfl, .inl (same_rd rh.fz q), by rw [r.length, hlen, putL_len e'], W, ρ, ah, _, ρ', rh, rs, r, e', kk⟩
  | ref q =>
    simp only [TP.put] at e
    split at e
    · rename_i xs qq
      obtain ⟨vs, q1, q2⟩ := rh.at q qq
      exact .inr ⟨_, _, rfl, SqL.of q1, by rw [q2.length, hlen, putL_len e], W, ρ, ah, _, ρ', rh, rs, q2, e, kk⟩
    · cases e
  | _ => cases e

/-- target = e -/
def asgF (t : TP) (a : Rho → AH → Ot AV) : Rho → AH → SR := fun ρ ah => (a ρ ah).to ρ fun v ah1 => match t.put v ah1 ρ with | some ρ1 => .nx ρ1 ah1 | none => .st
theorem es_asg {t : TP} {tg e : Expr} {pos : Pos} {fa : Rho → AH → Ot AV} (ha : EV nm X Wx e fa) (hg : PG X tg (TrG nm X.K t)) (hn : notLC e = true) (hst : notSt tg = true) (hw : swappedStores [tg] e X.env = pure none) : ES nm X Wx (.Assign [tg] e pos) (asgF t fa) := by
  refine PS.weak (ps_asg ha hg (swaps_of hn) hw (by cases tg <;> first | rfl | exact absurd hst Bool.false_ne_true)) fun D σ H ⟨W, ρ, ah, rh, rs, p⟩ => ?_
  refine TrE.to rh rs p fun v ah1 W1 H1 w s R1 S1 r q => ?_
  split at q
  · rename_i ρ1 e
    exact ⟨W1, ρ, ah1, v, ρ1, R1, S1, r, e, fun σ' S _ => q W1 H1 σ' (Step.refl _ _) R1 S⟩
  · exact False.elim q

/-! ### loops -/
def Le (W W' : Wd) : Prop := W.io <+: W'.io ∧ Same W.fz W'.fz
theorem Step.le {W W' : Wd} {H H' : Hp} (s : Step W H W' H') : Le W W' := ⟨s.io, s.fz⟩
theorem Le.trans {W W1 W2 : Wd} (a : Le W W1) (b : Le W1 W2) : Le W W2 := ⟨a.1.trans b.1, a.2.trans b.2⟩
theorem RV.le {W W' : Wd} {x : AV} {v : V} (l : Le W W') (r : W.RV K x v) : W'.RV K x v := r.mono l.2 l.1
theorem RVs.le {W W' : Wd} {x : List AV} {v : List V} (l : Le W W') (r : W.RVs K x v) : W'.RVs K x v := r.mono l.2 l.1
/-- what is walked: the items, and when they still stand -/
structure Sr where
  xs : List AV
  g : AH → Bool
structure Gives (K : PySem.W.Frag) (nm : Nm) (J : It) (sr : Sr) (W0 : Wd) : Prop where
  go : ∀ i W ah H x, Le W0 W → RelH K nm W ah H → sr.g ah = true → sr.xs[i]? = some x → J.go i H ∧ ∀ v H', J.yld i H v H' → ∃ W', Step W H W' H' ∧ RelH K nm W' ah H' ∧ W'.RV K x v
  stop : ∀ i W ah H, Le W0 W → RelH K nm W ah H → sr.g ah = true → sr.xs[i]? = none → J.stop i H
def TrI (nm : Nm) (K : PySem.W.Frag) (Wx : WX) (f : Rho → AH → Ot Sr) : TI := fun σ H R => ∃ W ρ ah, RelH K nm W ah H ∧ RS K W ρ σ ∧ Post K nm W H (f ρ ah) (fun sr _ W' H' => ∀ J, Gives K nm J sr W' → R J H') (xw K nm Wx σ)
abbrev EI (nm : Nm) (X : Cx) (Wx : WX) (tg e : Expr) (f : Rho → AH → Ot Sr) : Prop := PI X tg e (TrI nm X.K Wx f)
def forV (g : AH → Bool) (t : TP) (body : Rho → AH → SR) : List AV → Rho → AH → SR
  | [], ρ, ah => if g ah = true then .nx ρ ah else .st
  | x :: xs, ρ, ah => if g ah = true then
      match t.put x ah ρ with
      | some ρ1 => match body ρ1 ah with
        | .nx ρ2 ah2 => forV g t body xs ρ2 ah2
        | .ct ρ2 ah2 => forV g t body xs ρ2 ah2
        | .bk ρ2 ah2 => .nx ρ2 ah2
        | r => r
      | none => .st
    else .st
def forF (t : TP) (src : Rho → AH → Ot Sr) (body : Rho → AH → SR) : Rho → AH → SR := fun ρ ah => (src ρ ah).to ρ fun sr ah1 => forV sr.g t body sr.xs ρ ah1
theorem es_for {tg iter : Expr} {body : List Stmt} {pos : Pos} {t : TP} {src : Rho → AH → Ot Sr} {fb : Rho → AH → SR} (hp : PassesOwn (model X.prog X.w) X.A X.env X.xe) (hc : X.calm = true) (hi : EI nm X Wx tg iter src) (hg : PG X tg (TrG nm X.K t)) (hb : ESs nm X Wx body fb)
    (hs : ∀ x, foldedSetIterable iter X.env x = pure x) : ES nm X Wx (.For tg iter body [] pos) (forF t src fb) := by
  refine PS.weak (ps_for hp hc hi hg hb hs) fun D σ H ⟨W, ρ, ah, rh, rs, p⟩ => ?_
  refine ⟨W, ρ, ah, rh, rs, (PoS.to rs p).imp (fun sr ah1 W1 H1 s1 R1 q J G => ?_) fun _ _ _ _ _ _ q => q⟩
  refine ⟨fun i m σ H => m = sr.xs.length - i ∧ i ≤ sr.xs.length ∧ ∃ Wd ρ ah, Le W1 Wd ∧ RelH X.K nm Wd ah H ∧ RS X.K Wd ρ σ ∧ PoS X.K nm Wx Wd H D (forV sr.g t fb (sr.xs.drop i) ρ ah), ⟨sr.xs.length, by simp, Nat.zero_le _, W1, ρ, ah1, ⟨List.prefix_refl _, Same.refl _⟩, R1, rs.step s1, by rw [List.drop_zero]; exact q⟩, ?_⟩
  rintro i m σ2 H2 ⟨rfl, hi', W2, ρ2, ah2, l2, R2, S2, q2⟩
  cases hx : sr.xs[i]? with
  | none =>
    have hge := List.getElem?_eq_none_iff.mp hx
    rw [List.drop_eq_nil_of_le hge] at q2
    unfold forV at q2
    split at q2
    · rename_i hgd
      exact .inl ⟨G.stop i W2 ah2 H2 l2 R2 hgd hx, q2 W2 H2 σ2 (Step.refl _ _) R2 S2⟩
    · exact False.elim q2
  | some x =>
    have hlt := (List.getElem?_eq_some_iff.mp hx).1
    have hdrop : sr.xs.drop i = x :: sr.xs.drop (i + 1) := by
      rw [List.drop_eq_getElem_cons hlt]
      congr 1
      exact (List.getElem?_eq_some_iff.mp hx).2
    rw [hdrop] at q2
    unfold forV at q2
    split at q2
    · rename_i hgd
      obtain ⟨g1, g2⟩ := G.go i W2 ah2 H2 x l2 R2 hgd hx
      refine .inr ⟨g1, fun σ' H' => ∃ Wd ρ ah, Le W1 Wd ∧ RelH X.K nm Wd ah H' ∧ RS X.K Wd ρ σ' ∧ PoS X.K nm Wx Wd H' D (forV sr.g t fb (sr.xs.drop (i + 1)) ρ ah), fun σ' H' z => ⟨sr.xs.length - (i + 1), by omega, rfl, hlt, z⟩, fun v H' y => ?_⟩
      obtain ⟨W3, s3, R3, r3⟩ := g2 v H' y
      split at q2
      · rename_i ρ3 e3
        refine ⟨W3, ρ2, ah2, x, ρ3, R3, S2.step s3, r3, e3, fun σ3 S3 _ => ?_⟩
        refine ⟨W3, ρ3, ah2, R3, S3, ?_⟩
        have q3 := PoS.shift s3 q2
        cases hb2 : fb ρ3 ah2 with
        | nx ρ4 ah4 => rw [hb2] at q3; exact fun W5 H5 σ5 s5 R5 S5 => ⟨W5, ρ4, ah4, (l2.trans s3.le).trans s5.le, R5, S5, PoS.shift s5 q3⟩
        | ct ρ4 ah4 => rw [hb2] at q3; exact fun W5 H5 σ5 s5 R5 S5 => ⟨W5, ρ4, ah4, (l2.trans s3.le).trans s5.le, R5, S5, PoS.shift s5 q3⟩
        | bk ρ4 ah4 => rw [hb2] at q3; exact q3
        | rt v4 ah4 => rw [hb2] at q3; exact q3
        | ex x4 ρ4 ah4 => rw [hb2] at q3; exact q3
        | st => rw [hb2] at q3; exact q3
      · exact False.elim q2
    · exact False.elim q2
/-! while -/
def whV (c : Rho → AH → Ot Bool) (body : Rho → AH → SR) : Nat → Rho → AH → SR
  | 0, _, _ => .st
  | n + 1, ρ, ah => (c ρ ah).to ρ fun b ah1 => if b = true then
      match body ρ ah1 with
      | .nx ρ2 ah2 => whV c body n ρ2 ah2
      | .ct ρ2 ah2 => whV c body n ρ2 ah2
      | .bk ρ2 ah2 => .nx ρ2 ah2
      | r => r
    else .nx ρ ah1
theorem es_while {c : Expr} {body : List Stmt} {pos : Pos} {fc : Rho → AH → Ot Bool} {fb : Rho → AH → SR} {n : Nat} (hp : PassesOwn (model X.prog X.w) X.A X.env X.xe) (hc : ET nm X Wx c fc) (hb : ESs nm X Wx body fb) : ES nm X Wx (.While c body [] pos) (whV fc fb n) := by
  refine PS.weak (ps_while hp hc hb) fun D σ H ⟨W, ρ, ah, rh, rs, p⟩ => ?_
  refine ⟨fun m σ H => ∃ Wd ρ ah, RelH X.K nm Wd ah H ∧ RS X.K Wd ρ σ ∧ PoS X.K nm Wx Wd H D (whV fc fb m ρ ah), ⟨n, W, ρ, ah, rh, rs, p⟩, ?_⟩
  rintro m σ1 H1 ⟨W1, ρ1, ah1, R1, S1, q1⟩
  cases m with
  | zero => exact False.elim q1
  | succ m =>
    refine TrT.to R1 S1 q1 fun b ah2 W2 H2 s2 R2 S2 q2 => ?_
    cases b with
    | false => rw [if_neg Bool.false_ne_true] at q2 ⊢; exact q2 W2 H2 σ1 (Step.refl _ _) R2 S2
    | true =>
      rw [if_pos rfl] at q2 ⊢
      refine ⟨fun σ' H' => ∃ Wd ρ ah, RelH X.K nm Wd ah H' ∧ RS X.K Wd ρ σ' ∧ PoS X.K nm Wx Wd H' D (whV fc fb m ρ ah), fun σ' H' z => ⟨m, Nat.lt_succ_self _, z⟩, W2, ρ1, ah2, R2, S2, ?_⟩
      cases hb2 : fb ρ1 ah2 with
      | nx ρ4 ah4 => rw [hb2] at q2; exact fun W5 H5 σ5 s5 R5 S5 => ⟨W5, ρ4, ah4, R5, S5, PoS.shift s5 q2⟩
      | ct ρ4 ah4 => rw [hb2] at q2; exact fun W5 H5 σ5 s5 R5 S5 => ⟨W5, ρ4, ah4, R5, S5, PoS.shift s5 q2⟩
      | bk ρ4 ah4 => rw [hb2] at q2; exact q2
      | rt v4 ah4 => rw [hb2] at q2; exact q2
      | ex x4 ρ4 ah4 => rw [hb2] at q2; exact q2
      | st => rw [hb2] at q2; exact q2
end
end Ko

/-! Ko, part I: what is walked; comprehensions. -/
namespace Ko
open PySem L2

/-! ### equality of abstract values, decided -/
mutual
def AV.bq : AV → AV → Bool
  | .non, .non => true
  | .bl a, .bl b => a == b
  | .int a, .int b => decide (a = b)
  | .str a, .str b => decide (a = b)
  | .tup a, .tup b => bqL a b
  | .lst a, .lst b => bqL a b
  | .dct a, .dct b => bqK a b
  | .ref a, .ref b => decide (a = b)
  | _, _ => false
def bqL : List AV → List AV → Bool
  | [], [] => true
  | x :: xs, y :: ys => x.bq y && bqL xs ys
  | _, _ => false
def bqK : List (Key × AV) → List (Key × AV) → Bool
  | [], [] => true
  | (k, x) :: xs, (l, y) :: ys => decide (k = l) && (x.bq y && bqK xs ys)
  | _, _ => false
end
mutual
theorem AV.bq_eq : ∀ {a b : AV}, a.bq b = true → a = b
  | .non, b, h => by cases b <;> first | rfl | (simp [AV.bq] at h)
  | .bl a, b, h => by cases b <;> simp [AV.bq] at h <;> rw [h]
  | .int a, b, h => by cases b <;> simp [AV.bq] at h <;> rw [h]
  | .str a, b, h => by cases b <;> simp [AV.bq] at h <;> rw [h]
  | .ref a, b, h => by cases b <;> simp [AV.bq] at h <;> rw [h]
  | .tup a, b, h => by cases b <;> simp [AV.bq] at h; rw [bqL_eq h]
  | .lst a, b, h => by cases b <;> simp [AV.bq] at h; rw [bqL_eq h]
  | .dct a, b, h => by cases b <;> simp [AV.bq] at h; rw [bqK_eq h]
theorem bqL_eq : ∀ {a b : List AV}, bqL a b = true → a = b
  | [], [], _ => rfl
  | [], _ :: _, h => by simp [bqL] at h
  | _ :: _, [], h => by simp [bqL] at h
  | x :: xs, y :: ys, h => by
    simp only [bqL, Bool.and_eq_true] at h
    rw [AV.bq_eq h.1, bqL_eq h.2]
theorem bqK_eq : ∀ {a b : List (Key × AV)}, bqK a b = true → a = b
  | [], [], _ => rfl
  | [], _ :: _, h => by simp [bqK] at h
  | _ :: _, [], h => by simp [bqK] at h
  | (k, x) :: xs, (l, y) :: ys, h => by
    simp only [bqK, Bool.and_eq_true, decide_eq_true_eq] at h
    obtain ⟨h1, h2, h3⟩ := h
    rw [h1, AV.bq_eq h2, bqK_eq h3]
end
mutual
theorem AV.bq_refl : ∀ a : AV, a.bq a = true
  | .non => rfl
  | .bl a => by simp [AV.bq]
  | .int a => by simp [AV.bq]
  | .str a => by simp [AV.bq]
  | .ref a => by simp [AV.bq]
  | .tup a => by simp [AV.bq, bqL_refl a]
  | .lst a => by simp [AV.bq, bqL_refl a]
  | .dct a => by simp [AV.bq, bqK_refl a]
theorem bqL_refl : ∀ a : List AV, bqL a a = true
  | [] => rfl
  | x :: xs => by simp [bqL, AV.bq_refl x, bqL_refl xs]
theorem bqK_refl : ∀ a : List (Key × AV), bqK a a = true
  | [] => rfl
  | (k, x) :: xs => by simp [bqK, AV.bq_refl x, bqK_refl xs]
end
def lstAt (n : Nat) (xs : List AV) (ah : AH) : Bool := match ah[n]? with | some (.lst ys) => bqL ys xs | _ => false
theorem lstAt_eq {n : Nat} {xs : List AV} {ah : AH} (h : lstAt n xs ah = true) : ah[n]? = some (.lst xs) := by
  unfold lstAt at h
  split at h
  · rename_i ys e
    rw [e, bqL_eq h]
  · exact absurd h Bool.false_ne_true
theorem lstAt_of {n : Nat} {xs : List AV} {ah : AH} (h : ah[n]? = some (.lst xs)) : lstAt n xs ah = true := by
  unfold lstAt; rw [h]; exact bqL_refl xs

/-! ### sources -/
def always : AH → Bool := fun _ => true
def seqSrc (ah : AH) : AV → Option Sr
  | .lst xs => some ⟨xs, always⟩
  | .tup xs => some ⟨xs, always⟩
  | .str z => some ⟨z.cps.toList.map fun c => .str ⟨#[c]⟩, always⟩
  | .ref n => match ah[n]? with | some (.lst xs) => some ⟨xs, lstAt n xs⟩ | _ => none
  | _ => none
def srcF (a : Rho → AH → Ot AV) : Rho → AH → Ot Sr := fun ρ ah => (a ρ ah).bind fun x ah1 => Ot.of (seqSrc ah1 x) ah1

section
variable {nm : Nm} {X : Cx} {Wx : WX} {K : PySem.W.Frag}
theorem PI.weak {X : Cx} {tg e : Expr} {t t' : TI} (h : PI X tg e t) (w : ∀ σ H Q, t' σ H Q → t σ H Q) : PI X tg e t' := ⟨fun pins s σ H Q I q => h.run pins s σ H Q I (w σ H Q q)⟩
theorem PI.or {X : Cx} {tg e : Expr} {t t' : TI} (h : PI X tg e t) (h' : PI X tg e t') : PI X tg e (fun σ H Q => t σ H Q ∨ t' σ H Q) :=
  ⟨fun pins s σ H R I q => q.elim (fun q => h.run pins s σ H R I q) fun q => h'.run pins s σ H R I q⟩
theorem gives_list {W0 : Wd} {a : Addr} {xs : List AV} {vs : List V} (h : Rd W0.fz a (.lst vs)) (r : W0.RVs K xs vs) : Gives K nm (Itl K a) ⟨xs, always⟩ W0 where
  go := fun i W ah H x l R _ e => by
    have hs : SqL K H a vs := .inl (same_rd R.fz (same_rd l.2 h))
    obtain ⟨v, h1, h2⟩ := (r.le l).get e
    exact ⟨⟨vs, v, hs, h1⟩, fun v' H' ⟨e1, e2⟩ => by
      subst e1
      have := e2 vs hs
      rw [h1] at this
      cases this
      exact ⟨W, Step.refl _ _, R, h2⟩⟩
  stop := fun i W ah H l R _ e => ⟨vs, .inl (same_rd R.fz (same_rd l.2 h)), by rw [r.length]; exact List.getElem?_eq_none_iff.mp e⟩
theorem gives_tup {W0 : Wd} {a : Addr} {xs : List AV} {vs : List V} (h : SqT K W0.fz a vs) (r : W0.RVs K xs vs) : Gives K nm (Itt K a) ⟨xs, always⟩ W0 where
  go := fun i W ah H x l R _ e => by
    have hs : SqT K H a vs := same_tup R.fz (same_tup l.2 h)
    obtain ⟨v, h1, h2⟩ := (r.le l).get e
    exact ⟨⟨vs, v, hs, h1⟩, fun v' H' ⟨e1, e2⟩ => by
      subst e1
      have := e2 vs hs
      rw [h1] at this
      cases this
      exact ⟨W, Step.refl _ _, R, h2⟩⟩
  stop := fun i W ah H l R _ e => ⟨vs, same_tup R.fz (same_tup l.2 h), by rw [r.length]; exact List.getElem?_eq_none_iff.mp e⟩
theorem gives_ref {W0 : Wd} {n : Nat} {a : Addr} {xs : List AV} (h : W0.io[n]? = some a) : Gives K nm (Itl K a) ⟨xs, lstAt n xs⟩ W0 where
  go := fun i W ah H x l R g e => by
    have hi : W.io[n]? = some a := by
      obtain ⟨t, et⟩ := l.1
      rw [← et, List.getElem?_append_left (List.getElem?_eq_some_iff.mp h).1]; exact h
    obtain ⟨vs, h1, r⟩ := R.at hi (lstAt_eq g)
    obtain ⟨v, h2, h3⟩ := r.get e
    exact ⟨⟨vs, v, SqL.of h1, h2⟩, fun v' H' ⟨e1, e2⟩ => by
      subst e1
      have := e2 vs (SqL.of h1)
      rw [h2] at this
      cases this
      exact ⟨W, Step.refl _ _, R, h3⟩⟩
  stop := fun i W ah H l R g e => by
    have hi : W.io[n]? = some a := by
      obtain ⟨t, et⟩ := l.1
      rw [← et, List.getElem?_append_left (List.getElem?_eq_some_iff.mp h).1]; exact h
    obtain ⟨vs, h1, r⟩ := R.at hi (lstAt_eq g)
    exact ⟨vs, SqL.of h1, by rw [r.length]; exact List.getElem?_eq_none_iff.mp e⟩
theorem gives_str {W0 : Wd} {z : Str} : Gives K nm (Its z) ⟨z.cps.toList.map fun c => .str ⟨#[c]⟩, always⟩ W0 where
  go := fun i W ah H x l R _ e => by
    simp only [List.getElem?_map, Option.map_eq_some_iff, Array.getElem?_toList] at e
    obtain ⟨c, e1, rfl⟩ := e
    have hlt : i < z.cps.size := (Array.getElem?_eq_some_iff.mp e1).1
    exact ⟨hlt, fun v' H' ⟨e2, c', e3, e4⟩ => by
      subst e2 e4
      rw [e1] at e3
      cases e3
      exact ⟨W, Step.refl _ _, R, .str _⟩⟩
  stop := fun i W ah H l R _ e => by
    simp only [List.getElem?_map, Option.map_eq_none_iff, Array.getElem?_toList] at e
    exact Array.getElem?_eq_none_iff.mp e
theorem TrE.seqI {f : Rho → AH → Ot AV} {g : AV → AH → Ot Sr} {σ : St} {H : Hp} {R : V → Hp → Prop} {W : Wd} {ρ : Rho} {ah : AH} {k : Sr → AH → Wd → Hp → Prop} (rh : RelH K nm W ah H) (rs : RS K W ρ σ)
    (p : Post K nm W H ((f ρ ah).bind g) k (xw K nm Wx σ))
    (h : ∀ a ah1 W1 H1 w, f ρ ah = .ok a ah1 → Step W H W1 H1 → RelH K nm W1 ah1 H1 → W1.RV K a w → Post K nm W1 H1 (g a ah1) k (xw K nm Wx σ) → R w H1) : TrE nm K Wx f σ H R := by
  refine ⟨W, ρ, ah, rh, rs, ?_⟩
  have q := p.bind
  cases e : f ρ ah with
  | ok a ah1 => rw [e] at q; exact fun W' H' s R' w r => h a ah1 W' H' w e s R' r (q W' H' s R')
  | ex x ah1 => rw [e] at q; exact q
  | st => rw [e] at q; exact q
theorem ei_seq {tg iter : Expr} {fa : Rho → AH → Ot AV} (ha : EV nm X Wx iter fa) : EI nm X Wx tg iter (srcF fa) := by
  refine PI.weak (PI.or (pi_list ha) (PI.or (pi_tup ha) (pi_str ha))) fun σ H Q ⟨W, ρ, ah, rh, rs, p⟩ => ?_
  cases e : fa ρ ah with
  | st => simp only [srcF, e] at p; exact False.elim p
  | ex x ah1 =>
    refine .inl (TrE.seqI rh rs p fun a ah2 W1 H1 w e2 s R1 r q => ?_)
    rw [e] at e2; cases e2
  | ok a ah1 =>
    have kind : (∃ xs, a = .tup xs) ∨ (∃ z, a = .str z) ∨ ((∀ xs, a ≠ .tup xs) ∧ ∀ z, a ≠ .str z) := by
      cases a <;> simp
    rcases kind with ⟨xs, rfl⟩ | ⟨z, rfl⟩ | ⟨n1, n2⟩
    · refine .inr (.inl (TrE.seqI rh rs p fun a ah2 W1 H1 w e2 s R1 r q => ?_))
      rw [e] at e2; cases e2
      cases r with
      | tup h r => exact ⟨_, rfl, ⟨_, same_tup R1.fz h⟩, q W1 H1 (Step.refl _ _) R1 _ (gives_tup h r)⟩
    · refine .inr (.inr (TrE.seqI rh rs p fun a ah2 W1 H1 w e2 s R1 r q => ?_))
      rw [e] at e2; cases e2
      cases r
      exact ⟨_, rfl, q W1 H1 (Step.refl _ _) R1 _ gives_str⟩
    · refine .inl (TrE.seqI rh rs p fun a ah2 W1 H1 w e2 s R1 r q => ?_)
      rw [e] at e2; cases e2
      cases r with
      | lst h r => exact ⟨_, rfl, ⟨_, .inl (same_rd R1.fz h)⟩, q W1 H1 (Step.refl _ _) R1 _ (gives_list h r)⟩
      | tup h r => exact absurd rfl (n1 _)
      | str z => exact absurd rfl (n2 _)
      | @ref n0 a0 h =>
        cases hn : ah1[n0]? with
        | none => simp only [seqSrc, hn] at q; exact False.elim q
        | some o =>
          cases o with
          | lst xs =>
            simp only [seqSrc, hn] at q
            obtain ⟨vs, h1, h2⟩ := R1.at h hn
            exact ⟨_, rfl, ⟨vs, SqL.of h1⟩, q W1 H1 (Step.refl _ _) R1 _ (gives_ref h)⟩
          | dct kvs => simp only [seqSrc, hn] at q; exact False.elim q
          | ins c fs => simp only [seqSrc, hn] at q; exact False.elim q
      | _ => exact False.elim q
/-! range -/
def rngL (lo : Int) (n : Nat) : List AV := (List.range n).map fun (i : Nat) => .int (lo + i)
def rngSrc1 : AV → Option Sr
  | .int j => if -(2 ^ 62) ≤ j ∧ j < 2 ^ 62 then some ⟨rngL 0 j.toNat, always⟩ else none
  | _ => none
def rngSrc2 : AV → AV → Option Sr
  | .int i, .int j => if (-(2 ^ 62) ≤ i ∧ i < 2 ^ 62) ∧ -(2 ^ 62) ≤ j ∧ j < 2 ^ 62 then some ⟨rngL i (j - i).toNat, always⟩ else none
  | _, _ => none
def rngF1 (a : Rho → AH → Ot AV) : Rho → AH → Ot Sr := fun ρ ah => (a ρ ah).bind fun x ah1 => Ot.of (rngSrc1 x) ah1
def rngF2 (a b : Rho → AH → Ot AV) : Rho → AH → Ot Sr := fun ρ ah => (a ρ ah).bind fun x ah1 => (b ρ ah1).bind fun y ah2 => Ot.of (rngSrc2 x y) ah2
theorem rngL_get {lo : Int} {n i : Nat} (h : i < n) : (rngL lo n)[i]? = some (.int (lo + i)) := by
  unfold rngL
  rw [List.getElem?_map, List.getElem?_range h]; rfl
theorem rngL_length {lo : Int} {n : Nat} : (rngL lo n).length = n := by
  unfold rngL
  rw [List.length_map, List.length_range]
theorem gives_rng {W0 : Wd} {lo : Int} {n : Nat} : Gives K nm (Itr lo n) ⟨rngL lo n, always⟩ W0 where
  go := fun i W ah H x l R _ e => by
    have hj : i < n := by
      have := (List.getElem?_eq_some_iff.mp e).1
      rw [rngL_length] at this
      exact this
    rw [show (Sr.xs ⟨rngL lo n, always⟩) = rngL lo n from rfl, rngL_get hj] at e
    cases e
    exact ⟨hj, fun v' H' ⟨e2, e3⟩ => by
      subst e2 e3
      exact ⟨W, Step.refl _ _, R, .int _⟩⟩
  stop := fun i W ah H l R _ e => by
    have := List.getElem?_eq_none_iff.mp e
    rw [show (Sr.xs ⟨rngL lo n, always⟩) = rngL lo n from rfl, rngL_length] at this
    exact this
theorem ei_rng1 {tg a : Expr} {fa : Rho → AH → Ot AV} {p pos : Pos} (hg : Gl X "range") (hm : X.mg "range" = none) (ha : EV nm X Wx a fa) (hs : notSt a = true) : EI nm X Wx tg (.Call (.Name "range" p) [a] [] pos) (rngF1 fa) := by
  refine PI.weak (pi_range1 hg hm (pa_cons ha pa_nil (star_cons hs)) (star_cons hs)) fun σ H Q ⟨W, ρ, ah, rh, rs, p⟩ => ?_
  refine TrE.seqI rh rs p fun x ah1 W1 H1 w _ s1 R1 v1 p1 => ?_
  obtain ⟨sr, e, k⟩ := p1.ofB
  unfold rngSrc1 at e
  split at e
  · split at e
    · rename_i h
      cases e
      cases v1
      exact ⟨_, rfl, h.1, h.2, k W1 H1 (Step.refl _ _) R1 _ gives_rng⟩
    · cases e
  · cases e
theorem ei_rng2 {tg a b : Expr} {fa fb : Rho → AH → Ot AV} {p pos : Pos} (hg : Gl X "range") (hm : X.mg "range" = none) (ha : EV nm X Wx a fa) (hb : EV nm X Wx b fb) (hs : notSt a = true) (hs2 : notSt b = true) :
    EI nm X Wx tg (.Call (.Name "range" p) [a, b] [] pos) (rngF2 fa fb) := by
  refine PI.weak (pi_range2 hg hm (pa_cons ha (pa_cons hb pa_nil (star_cons hs2)) (star_cons hs)) (by rw [star_cons hs, star_cons hs2]; rfl) (star_cons hs2)) fun σ H Q ⟨W, ρ, ah, rh, rs, p⟩ => ?_
  refine TrE.seqI rh rs p fun x ah1 W1 H1 w _ s1 R1 v1 p1 => TrE.seqI R1 (rs.step s1) p1 fun y ah2 W2 H2 w2 _ s2 R2 v2 p2 => ?_
  obtain ⟨sr, e, k⟩ := p2.ofB
  unfold rngSrc2 at e
  split at e
  · split at e
    · rename_i h
      cases e
      cases v1
      cases v2
      exact ⟨_, _, rfl, ⟨h.1.1, h.1.2, h.2.1, h.2.2⟩, k W2 H2 (Step.refl _ _) R2 _ gives_rng⟩
    · cases e
  · cases e
/-! enumerate of a list -/
def enumL (xs : List AV) : List AV := xs.zipIdx.map fun p => .tup [.int (p.2 : Nat), p.1]
def enumSrc (ah : AH) : AV → Option Sr
  | .lst xs => some ⟨enumL xs, always⟩
  | .ref n => match ah[n]? with | some (.lst xs) => some ⟨enumL xs, lstAt n xs⟩ | _ => none
  | _ => none
def enumF (a : Rho → AH → Ot AV) : Rho → AH → Ot Sr := fun ρ ah => (a ρ ah).bind fun x ah1 => Ot.of (enumSrc ah1 x) ah1
theorem enum_get {xs : List AV} {i : Nat} {x : AV} (h : (enumL xs)[i]? = some x) : ∃ y, xs[i]? = some y ∧ x = .tup [.int (i : Nat), y] := by
  unfold enumL at h
  simp only [List.getElem?_map, Option.map_eq_some_iff, List.getElem?_zipIdx, Nat.zero_add] at h
  obtain ⟨p, ⟨y, h1, rfl⟩, rfl⟩ := h
  exact ⟨y, h1, rfl⟩
theorem enum_none {xs : List AV} {i : Nat} (h : (enumL xs)[i]? = none) : xs[i]? = none := by
  unfold enumL at h
  simpa using h
theorem enum_go {a : Addr} {vs : List V} {xs : List AV} {W : Wd} {ah : AH} {H : Hp} {i : Nat} {x : AV} (R : RelH K nm W ah H) (hs : SqL K H a vs) (r : W.RVs K xs vs) (e : (enumL xs)[i]? = some x) :
    (Ite K a).go i H ∧ ∀ v H', (Ite K a).yld i H v H' → ∃ W', Step W H W' H' ∧ RelH K nm W' ah H' ∧ W'.RV K x v := by
  obtain ⟨y, e1, rfl⟩ := enum_get e
  obtain ⟨v, h1, h2⟩ := r.get e1
  refine ⟨⟨vs, v, hs, h1⟩, fun v' H' ⟨T, z, e1, hT, e2, e3⟩ => ?_⟩
  subst e1 e2
  have := e3 vs hs
  rw [h1] at this
  cases this
  have st := Step.keep (o := .tup [.int (i : Nat), v]) R hT
  exact ⟨_, st, R.keep hT, .tup (SqT.of upd_same) (.cons (.int _) (.cons (h2.step st) .nil))⟩
theorem ei_enum {elts : List Expr} {kk : Nat} {tpos p pos : Pos} {e : Expr} {fa : Rho → AH → Ot AV} (hg : Gl X "enumerate") (hm : X.mg "enumerate" = none) (ha : EV nm X Wx e fa) (hs : notSt e = true) :
    EI nm X Wx (.Tuple elts kk tpos) (.Call (.Name "enumerate" p) [e] [] pos) (enumF fa) := by
  refine PI.weak (pi_enum hg hm (pa_cons ha pa_nil (star_cons hs)) (star_cons hs)) fun σ H Q ⟨W, ρ, ah, rh, rs, p⟩ => ?_
  refine TrE.seqI rh rs p fun x ah1 W1 H1 w _ s1 R1 v1 p1 => ?_
  obtain ⟨sr, e, k⟩ := p1.ofB
  cases v1 with
  | lst h r =>
    cases e
    refine ⟨_, _, rfl, .inl (same_rd R1.fz h), k W1 H1 (Step.refl _ _) R1 _ ⟨fun i W ah H x l R _ e => ?_, fun i W ah H l R _ e => ?_⟩⟩
    · exact enum_go R (.inl (same_rd R.fz (same_rd l.2 h))) (r.le l) e
    · exact ⟨_, .inl (same_rd R.fz (same_rd l.2 h)), by rw [r.length]; exact List.getElem?_eq_none_iff.mp (enum_none e)⟩
  | @ref n a h =>
    simp only [enumSrc] at e
    split at e
    · rename_i xs q
      cases e
      obtain ⟨vs, h1, h2⟩ := R1.at h q
      have atn : ∀ {W : Wd}, Le W1 W → W.io[n]? = some a := fun {W} l => by
        obtain ⟨t, et⟩ := l.1
        rw [← et, List.getElem?_append_left (List.getElem?_eq_some_iff.mp h).1]; exact h
      refine ⟨_, _, rfl, SqL.of h1, k W1 H1 (Step.refl _ _) R1 _ ⟨fun i W ah H x l R g e => ?_, fun i W ah H l R g e => ?_⟩⟩
      · obtain ⟨vs', q1, q2⟩ := R.at (atn l) (lstAt_eq g)
        exact enum_go R (SqL.of q1) q2 e
      · obtain ⟨vs', q1, q2⟩ := R.at (atn l) (lstAt_eq g)
        exact ⟨_, SqL.of q1, by rw [q2.length]; exact List.getElem?_eq_none_iff.mp (enum_none e)⟩
    · cases e
  | _ => cases e
end
end Ko

/-! Ko, part J: list comprehensions. -/
namespace Ko
open PySem L2
section
variable {K : PySem.W.Frag} {nm : Nm} {W W1 : Wd} {ah : AH} {H H1 : Hp} {D : Addr} {o : HO}
/-- a thing of one's own at D, that no world tells of -/
theorem RelH.priv (R : RelH K nm W ah H) (n1 : D ∉ W.io) (n2 : W.fz D = none) : RelH K nm W ah (upd H D o) := by
  refine ⟨fun b x q => ?_, R.len, R.nd, R.sep, fun i a x e1 e2 => ?_⟩
  · rw [upd_ne (fun z => by rw [z, n2] at q; cases q)]
    exact R.fz b x q
  · exact (R.obj i a x e1 e2).mono (Same.refl _) (List.prefix_refl _) (upd_ne fun z : a = D => n1 (by rw [← z]; exact List.mem_of_getElem? e1))
theorem Step.priv (s : Step W1 H1 W H) (hD : H1 D = none) : Step W1 H1 W (upd H D o) := by
  refine ⟨s.io, s.fz, fun b u e n => ?_, s.nio, s.nfz, fun b q => ?_⟩
  · rw [upd_ne (ne_of_none e hD)]; exact s.fr b u e n
  · by_cases hb : b = D
    · rw [hb]; exact hD
    · rw [upd_ne hb] at q; exact s.dom b q
theorem RelH.freeze (R : RelH K nm W ah H) (h : H D = some o) (n1 : D ∉ W.io) (n2 : W.fz D = none) : RelH K nm (W.keep D o) ah H := by
  have hs : Same W.fz (W.keep D o).fz := fun b u e => by
    show upd W.fz D o b = some u
    rw [upd_ne (fun z => by rw [z, n2] at e; cases e)]; exact e
  refine ⟨fun b x q => ?_, R.len, R.nd, fun a m => ?_, fun i a x e1 e2 => ?_⟩
  · have q' : upd W.fz D o b = some x := q
    by_cases hb : b = D
    · subst hb; rw [upd_same] at q'; cases q'; exact h
    · rw [upd_ne hb] at q'; exact R.fz b x q'
  · show upd W.fz D o a = none
    rw [upd_ne (fun z : a = D => n1 (by rw [← z]; exact m))]; exact R.sep a m
  · exact (R.obj i a x e1 e2).mono hs (List.prefix_refl _) rfl
theorem Step.freeze (s : Step W1 H1 W H) (hD : H1 D = none) (n2 : W.fz D = none) : Step W1 H1 (W.keep D o) H := by
  have hs : Same W.fz (W.keep D o).fz := fun b u e => by
    show upd W.fz D o b = some u
    rw [upd_ne (fun z => by rw [z, n2] at e; cases e)]; exact e
  refine ⟨s.io, fun b u e => hs b u (s.fz b u e), s.fr, s.nio, fun b q => ?_, s.dom⟩
  by_cases hb : b = D
  · exact .inr (by rw [hb]; exact hD)
  · have q' : upd W.fz D o b ≠ none := q
    rw [upd_ne hb] at q'
    exact s.nfz b q'
theorem keep_le (n2 : W.fz D = none) : Le W (W.keep D o) := ⟨List.prefix_refl _, fun b u e => by
  show upd W.fz D o b = some u
  rw [upd_ne (fun z => by rw [z, n2] at e; cases e)]; exact e⟩
end
/-- no exception may leave -/
def Ot.calm {α : Type} : Ot α → Ot α | .ex _ _ => .st | r => r
def wipeA (ρ : Rho) : List Nat → Rho
  | [] => ρ
  | v :: vs => (wipeA ρ vs).set v none
theorem RS.wipe {K : PySem.W.Frag} {W : Wd} {ρ : Rho} {σ : St} (rs : RS K W ρ σ) : ∀ vs : List Nat, RS K W (wipeA ρ vs) (wipe σ vs)
  | [] => rs
  | v :: vs => RS.forget v none (RS.wipe rs vs)
def compV (g : AH → Bool) (t : TP) (vs : List Nat) (c : Rho → AH → Ot Bool) (e : Rho → AH → Ot AV) (ρ : Rho) : List AV → List AV → AH → Ot AV
  | acc, [], ah => if g ah = true then .ok (.lst acc) ah else .st
  | acc, x :: xs, ah => if g ah = true then
      match t.put x ah (wipeA ρ vs) with
      | some ρ1 => ((c ρ1 ah).calm).bind fun b ah1 => if b = true then
          ((e ρ1 ah1).calm).bind fun y ah2 => if acc.length < sizeLine then compV g t vs c e ρ (acc ++ [y]) xs ah2 else .st
        else compV g t vs c e ρ acc xs ah1
      | none => .st
    else .st
def compF (src : Rho → AH → Ot Sr) (t : TP) (vs : List Nat) (c : Rho → AH → Ot Bool) (e : Rho → AH → Ot AV) : Rho → AH → Ot AV := fun ρ ah => (src ρ ah).bind fun sr ah1 => compV sr.g t vs c e ρ [] sr.xs ah1
def yesF : Rho → AH → Ot Bool := fun _ ah => .ok true ah
section
variable {nm : Nm} {X : Cx} {Wx : WX} {K : PySem.W.Frag}
abbrev Wx0 : WX := fun _ _ _ _ => False
theorem Post.calm {α : Type} {W : Wd} {H : Hp} {r : Ot α} {k : α → AH → Wd → Hp → Prop} {e e' : EX → AH → Wd → Hp → Prop} (p : Post K nm W H r.calm k e) : Post K nm W H r k e' := by
  cases r with
  | ok a ah => exact p
  | ex x ah => exact False.elim p
  | st => exact p
/-- what a comprehension's reading asks -/
theorem comp_core {src : Rho → AH → Ot Sr} {t : TP} {vs : List Nat} {c : Rho → AH → Ot Bool} {e : Rho → AH → Ot AV} (ht : ∀ i ∈ t.slots, i ∈ vs) {σ : St} {H : Hp} {Q : VK}
    (h : TrE nm K Wx (compF src t vs c e) σ H Q) : tLc (TrI nm K Wx src) (TrG nm K t) (TrT nm K Wx0 c) (TrE nm K Wx0 e) vs σ H Q := by
  obtain ⟨W, ρ, ah, rh, rs, p⟩ := h
  refine ⟨W, ρ, ah, rh, rs, p.bind.imp (fun sr ah1 W1 H1 s1 R1 q J G D hD => ?_) fun _ _ _ _ _ _ q => q⟩
  refine ⟨fun i m H => m = sr.xs.length - i ∧ i ≤ sr.xs.length ∧ ∃ Wd ah accA accV, Le W1 Wd ∧ Step W1 H1 Wd H ∧ RelH K nm Wd ah H ∧ D ∉ Wd.io ∧ Wd.fz D = none ∧ H D = some (.lst accV) ∧ Wd.RVs K accA accV ∧
      Post K nm W1 H1 (compV sr.g t vs c e ρ accA (sr.xs.drop i) ah) (fun v _ W' H' => ∀ w, W'.RV K v w → Q w H') (xw K nm Wx σ),
    ⟨sr.xs.length, by simp, Nat.zero_le _, W1, ah1, [], [], ⟨List.prefix_refl _, Same.refl _⟩, (Step.refl W1 H1).priv hD, R1.priv (R1.fresh hD).1 (R1.fresh hD).2, (R1.fresh hD).1, (R1.fresh hD).2, upd_same, .nil, by rw [List.drop_zero]; exact q⟩, ?_⟩
  rintro i m H2 ⟨rfl, hi', W2, ah2, accA, accV, l2, s2, R2, n1, n2, h2, r2, q2⟩
  cases hx : sr.xs[i]? with
  | none =>
    rw [List.drop_eq_nil_of_le (List.getElem?_eq_none_iff.mp hx)] at q2
    unfold compV at q2
    split at q2
    · rename_i hgd
      refine .inl ⟨G.stop i W2 ah2 H2 l2 R2 hgd hx, ?_⟩
      exact q2 _ H2 (s2.freeze hD n2) (R2.freeze h2 n1 n2) _ (.lst (Rd.of upd_same) (r2.le (keep_le n2)))
    · exact False.elim q2
  | some x =>
    have hlt := (List.getElem?_eq_some_iff.mp hx).1
    have hdrop : sr.xs.drop i = x :: sr.xs.drop (i + 1) := by
      rw [List.drop_eq_getElem_cons hlt]
      congr 1
      exact (List.getElem?_eq_some_iff.mp hx).2
    rw [hdrop] at q2
    unfold compV at q2
    split at q2
    · rename_i hgd
      obtain ⟨g1, g2⟩ := G.go i W2 ah2 H2 x l2 R2 hgd hx
      refine .inr ⟨g1, fun H' => ∃ Wd ah accA accV, Le W1 Wd ∧ Step W1 H1 Wd H' ∧ RelH K nm Wd ah H' ∧ D ∉ Wd.io ∧ Wd.fz D = none ∧ H' D = some (.lst accV) ∧ Wd.RVs K accA accV ∧
        Post K nm W1 H1 (compV sr.g t vs c e ρ accA (sr.xs.drop (i + 1)) ah) (fun v _ W' H' => ∀ w, W'.RV K v w → Q w H') (xw K nm Wx σ), fun H' z => ⟨sr.xs.length - (i + 1), by omega, rfl, hlt, z⟩, fun v H' y => ?_⟩
      obtain ⟨W3, s3, R3, r3⟩ := g2 v H' y
      have keepD : ∀ {Wa Wb : Wd} {Ha Hb : Hp}, Step Wa Ha Wb Hb → D ∉ Wa.io → Wa.fz D = none → Ha D = some (.lst accV) → D ∉ Wb.io ∧ Wb.fz D = none ∧ Hb D = some (.lst accV) := fun {Wa Wb Ha Hb} s a1 a2 a3 => by
        refine ⟨fun m => (s.nio D m).elim a1 (fun z => by rw [a3] at z; cases z), ?_, s.fr D _ a3 a1⟩
        cases q : Wb.fz D with
        | none => rfl
        | some u => exact ((s.nfz D (by rw [q]; simp)).elim (fun z => absurd a2 z) (fun z => by rw [a3] at z; cases z))
      obtain ⟨m1, m2, m3⟩ := keepD s3 n1 n2 h2
      split at q2
      · rename_i ρ3 e3
        have rsW : RS K W3 (wipeA ρ vs) (wipe σ vs) := (((rs.step s1).wipe vs).step s2).step s3
        refine ⟨W3, wipeA ρ vs, ah2, x, ρ3, R3, rsW, r3, e3, fun σ3 S3 we => ⟨?_, ?_⟩⟩
        · rw [we vs ht]
          refine List.ext_getElem? fun j => ?_
          rw [wipe_get, wipe_get, wipe_length]
          by_cases hj : j ∈ vs
          · rw [if_pos hj, if_pos hj]
          · rw [if_neg hj]
        · have s13 := s2.trans s3
          cases hc : c ρ3 ah2 with
          | st => rw [hc] at q2; exact False.elim q2
          | ex x1 ah4 => rw [hc] at q2; exact False.elim q2
          | ok b ah4 =>
            rw [hc] at q2
            refine ⟨W3, ρ3, ah2, R3, S3, ?_⟩
            rw [hc]
            intro W4 H4 s4 R4
            obtain ⟨a1, a2, a3⟩ := keepD s4 m1 m2 m3
            cases b with
            | false =>
              rw [if_neg Bool.false_ne_true]
              exact ⟨W4, ah4, accA, accV, (l2.trans s3.le).trans s4.le, s13.trans s4, R4, a1, a2, a3, (r2.step s3).step s4, q2⟩
            | true =>
              rw [if_pos rfl]
              have q2 : Post K nm W1 H1 (((e ρ3 ah4).calm).bind fun y ah2 => if accA.length < sizeLine then compV sr.g t vs c e ρ (accA ++ [y]) (sr.xs.drop (i + 1)) ah2 else .st) (fun v _ W' H' => ∀ w, W'.RV K v w → Q w H') (xw K nm Wx σ) := q2
              cases he : e ρ3 ah4 with
              | st => rw [he] at q2; exact False.elim q2
              | ex x1 ah5 => rw [he] at q2; exact False.elim q2
              | ok y ah5 =>
                rw [he] at q2
                have q2 : Post K nm W1 H1 (if accA.length < sizeLine then compV sr.g t vs c e ρ (accA ++ [y]) (sr.xs.drop (i + 1)) ah5 else .st) (fun v _ W' H' => ∀ w, W'.RV K v w → Q w H') (xw K nm Wx σ) := q2
                refine ⟨W4, ρ3, ah4, R4, S3.step s4, ?_⟩
                rw [he]
                intro W5 H5 s5 R5 w r
                obtain ⟨b1, b2, b3⟩ := keepD s5 a1 a2 a3
                have r5 := ((r2.step s3).step s4).step s5
                split at q2
                · rename_i hl
                  refine ⟨accV, b3, by rw [r2.length]; exact hl, W5, ah5, accA ++ [y], accV ++ [w], ((l2.trans s3.le).trans s4.le).trans s5.le, ((s13.trans s4).trans s5).priv hD, R5.priv b1 b2, b1, b2, upd_same, r5.append (.cons r .nil), q2⟩
                · exact False.elim q2
      · exact False.elim q2
    · exact False.elim q2
/-- [elt for target in iter if c] -/
theorem ev_comp {elt tg iter : Expr} {ifs : List Expr} {scope : Scope} {own : List (Str × Nat)} {pos : Pos} {src : Rho → AH → Ot Sr} {t : TP} {c : Rho → AH → Ot Bool} {e : Rho → AH → Ot AV} (hc : X.calm = true) (hN : X.N.Nodup) (hi : EI nm X Wx tg iter src) (ok : BlkOk X.N X.env.scope scope own)
    (hslots : ∀ i ∈ t.slots, i ∈ own.map (·.2))
    (hg : ∀ (s : Shared) (H : Hp) (C : Addr) (cl : List (Str × Addr)) (fp : List Addr), PG (X.blk s H scope (compEnvC scope cl C X.env) fp) tg (TrG nm X.K t)) (ht : ∀ (s : Shared) (H : Hp) (C : Addr) (cl : List (Str × Addr)) (fp : List Addr), PTs (X.blk s H scope (compEnvC scope cl C X.env) fp) ifs (TrT nm X.K Wx0 c))
    (he : ∀ (s : Shared) (H : Hp) (C : Addr) (cl : List (Str × Addr)) (fp : List Addr), PE (X.blk s H scope (compEnvC scope cl C X.env) fp) elt (TrE nm X.K Wx0 e)) (hs : ∀ x, foldedSetIterable iter X.env x = pure x) :
    EV nm X Wx (.ListComp elt [⟨tg, iter, ifs, 0⟩] scope pos) (compF src t (own.map (·.2)) c e) :=
  PE.weak (pe_lc hc hN hi ok hg ht he hs) fun σ H Q h => comp_core hslots h
/-- name = [..] -/
theorem es_comp {i : Nat} {y : Str} {py : Pos} {elt tg iter : Expr} {ifs : List Expr} {scope : Scope} {own : List (Str × Nat)} {pos spos : Pos} {src : Rho → AH → Ot Sr} {t : TP} {c : Rho → AH → Ot Bool} {e : Rho → AH → Ot AV} (hc : X.calm = true) (hN : X.N.Nodup) (hy : X.N[i]? = some y) (hyl : X.env.scope.names.lookup y = some .local)
    (hk : X.env.scope.kind = .function) (hln : (py.line == pos.line) = true) (hno : (scope.names.any fun (n, k) => n == y && (k == .local || k == .cell)) = false)
    (hi : EI nm X Wx tg iter src) (ok : BlkOk X.N X.env.scope scope own) (hslots : ∀ i ∈ t.slots, i ∈ own.map (·.2))
    (hg : ∀ (s : Shared) (H : Hp) (C : Addr) (cl : List (Str × Addr)) (fp : List Addr), PG (X.blk s H scope (compEnvC scope cl C X.env) fp) tg (TrG nm X.K t)) (ht : ∀ (s : Shared) (H : Hp) (C : Addr) (cl : List (Str × Addr)) (fp : List Addr), PTs (X.blk s H scope (compEnvC scope cl C X.env) fp) ifs (TrT nm X.K Wx0 c))
    (he : ∀ (s : Shared) (H : Hp) (C : Addr) (cl : List (Str × Addr)) (fp : List Addr), PE (X.blk s H scope (compEnvC scope cl C X.env) fp) elt (TrE nm X.K Wx0 e)) (hs : ∀ x, foldedSetIterable iter X.env x = pure x) :
    ES nm X Wx (.Assign [.Name y py] (.ListComp elt [⟨tg, iter, ifs, 0⟩] scope pos) spos) (asgF (.nm i) (compF src t (own.map (·.2)) c e)) := by
  refine PS.weak (ps_setLc (i := i) hc hN hy hyl (sw_true hk hyl hln hno) hi ok hg ht he hs) fun D σ H ⟨W, ρ, ah, rh, rs, p⟩ => ?_
  refine comp_core (Wx := Wx) hslots (TrE.to rh rs p fun v ah1 W1 H1 w s R1 S1 r q => ?_)
  exact q W1 H1 _ (Step.refl _ _) R1 (S1.set r i)
end
end Ko

/-! Ko, part K: defs of the text: what a call of one does, how one is called, how its body makes it so. -/
namespace Ko
open PySem L2

/-- the room of depth k -/
abbrev rm (k : Nat) : Nat := 2 * k + 2
def isVis (sc : Scope) (x : Str) : Bool := match sc.names.lookup x with | some .local => true | some .cell => true | some .free => true | _ => false
def isGl (sc : Scope) (x : Str) : Bool := match sc.names.lookup x with | some .globalImplicit => true | _ => false
def isLo (sc : Scope) (x : Str) : Bool := match sc.names.lookup x with | some .local => true | _ => false
/-- a context in which defs of depth k may be called; sc: the scope as the text has it -/
structure Ctx (k : Nat) (sc : Scope) (X : Cx) (Wx : WX) : Prop where
  sm : SM X
  gd : X.A.guards = some []
  room : Room (rm k) X.A
  calm : X.calm = true
  nd : X.N.Nodup
  po : PassesOwn (model X.prog X.w) X.A X.env X.xe
  tk : Takes X Wx
  vis : ∀ x, isVis sc x = true → Vis X.env.scope x
  loc : ∀ x, isLoc sc x = true → L2.Loc X.env.scope x ∧ (X.fn x = true ∨ X.env.scope.names.lookup x = some .local)
  lo : ∀ x, isLo sc x = true → X.env.scope.names.lookup x = some .local
  gl : ∀ x, isGl sc x = true → Gl X x
  up : ∀ x, (sc.names.lookup x = some .cell ∨ sc.names.lookup x = some .free) → X.env.scope.names.lookup x = some .cell ∨ X.env.scope.names.lookup x = some .free
  kind : X.env.scope.kind = .function
theorem Ctx.cal {k : Nat} {sc : Scope} {X : Cx} {Wx : WX} (c : Ctx k sc X Wx) : Cal X := ⟨c.sm, c.gd, c.room.units, c.calm⟩
theorem takes_none {X : Cx} : Takes X Wx0 := fun _ _ ⟨_, _, _, _, _, _, _, _, _, _, _, _, _, _, _, _, w⟩ => w.elim
theorem rel_free {sc : Scope} : ∀ {names : List (Str × NameKind)} {x : Str}, names.lookup x = some .free →
    (names.map fun (n, k) => if (k == NameKind.free && sc.kind == .function && sc.names.lookup n == some .cell) then (n, NameKind.cell) else (n, k)).lookup x = some .free ∨
    (names.map fun (n, k) => if (k == NameKind.free && sc.kind == .function && sc.names.lookup n == some .cell) then (n, NameKind.cell) else (n, k)).lookup x = some .cell
  | [], _, h => by simp at h
  | (n, k0) :: r, x, h => by
    have ih := @rel_free sc r x
    cases hx : x == n with
    | true =>
      simp only [List.lookup_cons, hx] at h
      cases h
      by_cases hc : (NameKind.free == NameKind.free && sc.kind == .function && sc.names.lookup n == some .cell) = true
      · refine .inr ?_
        simp only [List.map_cons]
        rw [if_pos hc]
        simp only [List.lookup_cons, hx]
      · refine .inl ?_
        simp only [List.map_cons]
        rw [if_neg hc]
        simp only [List.lookup_cons, hx]
    | false =>
      simp only [List.lookup_cons, hx] at h
      by_cases hc : (k0 == NameKind.free && sc.kind == .function && sc.names.lookup n == some .cell) = true
      · simp only [List.map_cons]
        rw [if_pos hc]
        simp only [List.lookup_cons, hx]
        exact ih h
      · simp only [List.map_cons]
        rw [if_neg hc]
        simp only [List.lookup_cons, hx]
        exact ih h
theorem Ctx.blk {k : Nat} {sc : Scope} {X : Cx} {Wx : WX} (c : Ctx k sc X Wx) {scope : Scope} (hk : scope.kind = .function) (s : Shared) (H : Hp) (C : Addr) (cl : List (Str × Addr)) (fp : List Addr) :
    Ctx k scope (X.blk s H scope (compEnvC scope cl C X.env) fp) Wx0 where
  sm := c.sm
  gd := c.gd
  room := c.room
  calm := c.calm
  nd := c.nd
  po := PassesOwn.never
  tk := takes_none
  vis := fun x h => by
    unfold isVis at h
    split at h
    · rename_i e; exact .inl (lookup_relS_keep (sc := X.env.scope) (by decide) e)
    · rename_i e; exact .inr (.inl (lookup_relS_keep (sc := X.env.scope) (by decide) e))
    · rename_i e
      rcases rel_free (sc := X.env.scope) e with q | q
      · exact .inr (.inr q)
      · exact .inr (.inl q)
    · exact absurd h Bool.false_ne_true
  loc := fun x h => by
    unfold isLoc at h
    split at h
    · rename_i e
      have q : (relabel scope X.env).names.lookup x = some .local := lookup_relS_keep (sc := X.env.scope) (by decide) e
      exact ⟨.inl q, .inr q⟩
    · rename_i e
      refine ⟨.inr (lookup_relS_keep (sc := X.env.scope) (by decide) e), .inl ?_⟩
      show (scope.names.lookup x == some NameKind.cell) = true
      rw [e]; rfl
    · exact absurd h Bool.false_ne_true
  lo := fun x h => by
    unfold isLo at h
    split at h
    · rename_i e; exact lookup_relS_keep (sc := X.env.scope) (by decide) e
    · exact absurd h Bool.false_ne_true
  gl := fun x h => by
    unfold isGl at h
    split at h
    · rename_i e; exact lookup_relS_keep (sc := X.env.scope) (by decide) e
    · exact absurd h Bool.false_ne_true
  up := fun x h => by
    rcases h with e | e
    · exact .inl (lookup_relS_keep (sc := X.env.scope) (by decide) e)
    · rcases rel_free (sc := X.env.scope) e with q | q
      · exact .inr q
      · exact .inl q
  kind := hk

section
variable (P : Program) (w : World) (K : PySem.W.Frag) (mg : Str → Option Value) (base : Heap) (nm : Nm)
/-- the def at fa keeps what sem says -/
structure FnG (k : Nat) (fa : Addr) (fd : FuncData) (ps : List Str) (sem : List AV → AH → Ot AV) : Prop where
  run : ∀ (A : Around) (outer : List Env) (s : Shared) (H : Hp) (args : Args) (us : List Value) (vs : List V) (W : Wd) (xs : List AV) (ah : AH) (Q : VK) (E : XK), Room (rm k + 1) A → A.guards = some [] → Env0 P w K mg base A outer s H → BindsTo s fd args (ps.zip us) → Vals vs us →
    RelH K nm W ah H → W.RVs K xs vs → xs.length = ps.length → Post K nm W H (sem xs ah) (fun v _ W' H' => ∀ w, W'.RV K v w → Q w H') (fun x _ W' H' => ∀ cls d, ExRep K nm W' x cls d → E cls d H') →
    codeAny (model P w) A (.call (.ref fa) args) (CR (CX P w) outer P w H s Q E) s
end

section
variable {nm : Nm} {X : Cx} {Wx : WX}
/-- behind the callee -/
theorem called {k : Nat} {sc : Scope} (c : Ctx (k + 1) sc X Wx) {fa : Addr} {fd : FuncData} {ps : List Str} {sem : List AV → AH → Ot AV} (F : FnG X.prog X.w X.K X.mg X.base nm k fa fd ps sem) {pins : List (Addr × Obj)} {s : Shared} {σ : St} {H : Hp} (I : L2.Inv X pins σ H s)
    {us kw : List Value} {ks : List Str} {bs : List Value} {vs : List V} {W : Wd} {xs : List AV} {ah : AH} {Q : VK} (hb : BindsTo s fd ⟨us, ks.zip kw⟩ (ps.zip bs)) (r : Vals vs bs) (R : RelH X.K nm W ah H) (rv : W.RVs X.K xs vs) (hl : xs.length = ps.length)
    (p : Post X.K nm W H (sem xs ah) (fun v _ W' H' => ∀ w, W'.RV X.K v w → Q w H') (xw X.K nm Wx σ)) : wpAny (model X.prog X.w) X.A (PySem.call (.ref fa) us (ks.zip kw)) (EP X pins σ Q) X.xe s := by
  refine wpAny_call (codeAny_mono (F.run X.A X.stack s H _ bs vs W xs ah Q (fun cls d H' => Wx cls d σ H') (c.room.mono (by show rm k + 1 ≤ rm (k + 1); unfold rm; omega)) c.gd I.env0 hb r R rv hl p) fun res s' hq => ?_)
  match res, hq with
  | .error e, hq => exact c.tk e s' (XE.of_call I (fun _ _ _ h => h) hq)
  | .ok (.ret u), hq => exact I.after hq
def callF (sem : List AV → AH → Ot AV) (n : Nat) (a : Rho → AH → Ot (List AV)) : Rho → AH → Ot AV := fun ρ ah => (a ρ ah).bind fun xs ah1 => if xs.length = n then sem xs ah1 else .st
/-- f(e, ..) -/
theorem ev_call {k : Nat} {sc : Scope} (c : Ctx (k + 1) sc X Wx) {fa : Addr} {fd : FuncData} {ps : List Str} {sem : List AV → AH → Ot AV} {x : Str} {p pos : Pos} {e : Expr} {es : List Expr} {a : Rho → AH → Ot (List AV)} (F : FnG X.prog X.w X.K X.mg X.base nm k fa fd ps sem)
    (hg : Gl X x) (hm : X.mg x = some (.ref fa)) (hk : PySem.W.keepIn X.K (.ref fa) = true) (hb : Binds X.K fd ps []) (hdb : (x == ("__debug__" : Str)) = false) (ha : EA nm X Wx (e :: es) a) (hst : (e :: es).all notSt = true) : EV nm X Wx (.Call (.Name x p) (e :: es) [] pos) (callF sem ps.length a) := by
  refine ⟨fun pins s σ H Q I ⟨W, ρ, ah, rh, rs, pp⟩ => ?_⟩
  refine wpAny_Call_Name_kw (ld_glob I hg hm ?_ hdb)
  have start : TrA nm X.K Wx a σ H (fun vs H1 => ∃ W1 ah1 xs, Step W H W1 H1 ∧ RelH X.K nm W1 ah1 H1 ∧ W1.RVs X.K xs vs ∧ Post X.K nm W1 H1 (if xs.length = ps.length then sem xs ah1 else .st) (fun v _ W' H' => ∀ w, W'.RV X.K v w → Q w H') (xw X.K nm Wx σ)) :=
    TrA.seqB rh rs pp fun xs ah1 W1 H1 vs s1 R1 S1 v1 q => ⟨W1, ah1, xs, s1, R1, v1, q⟩
  rw [List.all_cons, Bool.and_eq_true] at hst
  refine PySem.W.callWith_K (h₀ := X.base) I.ok.mod.kin hk (thn (ha.run pos pins s σ H _ I start) fun us s1 ⟨vs, H1, I1, r1, W1, ah1, xs, s2, R1, v1, q⟩ => ⟨I1.kIn, ?_⟩) (star_cons hst.1) (star_plain pos X.env hst.2)
  split at q
  · rename_i hl
    have hbt := hb s1 us I1.kIn (by rw [List.append_nil, ← r1.length, v1.length, hl])
    rw [List.append_nil] at hbt
    exact called (ks := []) (kw := []) c F I1 hbt r1 R1 v1 hl q
  · exact False.elim q
/-- f() -/
theorem ev_call0 {k : Nat} {sc : Scope} (c : Ctx (k + 1) sc X Wx) {fa : Addr} {fd : FuncData} {ps : List Str} {sem : List AV → AH → Ot AV} {x : Str} {p pos : Pos} (F : FnG X.prog X.w X.K X.mg X.base nm k fa fd ps sem)
    (hg : Gl X x) (hm : X.mg x = some (.ref fa)) (hk : PySem.W.keepIn X.K (.ref fa) = true) (hb : Binds X.K fd ps []) (hdb : (x == ("__debug__" : Str)) = false) : EV nm X Wx (.Call (.Name x p) [] [] pos) (callF sem ps.length aNil) := by
  refine ⟨fun pins s σ H Q I ⟨W, ρ, ah, rh, rs, pp⟩ => ?_⟩
  refine wpAny_Call_Name_kw (ld_glob I hg hm ?_ hdb)
  refine PySem.W.callWith_K0 I.kIn hk ?_
  have q : Post X.K nm W H (if ([] : List AV).length = ps.length then sem [] ah else .st) (fun v _ W' H' => ∀ w, W'.RV X.K v w → Q w H') (xw X.K nm Wx σ) := pp
  split at q
  · rename_i hl
    have hbt := hb s [] I.kIn hl
    exact called (ks := []) (kw := []) (us := []) c F I hbt .nil rh .nil hl q
  · exact False.elim q
/-! keywords -/
def kwF (a : Rho → AH → Ot (List AV)) (b : Rho → AH → Ot (List AV)) (np nk : Nat) (perm : List Nat) : Rho → AH → Ot (List AV) := fun ρ ah => (a ρ ah).bind fun xs ah1 => (b ρ ah1).bind fun ys ah2 =>
  if xs.length = np ∧ ys.length = nk then .ok (xs ++ perm.map fun i => ys.getD i .non) ah2 else .st
/-- how keywords bind: the positional ones first, then the keywords' by perm -/
def KwB (K : PySem.W.Frag) (fd : FuncData) (ps ks : List Str) (np : Nat) (perm : List Nat) : Prop :=
  ∀ (s : Shared) (us ws : List Value), K.In s.heap → us.length = np → ws.length = ks.length → BindsTo s fd ⟨us, ks.zip ws⟩ (ps.zip (us ++ perm.map fun i => ws.getD i .none))
def EK (nm : Nm) (X : Cx) (Wx : WX) (e : List Keyword) (f : Rho → AH → Ot (List AV)) : Prop := PK X e (TrA nm X.K Wx f)
theorem PK.weak {X : Cx} {e : List Keyword} {t t' : TA} (h : PK X e t) (w : ∀ σ H Q, t' σ H Q → t σ H Q) : PK X e t' := ⟨fun p pins s σ H Q I q => h.run p pins s σ H Q I (w σ H Q q)⟩
theorem ek_nil : EK nm X Wx [] aNil := PK.weak pk_nil fun σ H Q ⟨W, ρ, ah, rh, rs, p⟩ => p W H (Step.refl _ _) rh [] .nil
theorem ek_cons {e : Expr} {n : Option Str} {kpos : Pos} {es : List Keyword} {fa : Rho → AH → Ot AV} {fb : Rho → AH → Ot (List AV)} (ha : EV nm X Wx e fa) (hb : EK nm X Wx es fb) : EK nm X Wx (⟨n, e, kpos⟩ :: es) (aCons fa fb) := by
  refine PK.weak (pk_cons ha hb) fun σ H Q ⟨W, ρ, ah, rh, rs, p⟩ => ?_
  refine TrE.seqB rh rs p fun x ah1 W1 H1 w1 s1 R1 S1 v1 p1 => TrA.seqB R1 S1 p1 fun y ah2 W2 H2 w2 s2 R2 S2 v2 p2 => ?_
  exact p2 W2 H2 (Step.refl _ _) R2 _ (.cons (v1.step s2) v2)
def kwNames : List Keyword → Option (List Str)
  | [] => some []
  | ⟨some n, _, _⟩ :: r => (kwNames r).map (n :: ·)
  | _ => none
theorem kw_of (pos : Pos) (env : Env) : ∀ {kws : List Keyword} {ks : List Str}, kwNames kws = some ks → (backToKw pos (keywordEach kws env)).all (·.1.isSome) = true ∧ (backToKw pos (keywordEach kws env)).filterMap (·.1) = ks ∧ (backToKw pos (keywordEach kws env)).any (·.1.isNone) = false
  | [], _, e => by cases e; exact ⟨rfl, rfl, rfl⟩
  | ⟨some n, v, p⟩ :: r, ks, e => by
    simp only [kwNames, Option.map_eq_some_iff] at e
    obtain ⟨ks', e1, rfl⟩ := e
    obtain ⟨h1, h2, h3⟩ := kw_of pos env e1
    refine ⟨?_, ?_, ?_⟩
    · show (true && (backToKw pos (keywordEach r env)).all (·.1.isSome)) = true
      rw [h1]; rfl
    · show n :: (backToKw pos (keywordEach r env)).filterMap (·.1) = n :: ks'
      rw [h2]
    · show (false || (backToKw pos (keywordEach r env)).any (·.1.isNone)) = false
      rw [h3]; rfl
  | ⟨none, v, p⟩ :: r, ks, e => by simp [kwNames] at e
theorem vals_perm {vs : List V} {us : List Value} (r : Vals vs us) : ∀ perm : List Nat, Vals (perm.map fun i => vs.getD i .non) (perm.map fun i => us.getD i .none)
  | [] => .nil
  | i :: l => .cons (by
      cases q : vs[i]? with
      | some v =>
        obtain ⟨u, h1, h2⟩ := r.get q
        show RelV (vs.getD i .non) (us.getD i .none)
        rw [List.getD_eq_getElem?_getD, List.getD_eq_getElem?_getD, q, h1]; exact h2
      | none =>
        show RelV (vs.getD i .non) (us.getD i .none)
        rw [List.getD_eq_getElem?_getD, List.getD_eq_getElem?_getD, q, r.none_of q]; exact rfl) (vals_perm r l)
theorem rvs_perm {K : PySem.W.Frag} {W : Wd} {xs : List AV} {vs : List V} (r : W.RVs K xs vs) : ∀ perm : List Nat, W.RVs K (perm.map fun i => xs.getD i .non) (perm.map fun i => vs.getD i .non)
  | [] => .nil
  | i :: l => .cons (by
      cases q : xs[i]? with
      | some x =>
        obtain ⟨v, h1, h2⟩ := r.get q
        show Ko.RV K W.fz W.io (xs.getD i .non) (vs.getD i .non)
        rw [List.getD_eq_getElem?_getD, List.getD_eq_getElem?_getD, q, h1]; exact h2
      | none =>
        have q' : vs[i]? = none := by
          rw [List.getElem?_eq_none_iff, r.length]
          exact List.getElem?_eq_none_iff.mp q
        show Ko.RV K W.fz W.io (xs.getD i .non) (vs.getD i .non)
        rw [List.getD_eq_getElem?_getD, List.getD_eq_getElem?_getD, q, q']; exact .non) (rvs_perm r l)
theorem ev_callK {k : Nat} {sc : Scope} (c : Ctx (k + 1) sc X Wx) {fa : Addr} {fd : FuncData} {ps ks : List Str} {np : Nat} {perm : List Nat} {sem : List AV → AH → Ot AV} {x : Str} {p pos : Pos} {es : List Expr} {kws : List Keyword} {a b : Rho → AH → Ot (List AV)} (F : FnG X.prog X.w X.K X.mg X.base nm k fa fd ps sem)
    (hg : Gl X x) (hm : X.mg x = some (.ref fa)) (hk : PySem.W.keepIn X.K (.ref fa) = true) (hb : KwB X.K fd ps ks np perm) (hdb : (x == ("__debug__" : Str)) = false) (ha : es = [] ∧ a = aNil ∨ es ≠ [] ∧ EA nm X Wx es a) (hkw : EK nm X Wx kws b) (hn : kwNames kws = some ks) (hst : es.all notSt = true) :
    EV nm X Wx (.Call (.Name x p) es kws pos) (callF sem ps.length (kwF a b np ks.length perm)) := by
  refine ⟨fun pins s σ H Q I ⟨W, ρ, ah, rh, rs, pp⟩ => ?_⟩
  refine wpAny_Call_Name_kw (ld_glob I hg hm ?_ hdb)
  obtain ⟨k1, k2, k3⟩ := kw_of pos X.env hn
  have tail : ∀ (us : List Value) (s1 : Shared) (vs : List V) (H1 : Hp) (W1 : Wd) (ah1 : AH) (xs : List AV), L2.Inv X pins σ H1 s1 → Vals vs us → RelH X.K nm W1 ah1 H1 → RS X.K W1 ρ σ → W1.RVs X.K xs vs →
      Post X.K nm W1 H1 (((b ρ ah1).bind fun ys ah2 => if xs.length = np ∧ ys.length = ks.length then .ok (xs ++ perm.map fun i => ys.getD i .non) ah2 else .st).bind fun xs ah1 => if xs.length = ps.length then sem xs ah1 else .st) (fun v _ W' H' => ∀ w, W'.RV X.K v w → Q w H') (xw X.K nm Wx σ) →
      wpAny (model X.prog X.w) X.A (evalAll ((backToKw pos (keywordEach kws X.env)).map (·.2))) (fun ws s2 => X.K.In s2.heap ∧ wpAny (model X.prog X.w) X.A (PySem.call (.ref fa) us (((backToKw pos (keywordEach kws X.env)).filterMap (·.1)).zip ws)) (EP X pins σ Q) X.xe s2) X.xe s1 := by
    intro us s1 vs H1 W1 ah1 xs I1 r1 R1 S1 v1 q
    have q := q.bind.bind
    refine thn (hkw.run pos pins s1 σ H1 (fun zs H2 => ∃ W2 ah2 ys, Step W1 H1 W2 H2 ∧ RelH X.K nm W2 ah2 H2 ∧ W2.RVs X.K ys zs ∧ Post X.K nm W2 H2 ((if xs.length = np ∧ ys.length = ks.length then Ot.ok (xs ++ perm.map fun i => ys.getD i .non) ah2 else .st).bind fun xs ah1 => if xs.length = ps.length then sem xs ah1 else .st) (fun v _ W' H' => ∀ w, W'.RV X.K v w → Q w H') (xw X.K nm Wx σ)) I1
      ⟨W1, ρ, ah1, R1, S1, q.imp (fun ys ah2 W2 H2 s2 R2 q2 zs r2 => ⟨W2, ah2, ys, s2, R2, r2, ?_⟩) fun _ _ _ _ _ _ q => q⟩) fun ws s2 ⟨zs, H2, I2, rz, W2, ah2, ys, s12, R2, v2, q2⟩ => ⟨I2.kIn, ?_⟩
    · split at q2
      · rename_i hl; rw [if_pos hl]; exact Post.shift (Step.refl _ _) (q2 W2 H2 (Step.refl _ _) R2)
      · exact False.elim q2
    · split at q2
      · rename_i hl
        have q3 : Post X.K nm W2 H2 (if (xs ++ perm.map fun i => ys.getD i .non).length = ps.length then sem (xs ++ perm.map fun i => ys.getD i .non) ah2 else .st) (fun v _ W' H' => ∀ w, W'.RV X.K v w → Q w H') (xw X.K nm Wx σ) := q2
        split at q3
        · rename_i hl2
          rw [k2]
          have hbt := hb s2 us ws I2.kIn (by rw [← r1.length, v1.length]; exact hl.1) (by rw [← rz.length, v2.length]; exact hl.2)
          exact called c F I2 hbt (r1.append (vals_perm rz perm)) R2 ((v1.step s12).append (rvs_perm v2 perm)) hl2 q3
        · exact False.elim q3
      · exact False.elim q2
  rcases ha with ⟨rfl, rfl⟩ | ⟨hne, ha⟩
  · exact PySem.W.callWith_KW0 (h₀ := X.base) I.ok.mod.kin hk k1 (tail [] s [] H W ah [] I .nil rh rs .nil pp) (by rw [k3]; rfl)
  · have start : TrA nm X.K Wx a σ H (fun vs H1 => ∃ W1 ah1 xs, Step W H W1 H1 ∧ RelH X.K nm W1 ah1 H1 ∧ RS X.K W1 ρ σ ∧ W1.RVs X.K xs vs ∧ Post X.K nm W1 H1 (((b ρ ah1).bind fun ys ah2 => if xs.length = np ∧ ys.length = ks.length then .ok (xs ++ perm.map fun i => ys.getD i .non) ah2 else .st).bind fun xs ah1 => if xs.length = ps.length then sem xs ah1 else .st) (fun v _ W' H' => ∀ w, W'.RV X.K v w → Q w H') (xw X.K nm Wx σ)) :=
      ⟨W, ρ, ah, rh, rs, by
        have pp : Post X.K nm W H (((a ρ ah).bind fun xs ah1 => (b ρ ah1).bind fun ys ah2 => if xs.length = np ∧ ys.length = ks.length then .ok (xs ++ perm.map fun i => ys.getD i .non) ah2 else .st).bind fun xs ah1 => if xs.length = ps.length then sem xs ah1 else .st) (fun v _ W' H' => ∀ w, W'.RV X.K v w → Q w H') (xw X.K nm Wx σ) := pp
        cases e : a ρ ah with
        | ok xs ah1 => rw [e] at pp; exact fun W1 H1 s1 R1 vs r => ⟨W1, ah1, xs, s1, R1, rs.step s1, r, Post.shift s1 pp⟩
        | ex x ah1 => rw [e] at pp; exact pp
        | st => rw [e] at pp; exact pp⟩
    cases es with
    | nil => exact absurd rfl hne
    | cons e es =>
      have hst' := hst
      rw [List.all_cons, Bool.and_eq_true] at hst
      exact PySem.W.callWith_KW (h₀ := X.base) I.ok.mod.kin hk k1 (thn (ha.run pos pins s σ H _ I start) fun us s1 ⟨vs, H1, I1, r1, W1, ah1, xs, s2, R1, S1, v1, q⟩ => tail us s1 vs H1 W1 ah1 xs I1 r1 R1 S1 v1 q) (by rw [star_plain pos X.env hst', k3]; rfl) (star_cons hst.1)
end
end Ko

/-! Ko, part L: a def by its body. -/
namespace Ko
open PySem L2
def startA (N : List Str) (xs : List AV) : Rho := xs.map some ++ List.replicate (N.length - xs.length) none
def SR.fin : SR → Ot AV
  | .rt v ah => .ok v ah
  | .nx _ ah => .ok .non ah
  | .ex x _ ah => .ex x ah
  | _ => .st
theorem rs_app {K : PySem.W.Frag} {W : Wd} {ρ : Rho} {σ : St} (h : RS K W ρ σ) : ∀ {xs : List AV} {vs : List V}, W.RVs K xs vs → RS K W (xs.map some ++ ρ) (vs.map some ++ σ)
  | _, _, .nil => h
  | _, _, .cons r t => .kn r (rs_app h t)
theorem rs_none {K : PySem.W.Frag} {W : Wd} : ∀ n : Nat, RS K W (List.replicate n none) (List.replicate n none)
  | 0 => .nil
  | n + 1 => .un (rs_none n)
theorem rs_start {K : PySem.W.Frag} {W : Wd} {N : List Str} {xs : List AV} {vs : List V} (r : W.RVs K xs vs) : RS K W (startA N xs) (L2.start N vs) := by
  unfold startA L2.start
  rw [r.length]
  exact rs_app (rs_none _) r
section
variable {P : Program} {w : World} {K : PySem.W.Frag} {mg : Str → Option Value} {base : Heap} {nm : Nm}
theorem FnG.by {k : Nat} {x qual : Str} {st : Stmt} {fa : Addr} {fd : FuncData} {N ps : List Str} {f : Rho → AH → SR} (F : Fun K x qual st fa fd) (S : FnScope N ps (defScope st)) (hsm : ∃ o es ep, base.get? sysModules = some o ∧ o.data = .dict es ep)
    (hbody : ∀ (cdv : Value) (A : Around) (outer : List Env) (s : Shared) (H : Hp) (E : XK), Ctx k (defScope st) (cxOf (CX P w) P w K mg base N qual (defScope st) fa cdv A outer s H E) (fun cls d _ H' => E cls d H') →
      ESs nm (cxOf (CX P w) P w K mg base N qual (defScope st) fa cdv A outer s H E) (fun cls d _ H' => E cls d H') (defBody st) f) : FnG P w K mg base nm k fa fd ps (fun xs ah => (f (startA N xs) ah).fin) := by
  obtain ⟨oc, od, kV, doc, pm, an, cdv, ct, osl, rfl, lk, hcd⟩ := F.ex
  refine ⟨fun A outer s H args us vs W xs ah Q E hr hgd e0 hb r R rv hl p => ?_⟩
  have hlv : vs.length = ps.length := by rw [rv.length, hl]
  have KX : K.In s.heap := e0.mod.kin.keeps fun b o e => (e0.bs b o e).1
  have lim : s.heap.NoLimit := e0.mod.nolimit.keeps fun b o e => (e0.bs b o e).1
  have hkind : ∀ y ∈ ps.zip us, (defScope st).names.lookup y.1 = some .local ∨ ((defScope st).names.lookup y.1 = some .cell ∧ ((cellsFrom (s.heap.objs.size + 1) (defScope st).names []).lookup y.1).isSome = true) := by
    rintro ⟨n, v⟩ hy
    rcases S.par n (List.of_mem_zip hy).1 with q | q
    · exact Or.inl q
    · exact Or.inr ⟨q, PySem.W.cellsFrom_some _ _ _ (Or.inl q)⟩
  refine codeAny_call_function hr.depth (KX _ _ lk) rfl S.co S.gen rfl (PySem.W.codeRec_of KX hcd) (hb _ _ _ _ ?_)
  refine wpAny_newFunctionEnv_cells S.kind hkind fun env he s1 x => ?_
  subst he
  refine ⟨lim.keeps x.toInCall.keep, codeAny_func ?_⟩
  have I := inv_start (CX := CX P w) (N := N) (E := E) S hr.hd e0 hlv r x
  have C : Ctx k (defScope st) (cxOf (CX P w) P w K mg base N qual (defScope st) fa cdv A outer s H E) (fun cls d _ H' => E cls d H') := by
    refine ⟨hsm, hgd, hr.deeper _, rfl, S.nd, passes_of rfl, takes_of rfl rfl rfl rfl, fun x h => ?_, fun x h => ?_, fun x h => ?_, fun x h => ?_, fun x h => h, S.kind⟩
    · unfold isVis at h
      split at h
      · rename_i e; exact .inl e
      · rename_i e; exact .inr (.inl e)
      · rename_i e; exact .inr (.inr e)
      · exact absurd h Bool.false_ne_true
    · exact ⟨loc_of h, .inl rfl⟩
    · unfold isLo at h
      split at h
      · rename_i e; exact e
      · exact absurd h Bool.false_ne_true
    · unfold isGl at h
      split at h
      · rename_i e; exact e
      · exact absurd h Bool.false_ne_true
  have B := hbody cdv A outer s H E C
  refine wpAny_mono (B.run [] s1 (L2.start N vs) H { nx := fun _ H' => Q .non H', rt := Q } I ⟨W, startA N xs, ah, R, rs_start rv, ?_⟩) (fun fl s' hs => ?_) fun e s' hs => hs
  · cases q : f (startA N xs) ah with
    | rt v ah' => rw [q] at p; exact fun W' H' w s R r => p W' H' s R w r
    | nx ρ ah' => rw [q] at p; exact fun W' H' σ' s R _ => p W' H' s R _ .non
    | ex x ρ ah' => rw [q] at p; exact fun W' H' σ' cls d s R _ h => p W' H' s R cls d h
    | bk ρ ah' => rw [q] at p; exact False.elim p
    | ct ρ ah' => rw [q] at p; exact False.elim p
    | st => rw [q] at p; exact False.elim p
  · match fl, hs with
    | .ret u, ⟨v, σ', H', J, rv, q⟩ => exact ⟨v, H', J.os, J.bare, J.base, J.hok, rv, q⟩
    | .next, ⟨σ', H', J, q⟩ => exact ⟨V.non, H', J.os, J.bare, J.base, J.hok, (show RelV V.non Value.none from rfl), q⟩
    | .brk, ⟨_, _, _, q⟩ => exact False.elim q
    | .cont, ⟨_, _, _, q⟩ => exact False.elim q
end
end Ko

/-! Ko, part M: and, or, not as values; op= ; stores into lists. -/
namespace Ko
open PySem L2
section
variable {nm : Nm} {X : Cx} {Wx : WX} {K : PySem.W.Frag}
def andF (a b : Rho → AH → Ot AV) : Rho → AH → Ot AV := fun ρ ah => (a ρ ah).bind fun x ah1 => match truF ah1 x with | some true => b ρ ah1 | some false => .ok x ah1 | none => .st
def orF (a b : Rho → AH → Ot AV) : Rho → AH → Ot AV := fun ρ ah => (a ρ ah).bind fun x ah1 => match truF ah1 x with | some true => .ok x ah1 | some false => b ρ ah1 | none => .st
def notF (a : Rho → AH → Ot AV) : Rho → AH → Ot AV := f1 (fun ah x => (truF ah x).map fun b => .bl (!b)) a
theorem ev_and {a b : Expr} {rest : List Expr} {fa fb : Rho → AH → Ot AV} {pos : Pos} (ha : EV nm X Wx a fa) (hb : EV nm X Wx (.BoolOp .And (b :: rest) pos) fb) : EV nm X Wx (.BoolOp .And (a :: b :: rest) pos) (andF fa fb) := by
  refine PE.weak (pe_andT ha hb) fun σ H Q ⟨W, ρ, ah, rh, rs, p⟩ => ?_
  refine TrE.seq rh rs p fun x ah1 W1 H1 w s1 R1 S1 v1 p1 => ?_
  split at p1
  · rename_i e
    refine ⟨true, tru_of R1 v1 e, ?_⟩
    rw [if_pos rfl]
    exact ⟨W1, ρ, ah1, R1, S1, p1⟩
  · rename_i e
    refine ⟨false, tru_of R1 v1 e, ?_⟩
    rw [if_neg Bool.false_ne_true]
    exact p1 W1 H1 (Step.refl _ _) R1 w v1
  · exact False.elim p1
theorem ev_or {a b : Expr} {rest : List Expr} {fa fb : Rho → AH → Ot AV} {pos : Pos} (ha : EV nm X Wx a fa) (hb : EV nm X Wx (.BoolOp .Or (b :: rest) pos) fb) : EV nm X Wx (.BoolOp .Or (a :: b :: rest) pos) (orF fa fb) := by
  refine PE.weak (pe_orT ha hb) fun σ H Q ⟨W, ρ, ah, rh, rs, p⟩ => ?_
  refine TrE.seq rh rs p fun x ah1 W1 H1 w s1 R1 S1 v1 p1 => ?_
  split at p1
  · rename_i e
    refine ⟨true, tru_of R1 v1 e, ?_⟩
    rw [if_pos rfl]
    exact p1 W1 H1 (Step.refl _ _) R1 w v1
  · rename_i e
    refine ⟨false, tru_of R1 v1 e, ?_⟩
    rw [if_neg Bool.false_ne_true]
    exact ⟨W1, ρ, ah1, R1, S1, p1⟩
  · exact False.elim p1
theorem ev_one {op : BoolOp} {a : Expr} {fa : Rho → AH → Ot AV} {pos : Pos} (ha : EV nm X Wx a fa) : EV nm X Wx (.BoolOp op [a] pos) fa := pe_one ha
theorem ew_one {op : BoolOp} {a : Expr} {fa : Rho → AH → Ot Bool} {pos : Pos} (ha : ET nm X Wx a fa) : EW nm X Wx (.BoolOp op [a] pos) fa := by
  cases op with
  | And => exact pw_and1 ha
  | Or => exact pw_or1 ha
theorem ev_not {a : Expr} {fa : Rho → AH → Ot AV} {pos : Pos} (ha : EV nm X Wx a fa) : EV nm X Wx (.UnaryOp .Not a pos) (notF fa) := by
  refine PE.weak (pe_notT ha) fun σ H Q ⟨W, ρ, ah, rh, rs, p⟩ => ?_
  refine TrE.seq rh rs p fun x ah1 W1 H1 w s1 R1 S1 v1 p1 => ?_
  obtain ⟨c, e, k⟩ := p1.of
  simp only [Option.map_eq_some_iff] at e
  obtain ⟨b, e1, rfl⟩ := e
  exact ⟨b, tru_of R1 v1 e1, k W1 H1 (Step.refl _ _) R1 _ (.bl _)⟩
/-! what never comes to an end needs nothing -/
def dead {α : Type} : Rho → AH → Ot α := fun _ _ => .st
def deadS : Rho → AH → SR := fun _ _ => .st
theorem ev_dead {e : Expr} : EV nm X Wx e dead := ⟨fun pins s σ H Q I ⟨W, ρ, ah, rh, rs, p⟩ => False.elim p⟩
theorem et_dead {e : Expr} : ET nm X Wx e dead := ⟨fun pins s σ H Q I ⟨W, ρ, ah, rh, rs, p⟩ => False.elim p⟩
theorem es_dead {e : Stmt} : ES nm X Wx e deadS := ⟨fun pins s σ H Q I ⟨W, ρ, ah, rh, rs, p⟩ => False.elim p⟩

/-! name op= e -/
def iopF : Operator → AH → AV → AV → Option AV
  | .Add, _, .int i, .int j => some (.int (i + j))
  | .Sub, _, .int i, .int j => some (.int (i - j))
  | _, _, _, _ => none
theorem ip_F (op : Operator) : PIp X op (r2 nm X.K (iopF op)) := by
  rintro pins s σ H x y v u Q I r1 r2 ⟨W, ah, a, b, c, R, ra, rb, e, k⟩
  unfold iopF at e
  split at e
  · cases ra; cases rb; cases e
    exact ip_add pins s σ H _ _ v u Q I r1 r2 ⟨_, _, rfl, rfl, k W H _ (Step.refl _ _) R (.int _)⟩
  · cases ra; cases rb; cases e
    exact ip_sub pins s σ H _ _ v u Q I r1 r2 ⟨_, _, rfl, rfl, k W H _ (Step.refl _ _) R (.int _)⟩
  · cases e
def augF (i : Nat) (op : Operator) (a : Rho → AH → Ot AV) : Rho → AH → SR := fun ρ ah => match ρ[i]? with
  | some (some x) => (a ρ ah).to ρ fun y ah1 => match iopF op ah1 x y with | some z => .nx (ρ.set i (some z)) ah1 | none => .st
  | _ => .st
theorem es_aug {i : Nat} {x : Str} {e : Expr} {op : Operator} {pos pos' : Pos} {fa : Rho → AH → Ot AV} (hN : X.N.Nodup) (hi : X.N[i]? = some x) (hx : L2.Loc X.env.scope x) (hf : X.fn x = true ∨ X.env.scope.names.lookup x = some .local) (ha : EV nm X Wx e fa) : ES nm X Wx (.AugAssign (.Name x pos') op e pos) (augF i op fa) := by
  refine PS.weak (ps_aug hN hi hx ha (ip_F (nm := nm) op) hf) fun D σ H ⟨W, ρ, ah, rh, rs, p⟩ => ?_
  unfold augF at p
  split at p
  · rename_i v e
    obtain ⟨w, h1, h2⟩ := rs.get e
    refine ⟨w, h1, TrE.to rh rs p fun y ah1 W1 H1 w1 s1 R1 S1 r1 q => ?_⟩
    split at q
    · rename_i z ez
      exact ⟨W1, ah1, v, y, z, R1, h2.step s1, r1, ez, fun W' H' w' s2 R2 r2 => q W' H' _ s2 R2 ((S1.step s2).set r2 i)⟩
    · exact False.elim q
  · exact False.elim p

/-! o[i] = e of a list -/
def lstPut (ah : AH) : AV → AV → AV → Option AH
  | .ref n, .int k, v => match ah[n]? with | some (.lst xs) => (ixN xs.length k).map fun j => ah.set n (.lst (xs.set j v)) | _ => none
  | _, _, _ => none
def subF' (o i a : Rho → AH → Ot AV) : Rho → AH → SR := fun ρ ah => (a ρ ah).to ρ fun v ah1 => (o ρ ah1).to ρ fun x ah2 => (i ρ ah2).to ρ fun y ah3 => match lstPut ah3 x y v with | some ah4 => .nx ρ ah4 | none => .st
theorem es_sub {o i e : Expr} {p2 pos : Pos} {fo fi fa : Rho → AH → Ot AV} (ho : EV nm X Wx o fo) (hi : EV nm X Wx i fi) (ha : EV nm X Wx e fa) (hn : notLC e = true) (hsl : noSlice i = true) : ES nm X Wx (.Assign [.Subscript o i p2] e pos) (subF' fo fi fa) := by
  have hs : swapsWithSole [Expr.Subscript o i p2] e pos.line X.env = pure false := by cases e <;> first | rfl | exact absurd hn Bool.false_ne_true
  refine PS.weak (ps_asg ha (pg_sub ho hi set_list (fun v => by cases i <;> first | rfl | exact absurd hsl Bool.false_ne_true)) hs rfl) fun D σ H ⟨W, ρ, ah, rh, rs, p⟩ => ?_
  refine TrE.to rh rs p fun v ah1 W1 H1 w1 s1 R1 S1 r1 q1 => TrE.to R1 S1 q1 fun x ah2 W2 H2 w2 s2 R2 S2 r2 q2 => TrE.to R2 S2 q2 fun y ah3 W3 H3 w3 s3 R3 S3 r3 q3 => ?_
  split at q3
  · rename_i ah4 e
    unfold lstPut at e
    split at e
    · split at e
      · rename_i hn
        simp only [Option.map_eq_some_iff] at e
        obtain ⟨j, e1, rfl⟩ := e
        cases r3
        have r2' := r2.step s3
        cases r2' with
        | ref h =>
          obtain ⟨vs, h1, h2⟩ := R3.at h hn
          have r1' := (r1.step s2).step s3
          have st := Step.write (o := .lst (vs.set j w1)) R3 h
          exact ⟨_, vs, _, j, rfl, rfl, h1, by rw [h2.length]; exact e1, q3 W3 _ σ st (R3.write h ⟨_, upd_same, h2.set r1' j⟩) S3⟩
      · cases e
    · cases e
  · exact False.elim q3
end
end Ko

/-! Ko, part Mx: {} ; stores of several names at once. -/
namespace Ko
open PySem L2
def foldedAll (vs : List Expr) : Bool := vs.all (foldedForSure 8)
def constAll (vs : List Expr) : Bool := vs.all (constantsAlone 8)
def starAny (vs : List Expr) : Bool := vs.any fun | .Starred .. => true | _ => false
def swN (sc : Scope) (ts : List Expr) : List Str := ts.filterMap fun
    | .Name id pos => if sc.names.lookup id == some .local && pos.line == (ts.head?.map (·.pos.line)).getD 0 then some id else none
    | _ => none
/-- the stores of a target that is no swapped one -/
def noSwap (sc : Scope) : Expr → Expr → Bool
  | .Tuple ts _ _, .Tuple vs _ _ => !(ts.length == 2 || ts.length == 3) || (!starAny vs && ((swN sc ts).length != ts.length || foldedAll vs))
  | .List _ _, _ => false
  | _, _ => true
def isSwap (sc : Scope) : List Expr → List Expr → List Str → Bool
  | ts, vs, xs => (ts.length == 2 || ts.length == 3) && vs.length == ts.length && !starAny vs && decide (swN sc ts = xs) && xs.length == ts.length && xs.eraseDups.length == xs.length && !foldedAll vs && !constAll vs
theorem swap_eq {env : Env} {ts vs : List Expr} {x z : Nat} {y w : Pos} : swappedStores [.Tuple ts x y] (.Tuple vs z w) env =
    (if (!(ts.length == 2 || ts.length == 3) || vs.length != ts.length || env.blockKind != .function) = true then pure none else
    if starAny vs = true then pure none else
    if ((swN env.scope ts).length != ts.length || (swN env.scope ts).eraseDups.length != (swN env.scope ts).length) = true then pure none else
    if foldedAll vs = true then pure none else
    if constAll vs = true then (do unsupported "assign.tuple-of-constant-expressions:order-of-the-stores"; pure (some (swN env.scope ts))) else pure (some (swN env.scope ts))) := rfl
section
variable {nm : Nm} {X : Cx} {Wx : WX} {K : PySem.W.Frag}
theorem swaps_none {env : Env} {tg v : Expr} (hk : env.scope.kind = .function) (h : noSwap env.scope tg v = true) : swappedStores [tg] v env = pure none := by
  have hb : (env.blockKind != .function) = false := by unfold Env.blockKind; rw [hk]; rfl
  cases tg with
  | Tuple ts x y =>
    cases v with
    | Tuple vs z w =>
      unfold noSwap at h
      rw [swap_eq, hb, Bool.or_false]
      simp only [Bool.or_eq_true, Bool.and_eq_true, Bool.not_eq_true'] at h
      rcases h with h | ⟨h2, h3⟩
      · rw [h]; rfl
      · split
        · rfl
        · rw [if_neg (by rw [h2]; exact Bool.false_ne_true)]
          rcases h3 with h3 | h3
          · rw [h3]; rfl
          · split
            · rfl
            · first | rfl | rw [if_pos h3]
    | _ => rfl
  | List ts x => exact absurd h Bool.false_ne_true
  | _ => rfl
theorem swaps_some {env : Env} {ts vs : List Expr} {x z : Nat} {y w : Pos} {xs : List Str} (hk : env.scope.kind = .function) (h : isSwap env.scope ts vs xs = true) : swappedStores [.Tuple ts x y] (.Tuple vs z w) env = pure (some xs) := by
  have hb : (env.blockKind != .function) = false := by unfold Env.blockKind; rw [hk]; rfl
  unfold isSwap at h
  simp only [Bool.and_eq_true, Bool.not_eq_true', decide_eq_true_eq] at h
  obtain ⟨⟨⟨⟨⟨⟨⟨h1, h2⟩, h3⟩, h4⟩, h5⟩, h6⟩, h7⟩, h8⟩ := h
  have g2 : (vs.length != ts.length) = false := by rw [bne, h2]; rfl
  have g5 : (xs.length != ts.length) = false := by rw [bne, h5]; rfl
  have g6 : (xs.eraseDups.length != xs.length) = false := by rw [bne, h6]; rfl
  rw [swap_eq, hb, h1, g2, h3, h4, g5, g6, h7, h8]
  rfl
/-! the stores -/
theorem TrA.to {f : Rho → AH → Ot (List AV)} {k : List AV → AH → SR} {D : Ends} {σ : St} {H : Hp} {R : List V → Hp → Prop} {W : Wd} {ρ : Rho} {ah : AH} (rh : RelH K nm W ah H) (rs : RS K W ρ σ) (p : PoS K nm Wx W H D ((f ρ ah).to ρ k))
    (h : ∀ a ah1 W1 H1 w, Step W H W1 H1 → RelH K nm W1 ah1 H1 → RS K W1 ρ σ → W1.RVs K a w → PoS K nm Wx W1 H1 D (k a ah1) → R w H1) : TrA nm K Wx f σ H R :=
  ⟨W, ρ, ah, rh, rs, (PoS.to rs p).imp (fun a ah1 W1 H1 s R1 q w r => h a ah1 W1 H1 w s R1 (rs.step s) r q) fun _ _ _ _ _ _ q => q⟩
def parF2 (i j : Nat) (a : Rho → AH → Ot (List AV)) : Rho → AH → SR := fun ρ ah => (a ρ ah).to ρ fun xs ah1 => match xs with
  | [x, y] => .nx ((ρ.set i (some x)).set j (some y)) ah1
  | _ => .st
def parF3 (i j l : Nat) (a : Rho → AH → Ot (List AV)) : Rho → AH → SR := fun ρ ah => (a ρ ah).to ρ fun xs ah1 => match xs with
  | [x, y, z] => .nx (((ρ.set i (some x)).set j (some y)).set l (some z)) ah1
  | _ => .st
theorem es_par2 {i j : Nat} {x y : Str} {a b : Expr} {fa : Rho → AH → Ot (List AV)} {px py pt pos : Pos} {kt k2 pt2} (hc : X.calm = true) (hN : X.N.Nodup) (hi : X.N[i]? = some x) (hj : X.N[j]? = some y) (hij : i ≠ j)
    (hx : X.env.scope.names.lookup x = some .local) (hy : X.env.scope.names.lookup y = some .local) (ha : EA nm X Wx [a, b] fa) (hk : X.env.scope.kind = .function) (hw : isSwap X.env.scope [.Name x px, .Name y py] [a, b] [x, y] = true) :
    ES nm X Wx (.Assign [.Tuple [.Name x px, .Name y py] kt pt] (.Tuple [a, b] k2 pt2) pos) (parF2 i j fa) := by
  refine PS.weak (ps_par hc hN hi hj hij hx hy ha (swaps_some hk hw)) fun D σ H ⟨W, ρ, ah, rh, rs, p⟩ => TrA.to rh rs p fun xs ah1 W1 H1 vs s1 R1 S1 v1 q => ?_
  split at q
  · obtain ⟨w, v, rfl, r1, r2⟩ := rvs2 v1
    exact ⟨w, v, rfl, q W1 H1 _ (Step.refl _ _) R1 ((S1.set r1 _).set r2 _)⟩
  · exact False.elim q
theorem es_par3 {i j l : Nat} {x y z : Str} {a b c : Expr} {fa : Rho → AH → Ot (List AV)} {px py pz pt pos : Pos} {kt k2 pt2} (hc : X.calm = true) (hN : X.N.Nodup) (hi : X.N[i]? = some x) (hj : X.N[j]? = some y) (hl : X.N[l]? = some z) (hij : i ≠ j) (hil : i ≠ l) (hjl : j ≠ l)
    (hx : X.env.scope.names.lookup x = some .local) (hy : X.env.scope.names.lookup y = some .local) (hz : X.env.scope.names.lookup z = some .local) (ha : EA nm X Wx [a, b, c] fa) (hk : X.env.scope.kind = .function) (hw : isSwap X.env.scope [.Name x px, .Name y py, .Name z pz] [a, b, c] [x, y, z] = true) :
    ES nm X Wx (.Assign [.Tuple [.Name x px, .Name y py, .Name z pz] kt pt] (.Tuple [a, b, c] k2 pt2) pos) (parF3 i j l fa) := by
  refine PS.weak (ps_par3 hc hN hi hj hl hij hil hjl hx hy hz ha (swaps_some hk hw)) fun D σ H ⟨W, ρ, ah, rh, rs, p⟩ => TrA.to rh rs p fun xs ah1 W1 H1 vs s1 R1 S1 v1 q => ?_
  split at q
  · cases v1 with
    | cons r0 v1 =>
      obtain ⟨w, v, rfl, r1, r2⟩ := rvs2 v1
      exact ⟨_, w, v, rfl, q W1 H1 _ (Step.refl _ _) R1 (((S1.set r0 _).set r1 _).set r2 _)⟩
  · exact False.elim q
/-! {} that nobody changes -/
def dic0F : Rho → AH → Ot AV := fun _ ah => .ok (.dct []) ah
theorem ev_dic0 {pos : Pos} : EV nm X Wx (.Dict [] [] pos) dic0F := PE.weak pe_dnewK fun σ H Q ⟨W, ρ, ah, rh, rs, p⟩ l hl =>
  p (W.keep l (.dK [])) _ (Step.keep rh hl) (rh.keep hl) _ (.dct upd_same .nil)
end
end Ko

/-! Ko, part My: append; a list of one's own out of another. -/
namespace Ko
open PySem L2
def isRef : AV → Bool | .ref _ => true | _ => false
def lstApp (ah : AH) : AV → AV → Option AH
  | .ref n, v => match ah[n]? with | some (.lst xs) => if xs.length < sizeLine then some (ah.set n (.lst (xs ++ [v]))) else none | _ => none
  | _, _ => none
def isLstR (ah : AH) : AV → Bool
  | .ref n => match ah[n]? with | some (.lst _) => true | _ => false
  | _ => false
/-- o.append(e) -/
def appF (o a : Rho → AH → Ot AV) : Rho → AH → Ot AV := fun ρ ah => (o ρ ah).bind fun x ah1 => if isLstR ah1 x = true then (a ρ ah1).bind fun y ah2 => match lstApp ah2 x y with | some ah3 => .ok .non ah3 | none => .st else .st
def seqA (ah : AH) : AV → Option (List AV)
  | .tup xs => some xs
  | a => asL ah a
/-- list(e), to be changed -/
def lstMF (a : Rho → AH → Ot AV) : Rho → AH → Ot AV := fun ρ ah => (a ρ ah).bind fun x ah1 => match seqA ah1 x with | some xs => .ok (.ref ah1.length) (ah1 ++ [.lst xs]) | none => .st
section
variable {nm : Nm} {X : Cx} {Wx : WX} {K : PySem.W.Frag}
theorem ev_app {o e : Expr} {fo fa : Rho → AH → Ot AV} {apos cpos : Pos} (ho : EV nm X Wx o fo) (ha : EV nm X Wx e fa) (hb : plainBase o = true) (hl : (apos.endLine == cpos.line) = true) (hs : notSt e = true) :
    EV nm X Wx (.Call (.Attribute o "append" apos) [e] [] cpos) (appF fo fa) := by
  have hs1 : [e].all notSt = true := by simpa using hs
  refine PE.weak (pe_bm PySem.F.plainAttrs_list PySem.F.slot_list_append PySem.F.type_list_append mt_append ho (pa_cons ha pa_nil (star_cons hs)) (base_of hb) ?_ hl (star_cons hs) (star_plain _ _ rfl)) fun σ H Q ⟨W, ρ, ah, rh, rs, p⟩ => ?_
  · have h1 := star_plain cpos X.env hs1
    have h2 : (backTo cpos (starEach [e] X.env)).all (fun x => !x.1) = true := by
      rw [List.all_eq_true]
      intro y hy
      have := List.any_eq_false.mp h1 y hy
      simpa using this
    rw [h2]; rfl
  refine TrE.seqB rh rs p fun x ah1 W1 H1 w1 s1 R1 S1 v1 p1 => ?_
  split at p1
  · rename_i hx
    cases v1 with
    | ref h =>
      rename_i n a
      obtain ⟨xs0, e0⟩ : ∃ xs, ah1[n]? = some (.lst xs) := by
        simp only [isLstR] at hx
        split at hx
        · rename_i xs q; exact ⟨xs, q⟩
        · cases hx
      obtain ⟨vs0, h0, _⟩ := R1.at h e0
      refine ⟨.inl ⟨rfl, _, SqL.of h0⟩, ?_⟩
      refine TrE.seqB R1 S1 p1 fun y ah2 W2 H2 w2 s2 R2 S2 v2 p2 => ?_
      have h' : W2.io[n]? = some a := by
        have := (show W1.RV X.K (.ref n) (.ref a) from .ref h).step s2
        cases this with
        | ref q => exact q
      unfold lstApp at p2
      dsimp only at p2
      cases e2 : ah2[n]? with
      | none => rw [e2] at p2; exact False.elim p2
      | some ob =>
        cases ob with
        | dct _ => rw [e2] at p2; exact False.elim p2
        | ins _ _ => rw [e2] at p2; exact False.elim p2
        | lst xs =>
          rw [e2] at p2
          dsimp only at p2
          split at p2
          · rename_i ah3 q
            split at q
            · rename_i hz
              cases q
              obtain ⟨vs, h3, r3⟩ := R2.at h' e2
              have st := Step.write (o := .lst (vs ++ [w2])) R2 h'
              exact ⟨a, vs, w2, rfl, rfl, h3, by rw [r3.length]; exact hz, p2 W2 _ st (R2.write h' ⟨_, upd_same, r3.append (.cons v2 .nil)⟩) _ .non⟩
            · cases q
          · exact False.elim p2
    | _ => exact absurd hx Bool.false_ne_true
  · exact False.elim p1
theorem seqA_of {W : Wd} {ah : AH} {H : Hp} {a : AV} {w : V} {xs : List AV} (R : RelH K nm W ah H) (r : W.RV K a w) (e : seqA ah a = some xs) : ∃ p vs, w = .ref p ∧ (SqL K H p vs ∨ SqT K H p vs) ∧ W.RVs K xs vs := by
  unfold seqA at e
  split at e
  · cases e
    cases r with
    | tup h r => exact ⟨_, _, rfl, .inr (same_tup R.fz h), r⟩
  · obtain ⟨p, vs, rfl, h1, h2⟩ := asL_of R r e
    exact ⟨p, vs, rfl, .inl (.inl h1), h2⟩
theorem ev_lstMF {e : Expr} {fa : Rho → AH → Ot AV} {p pos : Pos} (hg : Gl X "list") (hm : X.mg "list" = none) (ha : EV nm X Wx e fa) (hs : notSt e = true) : EV nm X Wx (.Call (.Name "list" p) [e] [] pos) (lstMF fa) := by
  refine PE.weak (pe_callTy call_list_of hg hm (by decide +kernel) (pa_cons ha pa_nil (star_cons hs)) (by decide) (by decide) (star_cons hs) (star_plain _ _ rfl)) fun σ H Q ⟨W, ρ, ah, rh, rs, p⟩ => ?_
  refine TrE.seqB rh rs p fun x ah1 W1 H1 w1 s1 R1 S1 v1 p1 => ?_
  split at p1
  · rename_i xs q
    obtain ⟨a, vs, rfl, h1, h2⟩ := seqA_of R1 v1 q
    refine ⟨a, vs, rfl, h1, fun l hl => ?_⟩
    have st := Step.more (o := .lst vs) R1 hl
    refine p1 (W1.more l) _ st (R1.more hl ⟨vs, upd_same, h2.step st⟩) _ (.ref ?_)
    show (W1.io ++ [l])[ah1.length]? = some l
    rw [← R1.len]; simp
  · exact False.elim p1
/-- list(range(e)) -/
def lrgA : AV → Option AV
  | .int j => if -(2 ^ 62) ≤ j ∧ j ≤ 16777216 then some (.lst (rngL 0 j.toNat)) else none
  | _ => none
def lrgF (a : Rho → AH → Ot AV) : Rho → AH → Ot AV := fun ρ ah => (a ρ ah).bind fun x ah1 => Ot.of (lrgA x) ah1
theorem rvs_range {W : Wd} : ∀ l : List Nat, W.RVs K (l.map fun (i : Nat) => AV.int (0 + i)) (l.map fun (i : Nat) => V.int (0 + i))
  | [] => .nil
  | i :: r => .cons (.int _) (rvs_range r)
theorem ev_lrg {e : Expr} {fa : Rho → AH → Ot AV} {p p' pos pos' : Pos} (hc : X.calm = true) (hg : Gl X "list") (hm : X.mg "list" = none) (hg' : Gl X "range") (hm' : X.mg "range" = none) (ha : EV nm X Wx e fa) (hs : notSt e = true) :
    EV nm X Wx (.Call (.Name "list" p) [.Call (.Name "range" p') [e] [] pos'] [] pos) (lrgF fa) := by
  refine PE.weak (pe_listRg hc hg hm (prg_1 hg' hm' ha (star_cons hs)) (star_cons rfl)) fun σ H Q ⟨W, ρ, ah, rh, rs, p⟩ => ?_
  refine TrE.seqB rh rs p fun x ah1 W1 H1 w1 s1 R1 S1 v1 p1 => ?_
  obtain ⟨c, e, k⟩ := Post.of p1
  unfold lrgA at e
  split at e
  · cases v1
    split at e
    · rename_i j hj
      cases e
      refine ⟨j, rfl, ⟨by decide, by decide, by omega, by omega, by omega⟩, fun l hl => ?_⟩
      have st := Step.keep (o := .lst (rgV 0 j)) R1 hl
      refine k _ _ st (R1.keep hl) _ (.lst (Rd.of upd_same) ?_)
      have e1 : rgV 0 j = (List.range j.toNat).map fun (i : Nat) => V.int (0 + i) := by unfold rgV; rw [Int.sub_zero]
      rw [e1]
      exact rvs_range _
    · cases e
  · cases e
end
end Ko

/-! Ko, part Mz: dicts that change. -/
namespace Ko
open PySem L2
/-- in its place, or at the end -/
def putA (kvs : List (Key × AV)) (k : Key) (v : AV) : List (Key × AV) := if (kvs.any fun kv => decide (kv.1 = k)) = true then kvs.map (fun kv => if kv.1 = k then (kv.1, v) else kv) else kvs ++ [(k, v)]
section
variable {K : PySem.W.Frag} {fz : Hp} {io : List Addr}
theorem RKs.any {k : Key} : ∀ {kvs : List (Key × AV)} {ws : List (Key × V)}, RKs K fz io kvs ws → (kvs.any fun kv => decide (kv.1 = k)) = (ws.any fun kv => decide (kv.1 = k))
  | _, _, .nil => rfl
  | _, _, .cons r t => by simp only [List.any_cons, RKs.any t]
theorem RKs.snoc {k : Key} {x : AV} {w : V} (q : RV K fz io x w) : ∀ {kvs : List (Key × AV)} {ws : List (Key × V)}, RKs K fz io kvs ws → RKs K fz io (kvs ++ [(k, x)]) (ws ++ [(k, w)])
  | _, _, .nil => .cons q .nil
  | _, _, .cons r t => .cons r (RKs.snoc q t)
theorem RKs.mapped {k : Key} {x : AV} {w : V} (q : RV K fz io x w) : ∀ {kvs : List (Key × AV)} {ws : List (Key × V)}, RKs K fz io kvs ws → RKs K fz io (kvs.map fun kv => if kv.1 = k then (kv.1, x) else kv) (ws.map fun kv => if kv.1 = k then (kv.1, w) else kv)
  | _, _, .nil => .nil
  | (j, y) :: kvs, (_, u) :: ws, .cons r t => by
    simp only [List.map_cons]
    by_cases h : j = k
    · rw [if_pos h, if_pos h]; exact .cons q (RKs.mapped q t)
    · rw [if_neg h, if_neg h]; exact .cons r (RKs.mapped q t)
theorem RKs.put {k : Key} {x : AV} {w : V} {kvs : List (Key × AV)} {ws : List (Key × V)} (r : RKs K fz io kvs ws) (q : RV K fz io x w) : RKs K fz io (putA kvs k x) (putK ws k w) := by
  unfold putA putK
  rw [r.any (k := k)]
  by_cases h : (ws.any fun kv => decide (kv.1 = k)) = true
  · rw [if_pos h, if_pos h]; exact r.mapped q
  · rw [if_neg h, if_neg h]; exact r.snoc q
theorem RKs.lenW : ∀ {kvs : List (Key × AV)} {ws : List (Key × V)}, RKs K fz io kvs ws → ws.length = kvs.length
  | _, _, .nil => rfl
  | _, _, .cons _ t => by simp [RKs.lenW t]
theorem key_kV {W : Wd} {y : AV} {w : V} {k : Key} (r : W.RV K y w) (e : keyA y = some k) : w = kV k := by
  unfold keyA at e
  split at e
  · cases e; cases r; rfl
  · cases e; cases r; rfl
  · cases e
end
/-- dict(e), to be changed -/
def dictSrc (ah : AH) : AV → Option (List (Key × AV))
  | .dct kvs => some kvs
  | .ref n => match ah[n]? with | some (.dct kvs) => some kvs | _ => none
  | .lst [] => some []
  | .lst [.tup [k, v]] => (keyA k).map fun q => [(q, v)]
  | _ => none
def dicMF (a : Rho → AH → Ot AV) : Rho → AH → Ot AV := fun ρ ah => (a ρ ah).bind fun x ah1 => match dictSrc ah1 x with | some kvs => .ok (.ref ah1.length) (ah1 ++ [.dct kvs]) | none => .st
def putDA (ah : AH) : AV → AV → AV → Option AH
  | .ref n, y, v => match ah[n]? with | some (.dct kvs) => (keyA y).bind fun k => if kvs.length < sizeLine then some (ah.set n (.dct (putA kvs k v))) else none | _ => none
  | _, _, _ => none
def putDF (o i a : Rho → AH → Ot AV) : Rho → AH → SR := fun ρ ah => (a ρ ah).to ρ fun v ah1 => (o ρ ah1).to ρ fun x ah2 => (i ρ ah2).to ρ fun y ah3 => match putDA ah3 x y v with | some ah4 => .nx ρ ah4 | none => .st
section
variable {nm : Nm} {X : Cx} {Wx : WX} {K : PySem.W.Frag}
theorem RelH.atD {W : Wd} {ah : AH} {H : Hp} {n : Nat} {a : Addr} {kvs : List (Key × AV)} (R : RelH K nm W ah H) (h : W.io[n]? = some a) (e : ah[n]? = some (.dct kvs)) : ∃ ws, H a = some (.dK ws) ∧ RKs K W.fz W.io kvs ws := R.obj n a _ h e
theorem es_putD {o i e : Expr} {p2 pos : Pos} {fo fi fa : Rho → AH → Ot AV} (hu : X.A.units + 1 < cLine) (ho : EV nm X Wx o fo) (hi : EV nm X Wx i fi) (ha : EV nm X Wx e fa) (hn : notLC e = true) (hsl : noSlice i = true) : ES nm X Wx (.Assign [.Subscript o i p2] e pos) (putDF fo fi fa) := by
  have hs : swapsWithSole [Expr.Subscript o i p2] e pos.line X.env = pure false := by cases e <;> first | rfl | exact absurd hn Bool.false_ne_true
  refine PS.weak (ps_asg ha (pg_sub ho hi (set_dict hu) (fun v => by cases i <;> first | rfl | exact absurd hsl Bool.false_ne_true)) hs rfl) fun D σ H ⟨W, ρ, ah, rh, rs, p⟩ => ?_
  refine TrE.to rh rs p fun v ah1 W1 H1 w1 s1 R1 S1 r1 q1 => TrE.to R1 S1 q1 fun x ah2 W2 H2 w2 s2 R2 S2 r2 q2 => TrE.to R2 S2 q2 fun y ah3 W3 H3 w3 s3 R3 S3 r3 q3 => ?_
  split at q3
  · rename_i ah4 e
    unfold putDA at e
    split at e
    · rename_i n y' v'
      split at e
      · rename_i kvs hn
        simp only [Option.bind_eq_some_iff] at e
        obtain ⟨k, e1, e2⟩ := e
        split at e2
        · rename_i hl
          cases e2
          have r2' := r2.step s3
          cases r2' with
          | ref h =>
            obtain ⟨ws, h1, h2⟩ := R3.atD h hn
            have r1' := (r1.step s2).step s3
            have st := Step.write (o := .dK (putK ws k w1)) R3 h
            obtain rfl := key_kV r3 e1
            exact ⟨_, _, rfl, DPut.k h1 (by rw [h2.lenW]; exact hl), q3 W3 _ σ st (R3.write h ⟨_, upd_same, h2.put r1'⟩) S3⟩
        · cases e2
      · cases e
    · cases e
  · exact False.elim q3
theorem call_dic (hc : X.calm = true) : CallR X (.type "dict") (fun xs H Q => (∃ (a : Addr) (kvs : List (Key × V)), xs = [.ref a] ∧ Rd H a (.dK kvs) ∧ ∀ p, H p = none → Q (.ref p) (upd H p (.dK kvs))) ∨
    ∃ (a : Addr) (ps : List Addr) (kvs : List (Key × V)), xs = [.ref a] ∧ SqL X.K H a (ps.map V.ref) ∧ Paired (fun p kv => SqT X.K H p [kV kv.1, kv.2]) ps kvs ∧ ∀ p, H p = none → Q (.ref p) (upd H p (.dK (mergeK [] kvs)))) := fun pins s σ H xs us Q I r q =>
  q.elim (fun q => call_dictD pins s σ H xs us Q I r q) fun q => call_dictP hc pins s σ H xs us Q I r q
theorem ev_dicM {e : Expr} {fa : Rho → AH → Ot AV} {p pos : Pos} (hc : X.calm = true) (hg : Gl X "dict") (hm : X.mg "dict" = none) (ha : EV nm X Wx e fa) (hs : notSt e = true) : EV nm X Wx (.Call (.Name "dict" p) [e] [] pos) (dicMF fa) := by
  refine PE.weak (pe_callTy (call_dic hc) hg hm (by decide +kernel) (pa_cons ha pa_nil (star_cons hs)) (by decide) (by decide) (star_cons hs) (star_plain _ _ rfl)) fun σ H Q ⟨W, ρ, ah, rh, rs, p⟩ => ?_
  refine TrE.seqB rh rs p fun x ah1 W1 H1 w1 s1 R1 S1 v1 p1 => ?_
  split at p1
  · rename_i kvs q
    have fin : ∀ (l : Addr) (ws : List (Key × V)), H1 l = none → RKs X.K W1.fz W1.io kvs ws → Q (.ref l) (upd H1 l (.dK ws)) := fun l ws hl r => by
      have st := Step.more (o := .dK ws) R1 hl
      refine p1 (W1.more l) _ st (R1.more hl ⟨ws, upd_same, RKs.mono st.fz st.io r⟩) _ (.ref ?_)
      show (W1.io ++ [l])[ah1.length]? = some l
      rw [← R1.len]; simp
    unfold dictSrc at q
    split at q
    · cases q
      cases v1 with
      | dct h r => exact .inl ⟨_, _, rfl, .inl (R1.fz _ _ h), fun l hl => fin l _ hl r⟩
    · split at q
      · rename_i e1
        cases q
        cases v1 with
        | ref h =>
          obtain ⟨ws, h1, h2⟩ := R1.atD h e1
          exact .inl ⟨_, _, rfl, .inl h1, fun l hl => fin l _ hl h2⟩
      · cases q
    · cases q
      cases v1 with
      | lst h r =>
        cases r
        exact .inr ⟨_, [], [], rfl, .inl (same_rd R1.fz h), .nil, fun l hl => fin l _ hl .nil⟩
    · simp only [Option.map_eq_some_iff] at q
      obtain ⟨ky, e2, rfl⟩ := q
      cases v1 with
      | lst h r =>
        obtain ⟨v0, rfl, r0⟩ := rvs1 r
        cases r0 with
        | tup h' r' =>
          obtain ⟨u1, u2, rfl, r1, r2⟩ := rvs2 r'
          obtain rfl := key_kV r1 e2
          exact .inr ⟨_, [_], [(ky, u2)], rfl, .inl (same_rd R1.fz h), .cons (same_tup R1.fz h') .nil, fun l hl => fin l _ hl (.cons r2 .nil)⟩
    · cases q
  · exact False.elim p1
end
end Ko

/-! Ko, part Ea: an own exception over Exception whose __init__ calls its parent's and stores its fields. -/
namespace Ko
open PySem L2
abbrev exTl : List Value := [.type "Exception", .type "BaseException", .type "object"]
/-- what the top says of such a class -/
structure XCls (K : PySem.W.Frag) (C : Addr) : Prop where
  ini : PySem.W.excInitIn K C exTl "Exception.__new__" = true
  ovr : PySem.W.excOver K C exTl = true
  hdc : PySem.W.hasDictIn K C = true
  sta : PySem.W.findIn K (.ref C) "__setattr__" = some (some (.builtin "object.__setattr__"))
  exc : PySem.W.subIn K (.ref C) (.type "BaseException") = some true
  tyc : PySem.W.typeIn K (.ref C) = some (.type "type")
  kpc : PySem.W.keepIn K (.ref C) = true
def xclsB (K : PySem.W.Frag) (C : Addr) : Bool :=
  PySem.W.excInitIn K C exTl "Exception.__new__" && PySem.W.excOver K C exTl && PySem.W.hasDictIn K C && decide (PySem.W.findIn K (.ref C) "__setattr__" = some (some (.builtin "object.__setattr__"))) &&
    decide (PySem.W.subIn K (.ref C) (.type "BaseException") = some true) && decide (PySem.W.typeIn K (.ref C) = some (.type "type")) && PySem.W.keepIn K (.ref C)
theorem xcls_of {K : PySem.W.Frag} {C : Addr} (h : xclsB K C = true) : XCls K C := by
  unfold xclsB at h
  simp only [Bool.and_eq_true, decide_eq_true_eq] at h
  obtain ⟨⟨⟨⟨⟨⟨h1, h2⟩, h3⟩, h4⟩, h5⟩, h6⟩, h7⟩ := h
  exact ⟨h1, h2, h3, h4, h5, h6, h7⟩
open PySem.W PyProof.Rows Builtin Builtin.ObjectAttr in
section
variable {prog : Program} {w : World} {A : Around} {R : Result → Shared → Prop} {hp : Heap} {g : Array GenState} {d : Drawn} {t : Nat} {os : OsState} {K : PySem.W.Frag} {C x : Addr} {fv : Array Value} {name : Str} {tk : Tok} {v : Value}
theorem xst_open {ox : Obj} {od : Option Obj} (T : XCls K C) (X : K.In hp) (I : PySem.W.InstAt hp x ox C od) (ha : PySem.W.findIn K (.ref C) name = some none)
    (h : ∀ b, wpAny (model prog w) A.in1 (storeInOwnDict (.ref x) (.ref C) (.str name tk) name v b) (fun fin s' => match fin with | .done f => R (.ok f) s' | .again c' => c'.quiet = true ∧ codeAny (model prog w) A c' R s') (fun e s' => R (.error e) s') ⟨hp, g, d, t, os⟩) :
    codeAny (model prog w) A (.call (.builtin "object.__setattr__") ⟨[.ref x, .str name tk, v], []⟩) R ⟨hp, g, d, t, os⟩ :=
  PySem.W.osa_openX (r := none) PySem.F.store_Exception X I T.ovr (by unfold PySem.W.takerIn; rw [ha]; rfl) h
theorem xcls_cd (T : XCls K C) : ∃ cd, PySem.W.clsIn K C = some cd ∧ cd.hasDict = true := by
  have := T.hdc
  unfold PySem.W.hasDictIn at this
  obtain ⟨cd, h1, h2⟩ := PySem.W.any_some this
  exact ⟨cd, h1, h2⟩
theorem xst_new (T : XCls K C) (X : K.In hp) (hx : hp.get? x = some { cls := .ref C, data := .fields fv }) (ha : PySem.W.findIn K (.ref C) name = some none)
    (hq : ∀ h' tk' dx, (∀ b o, b ≠ x → hp.get? b = some o → h'.get? b = some o) → hp.objs.size ≤ dx → dx ≠ x → h'.get? x = some { cls := .ref C, dict := some dx, data := .fields fv } → h'.Ns1 dx (fun y => if y = name then some v else none) → R (.ok (.ret .none)) ⟨h', g, d, tk', os⟩) :
    codeAny (model prog w) A (.call (.builtin "object.__setattr__") ⟨[.ref x, .str name tk, v], []⟩) R ⟨hp, g, d, t, os⟩ := by
  have hxs : x ≠ hp.objs.size := Nat.ne_of_lt (Heap.lt_size hx)
  obtain ⟨cd, hc, hd⟩ := xcls_cd T
  refine xst_open T X (od := none) ⟨hx, rfl, rfl, trivial⟩ ha fun b => ?_
  have hcls : PySem.W.Looks (model prog w) hp (classData C) cd := PySem.W.looks_clsIn X hc
  obtain ⟨nm, bs, mro, ns, qn, hd', sn, sb, ab, col, del⟩ := cd
  dsimp only at hd
  subst hd
  unfold storeInOwnDict ownDictForStores
  repeat (first | with_reducible refine HandSPX.store_in_new ?_ ?_ | with_reducible refine wpAny_loadPart_at hx ?_ | with_reducible refine hcls.at ?_ | wp_step)
  · exact ⟨_, #[], _, (Heap.get?_update_ne _ _ _ _ hxs.symm).trans (Heap.get?_push_at rfl rfl), rfl, fun e he => absurd he (by simp), fun _ => rfl⟩
  · intro h' tk' hn' hs
    have hx1 : (hp.push { cls := .type "dict", data := .dict #[] }).get? x = some { cls := .ref C, data := .fields fv } := Heap.get?_push_of_some _ hx
    exact hq h' tk' hp.objs.size (fun b o hb ho => (hs.2 b (Nat.ne_of_lt (Heap.lt_size ho))).trans ((Heap.get?_update_ne _ _ _ _ hb).trans (Heap.get?_push_of_some _ ho))) (Nat.le_refl _) hxs.symm ((hs.2 x hxs).trans (Heap.get?_update_self _ hx1 rfl)) hn'
theorem xst_old {dx : Addr} {m0 : Str → Option Value} {nl : List Str} (T : XCls K C) (X : K.In hp) (hx : hp.get? x = some { cls := .ref C, dict := some dx, data := .fields fv }) (hns : hp.Ns1 dx m0) (hw : Within m0 nl) (hz : nl.length ≤ 1000) (ha : PySem.W.findIn K (.ref C) name = some none)
    (hq : ∀ h' tk', (∀ b o, b ≠ dx → hp.get? b = some o → h'.get? b = some o) → h'.Ns1 dx (fun y => if y = name then some v else m0 y) → R (.ok (.ret .none)) ⟨h', g, d, tk', os⟩) :
    codeAny (model prog w) A (.call (.builtin "object.__setattr__") ⟨[.ref x, .str name tk, v], []⟩) R ⟨hp, g, d, t, os⟩ := by
  obtain ⟨oD, _, _, hoD, _, _⟩ := hns.count hw
  obtain ⟨cd, hc, hd⟩ := xcls_cd T
  refine xst_open T X (od := some oD) ⟨hx, rfl, rfl, hoD⟩ ha fun b => ?_
  have hcls : PySem.W.Looks (model prog w) hp (classData C) cd := PySem.W.looks_clsIn X hc
  obtain ⟨nm, bs, mro, ns, qn, hd', sn, sb, ab, col, del⟩ := cd
  dsimp only at hd
  subst hd
  unfold storeInOwnDict ownDictForStores
  repeat (first | with_reducible refine PySem.OEX.store_in_old hns hw hz ?_ | with_reducible refine wpAny_loadPart_at hx ?_ | with_reducible refine hcls.at ?_ | wp_step)
  intro h' tk' hn' hs
  exact hq h' tk' (fun b o hb ho => (hs.2 b hb).trans ho) hn'
end
end Ko

/-! Ko, part Eb: self.f = y on an exception that is being made; the parent's __init__; C(e, ..). -/
namespace Ko
open PySem L2 PySem.Spec
section
variable {X : Cx} {pins : List (Addr × Obj)} {σ : St} {H : Hp} {s : Shared} {a C dx : Addr} {f : Str} {y : V} {u : Value} {fs : List (Str × V)} {Q : Unit → Shared → Prop} {E : Value → Shared → Prop} {A : Around}
theorem xo_new (T : XCls X.K C) (I : Inv X pins σ H s) (ea : H a = some (exo a C none)) (nof : PySem.W.findIn X.K (.ref C) f = some none) (ry : RelV y u)
    (k : ∀ b s', H b = none → b ≠ a → Inv X pins σ (upd (upd H b (exd b [(f, y)])) a (exo a C (some b))) s' → Q () s') : wpAny (model X.prog X.w) A (setAttr (.ref a) f u) Q E s := by
  obtain ⟨t1, at1⟩ := exo_at I.hok ea
  obtain ⟨hp, gs, dr, tk, os⟩ := s
  refine PySem.W.set_plain I.kIn (ox := { cls := .ref C, dict := none, data := .fields #[.ref t1, .none, .none, .none, .bool false, .none] }) (od := none) ⟨at1, rfl, rfl, trivial⟩ T.sta (xst_new T I.kIn at1 nof fun h2 tk2 b kp big bne xat ns => ?_)
  have bn : H b = none := I.hok.fresh big
  have neb : ∀ {c : Addr} {o : Obj}, hp.get? c = some o → c ≠ b := fun {c o} z => Nat.ne_of_lt (Nat.lt_of_lt_of_le (Heap.lt_size z) big)
  have nea : ∀ {c : Addr}, H c = none → c ≠ a := fun {c} n z => by subst z; rw [ea] at n; cases n
  refine k b _ bn bne (I.un (t' := tk2) (⟨fun c o z n _ _ => kp c o (nea n) z, fun c o z n _ _ => ⟨o.slots, kp c o (nea n) z⟩, fun c o z n _ => by rw [upd_ne (nea n), upd_ne (neb z)]; exact n, fun c o z _ => ?_, fun c xs z => by rw [upd_ne (at_ne ea z exo_tup), upd_ne (ne_of_none z bn)]; exact z,
    fun c o v z => by rw [upd_ne (at_ne ea z exo_frz), upd_ne (ne_of_none z bn)]; exact z, fun c ps z => ⟨#[], by rw [upd_ne (at_ne ea z exo_tbl), upd_ne (ne_of_none z bn), z]; simp⟩⟩ : Un X.fs [] H (upd (upd H b (exd b [(f, y)])) a (exo a C (some b))) hp h2) fun c o z => ?_)
  · by_cases hc : c = a
    · subst hc; exact ⟨_, xat⟩
    · exact ⟨o, kp c o hc z⟩
  · by_cases hc : c = a
    · subst hc
      rw [upd_same] at z
      cases z
      exact exo_ok xat
    · rw [upd_ne hc] at z
      by_cases hb : c = b
      · subst hb
        rw [upd_same] at z
        cases z
        exact exd_ok ns (relO_put (fs := []) ry fun _ => True.intro)
      · rw [upd_ne hb] at z
        refine (I.hok c o z).stay (fun p v q r => kp p v (q.elim (fun q => by rw [q]; exact hc) fun q => at_ne ea q exo_own) r) (fun p q => ?_) fun p xs q => ?_
        · rw [upd_ne (at_ne ea q exo_own), upd_ne (ne_of_none q bn)]; exact q
        · rw [upd_ne (at_ne ea q exo_tup), upd_ne (ne_of_none q bn)]; exact q
theorem xo_old (T : XCls X.K C) (I : Inv X pins σ H s) (ea : H a = some (exo a C (some dx))) (ed : H dx = some (exd dx fs)) (few : fs.length ≤ 900) (nof : PySem.W.findIn X.K (.ref C) f = some none) (ry : RelV y u)
    (k : ∀ s', Inv X pins σ (upd H dx (exd dx ((f, y) :: fs))) s' → Q () s') : wpAny (model X.prog X.w) A (setAttr (.ref a) f u) Q E s := by
  obtain ⟨t1, at1⟩ := exo_at I.hok ea
  obtain ⟨m, ns, rel⟩ := exd_at I.hok ed
  have wi := within_of rel
  obtain ⟨hp, gs, dr, tk, os⟩ := s
  obtain ⟨oD, _, _, atD, _, _⟩ := ns.count wi
  refine PySem.W.set_plain I.kIn (ox := { cls := .ref C, dict := some dx, data := .fields #[.ref t1, .none, .none, .none, .bool false, .none] }) (od := some oD) ⟨at1, rfl, rfl, atD⟩ T.sta (xst_old T I.kIn at1 ns wi (by rw [List.length_map]; omega) nof fun h2 tk2 kp ns2 => ?_)
  have there : ∃ o, h2.get? dx = some o := let ⟨o, _, _, z, _⟩ := ns2; ⟨o, z⟩
  exact k _ (I.write (t' := tk2) (x := dx) (e := dx) (o := exd dx ((f, y) :: fs)) (by rw [ed]; exact True.intro) (.inl rfl) kp there (exd_ok ns2 (relO_put ry rel)))
/-- Exception.__init__(self, ..) -/
theorem xo_init {us : List Value} {Q : Value → Shared → Prop} (T : XCls X.K C) (I : Inv X pins σ H s) (ea : H a = some (exo a C none)) (few : us.length ≤ sizeLine) (k : ∀ s', Inv X pins σ H s' → Q .none s') :
    wpAny (model X.prog X.w) A (call (.builtin "Exception.__init__") (.ref a :: us)) Q E s := by
  obtain ⟨nm, N, qn, bs, bm, hd, sn, sub, ab, col, dd, k0, k1, k2, k3, k5, atC, tl⟩ := PySem.W.excInit_of I.kIn T.ini
  obtain ⟨t1, at1⟩ := exo_at I.hok ea
  obtain ⟨hp, gs, dr, tk, os⟩ := s
  refine wpAny_call (PySem.HandSPX.init_base PySem.F.excBase_Exception tl atC at1 few fun h2 t2 kp xat => ?_)
  have J := I.write (t' := tk) (x := a) (e := a) (o := exo a C none) (by rw [ea]; exact True.intro) (.inl rfl) kp ⟨_, xat⟩ (exo_ok xat)
  have same : upd H a (exo a C none) = H := funext fun b => by
    by_cases hb : b = a
    · rw [hb, upd_same, ea]
    · rw [upd_ne hb]
  rw [same] at J
  exact k _ J
end
/-- B.__init__(self, ..) -/
def tXini (K : PySem.W.Frag) (ta : TA) : TE := fun σ H Q => ta σ H fun vs H1 => ∃ (a C : Addr) (ws : List V), vs = .ref a :: ws ∧ ws.length ≤ 1000 ∧ XCls K C ∧ H1 a = some (exo a C none) ∧ Q .non H1
/-- self.f = e -/
def tXst (K : PySem.W.Frag) (f : Str) (to te : TE) : TS := fun D σ H => te σ H fun y H1 => to σ H1 fun x H2 => ∃ a C : Addr, x = .ref a ∧ XCls K C ∧ PySem.W.findIn K (.ref C) f = some none ∧
  ((H2 a = some (exo a C none) ∧ ∀ b, H2 b = none → b ≠ a → D.nx σ (upd (upd H2 b (exd b [(f, y)])) a (exo a C (some b)))) ∨
    ∃ (b : Addr) (fs : List (Str × V)), H2 a = some (exo a C (some b)) ∧ H2 b = some (exd b fs) ∧ fs.length ≤ 900 ∧ D.nx σ (upd H2 b (exd b ((f, y) :: fs))))
/-- the parent's class, as the text reads it -/
structure XPar (K : PySem.W.Frag) (B : Addr) : Prop where
  rd : PySem.W.readsIn K B (.type "type") = true
  ga : PySem.W.specialIn K (.ref B) "__getattribute__" = some (some (.builtin "type.__getattribute__"))
  at_ : PySem.W.findCls K (.ref B) (.type "type") "__init__" = some (.val (.builtin "Exception.__init__"))
section
variable {M : Model} {A : Around} {E : Value → Shared → Prop} {s : Shared} {env : Env}
/-- o.name(args): the object, the method, the call -/
theorem wp_meth {o : Expr} {name : Str} {ap cp : Pos} {args : List Expr} {Q : Value → Shared → Prop} (hb : plainBase o = true) (hl : (ap.endLine == cp.line) = true) (hs : args.all notSt = true) (few : args.length < 29)
    (h : wpAny M A (eval o env) (fun ov s1 => ∀ pl, wpAny M A (getMethod ov name pl) (fun fr s2 => wpAny M A (callWith cp fr.1 fr.2 (backTo cp (starEach args env)) []) Q E s2) E s1) E s) :
    wpAny M A (eval (.Call (.Attribute o name ap) args [] cp) env) Q E s := by
  rw [arm_eval_Call, base_of hb]
  refine wpAny_bind (wpAny_mono h (fun ov s1 h1 => wpAny_bind (wpAny_standAt ?_)) fun _ _ e => e)
  have g1 := star_plain cp env hs
  have g2 : (backTo cp (starEach args env)).all (fun x => !x.1) = true := List.all_eq_true.mpr fun y hy => by simpa using List.any_eq_false.mp g1 y hy
  have form : methodCallForm (args.length + ([] : List Keyword).length) (backTo cp (starEach args env)) (backToKw cp (keywordEach [] env)) = true := by
    show ((backTo cp (starEach args env)).all (fun x => !x.1) && (backToKw cp (keywordEach [] env)).all (fun x => x.1.isSome) && decide (args.length + ([] : List Keyword).length + (if ([] : List Keyword).isEmpty then 0 else 1) < 30)) = true
    rw [g2]
    simp [keywordEach, backToKw]
    omega
  unfold methodCall
  rw [form]
  refine wpAny_bind (wpAny_holding (wpAny_mono (h1 _) (fun fr s2 h2 => ?_) fun _ _ e => e))
  have at1 : methodCallPos true o env ap cp = pure cp := by unfold methodCallPos; simp [hl]
  rw [at1]
  exact wpAny_bind (wpAny_pure h2)
end
section
variable {X : Cx} {o e : Expr} {es : List Expr} {to te : TE} {ta : TA} {f x : Str} {B : Addr} {p p' p1 p2 pos : Pos}
theorem pe_xini (P : XPar X.K B) (hg : Gl X x) (hm : X.mg x = some (.ref B)) (ha : PA X (e :: es) ta) (hdb : (x == ("__debug__" : Str)) = false) (hl : (p2.endLine == pos.line) = true) (hs : (e :: es).all notSt = true) (few : (e :: es).length < 29) :
    PE X (.Call (.Attribute (.Name x p1) "__init__" p2) (e :: es) [] pos) (tXini X.K ta) := by
  refine ⟨fun pins s σ H Q I h => wp_meth rfl hl hs few (ld_glob I hg hm (fun pl => PySem.W.method_cls I.kIn P.ga (PySem.W.cls_value I.kIn P.rd P.at_ rfl ?_)) hdb)⟩
  rw [List.all_cons, Bool.and_eq_true] at hs
  show wpAny _ _ (callWith pos (Value.builtin "Exception.__init__") [] (backTo pos (starEach (e :: es) X.env)) []) _ _ _
  refine PyProof.Rows.callWith_method1 (thn (ha.run pos pins _ σ H _ (I.tok _) h) fun us s1 ⟨vs, H1, I1, r1, a, C, ws, ev, few, T, ea, q⟩ => ?_) (star_cons hs.1) (star_plain _ _ hs.2)
  subst ev
  cases r1 with
  | @cons _ u0 _ ur ra rw' =>
    obtain rfl : u0 = Value.ref a := ra
    exact xo_init T I1 ea (by rw [← Paired.length rw', sizeLine_eq]; omega) fun s' J => ⟨.non, H1, J, rfl, q⟩
theorem ps_xst (ho : PE X o to) (he : PE X e te) (hs : swapsWith e (some (.Attribute o f p')) pos.line X.env = pure false := by rfl) : PS X (.Assign [.Attribute o f p'] e pos) (tXst X.K f to te) := by
  refine ⟨fun pins s σ H D I h => plainObj_wpAny_Assign_Attribute (thn (he.run pins s σ H _ I h) fun v s1 ⟨y, H1, I1, r1, q1⟩ => thn (ho.run pins s1 σ H1 _ I1 q1) fun u s2 ⟨z, H2, I2, r2, a, C, ez, T, nof, q⟩ => ?_) hs⟩
  subst ez
  obtain rfl : u = Value.ref a := r2
  rcases q with ⟨ea, q⟩ | ⟨b, fs, ea, ed, few, q⟩
  · exact xo_new T I2 ea nof r1 fun b s' n ne J => ⟨σ, _, J, q b n ne⟩
  · exact xo_old T I2 ea ed few nof r1 fun s' J => ⟨σ, _, J, q⟩
end
end Ko

/-! Ko, part Ec: the __init__ of an error with one field or two; the error made. -/
namespace Ko
open PySem L2 PySem.Spec
/-- what an __init__ does that stores the fields fl -/
def spX (K : PySem.W.Frag) : List Str → Sp
  | [f] => fun vs H Q _ => ∃ (a C : Addr) (y : V), vs = [.ref a, y] ∧ XCls K C ∧ PySem.W.findIn K (.ref C) f = some none ∧ H a = some (exo a C none) ∧ ∀ b, H b = none → b ≠ a → Q .non (upd (upd H b (exd b [(f, y)])) a (exo a C (some b)))
  | [f, g] => fun vs H Q _ => ∃ (a C : Addr) (y z : V), vs = [.ref a, y, z] ∧ XCls K C ∧ PySem.W.findIn K (.ref C) f = some none ∧ PySem.W.findIn K (.ref C) g = some none ∧ H a = some (exo a C none) ∧
      ∀ b, H b = none → b ≠ a → Q .non (upd (upd (upd H b (exd b [(f, y)])) a (exo a C (some b))) b (exd b [(g, z), (f, y)]))
  | _ => fun _ _ _ _ => False
/-- the body of such an __init__ -/
def xBody (B : Str) (N : List Str) (fl : List Str) : List Stmt → Bool
  | .Expr (.Call (.Attribute (.Name x _) n p2) [.Name s _, .Constant (.str _) _ _] [] pos) _ :: r => decide (x = B) && (p2.endLine == pos.line) && decide (n = "__init__") && decide (s = "self") &&
    (match fl, r with
      | [f], [.Assign [.Attribute (.Name s1 _) f1 _] (.Name g1 _) _] => decide (s1 = "self") && decide (f1 = f) && decide (N = [("self" : Str), g1]) && !(g1 == ("__debug__" : Str)) && !(g1 == ("__classdict__" : Str))
      | [f, f'], [.Assign [.Attribute (.Name s1 _) f1 _] (.Name g1 _) _, .Assign [.Attribute (.Name s2 _) f2 _] (.Name g2 _) _] => decide (s1 = "self") && decide (f1 = f) && decide (s2 = "self") && decide (f2 = f') && decide (N = [("self" : Str), g1, g2]) &&
        !(g1 == ("__debug__" : Str)) && !(g1 == ("__classdict__" : Str)) && !(g2 == ("__debug__" : Str)) && !(g2 == ("__classdict__" : Str))
      | _, _ => false)
  | _ => false
def xScope (B : Str) (N : List Str) (sc : Scope) : Bool := isGl sc B && !(B == ("__debug__" : Str)) && N.all (isVis sc)
section
variable {P : Program} {w : World} {K : PySem.W.Frag} {mg : Str → Option Value} {base : Heap}
theorem gl_of {sc : Scope} {x : Str} (h : isGl sc x = true) : ∀ {X : Cx}, X.env.scope = sc → Gl X x := fun {X} e => by
  unfold isGl at h
  subst e
  split at h
  · rename_i e; exact e
  · exact absurd h Bool.false_ne_true
theorem vis_of {sc : Scope} {x : Str} (h : isVis sc x = true) : Vis sc x := by
  unfold isVis at h
  split at h
  · rename_i e; exact .inl e
  · rename_i e; exact .inr (.inl e)
  · rename_i e; exact .inr (.inr e)
  · exact absurd h Bool.false_ne_true
theorem x_init {qual : Str} {st : Stmt} {fa BA : Addr} {fd : FuncData} {N : List Str} {B : Str} {fl : List Str} (F : Fun K "__init__" qual st fa fd) (S : FnScope N N (defScope st)) (hb : xBody B N fl (defBody st) = true) (hs : xScope B N (defScope st) = true)
    (P' : XPar K BA) (hm : mg B = some (.ref BA)) : FnOk P w K mg base CX0 1 fa fd N (spX K fl) := by
  unfold xScope at hs
  simp only [Bool.and_eq_true, List.all_eq_true, Bool.not_eq_true'] at hs
  obtain ⟨⟨hg, hdb⟩, hv⟩ := hs
  unfold xBody at hb
  split at hb
  case h_2 => cases hb
  rename_i x _ n p2 s _ msg j _ pos _ r eb
  simp only [Bool.and_eq_true, decide_eq_true_eq] at hb
  obtain ⟨⟨⟨⟨rfl, hln⟩, rfl⟩, rfl⟩, hb⟩ := hb
  split at hb
  · rename_i f s1 _ f1 _ g1 _ _ er
    simp only [Bool.and_eq_true, decide_eq_true_eq, Bool.not_eq_true'] at hb
    obtain ⟨⟨⟨⟨rfl, rfl⟩, rfl⟩, hd1⟩, hc1⟩ := hb
    refine Fun.ok F S (fun vs H Q E ⟨a, C, y, e, _⟩ => by rw [e]; rfl) fun cdv A outer s H vs Q E hr ⟨a, C, y, e, T, nof, ea, k⟩ => ?_
    subst e
    rw [eb]
    refine ⟨_, pss_cons (ps_expr (pe_xini P' (gl_of hg rfl) hm (pa_cons (pe_var (i := 0) rfl (vis_of (hv _ (by simp)))) (pa_cons pe_str pa_nil)) hdb hln rfl (by show 2 < 29; decide))) (pss_cons (ps_xst (pe_var (i := 0) rfl (vis_of (hv _ (by simp)))) (pe_var (i := 1) rfl (vis_of (hv _ (by simp))) hd1 hc1)) pss_nil), ?_⟩
    exact ⟨_, rfl, a, C, _, rfl, by show 1 ≤ 1000; decide, T, ea, y, rfl, _, rfl, a, C, rfl, T, nof, .inl ⟨ea, k⟩⟩
  · rename_i f f' s1 _ f1 _ g1 _ _ s2 _ f2 _ g2 _ _ er
    simp only [Bool.and_eq_true, decide_eq_true_eq, Bool.not_eq_true'] at hb
    obtain ⟨⟨⟨⟨⟨⟨⟨⟨rfl, rfl⟩, rfl⟩, rfl⟩, rfl⟩, hd1⟩, hc1⟩, hd2⟩, hc2⟩ := hb
    refine Fun.ok F S (fun vs H Q E ⟨a, C, y, z, e, _⟩ => by rw [e]; rfl) fun cdv A outer s H vs Q E hr ⟨a, C, y, z, e, T, nof, nog, ea, k⟩ => ?_
    subst e
    rw [eb]
    refine ⟨_, pss_cons (ps_expr (pe_xini P' (gl_of hg rfl) hm (pa_cons (pe_var (i := 0) rfl (vis_of (hv _ (by simp)))) (pa_cons pe_str pa_nil)) hdb hln rfl (by show 2 < 29; decide))) (pss_cons (ps_xst (pe_var (i := 0) rfl (vis_of (hv _ (by simp)))) (pe_var (i := 1) rfl (vis_of (hv _ (by simp))) hd1 hc1))
      (pss_cons (ps_xst (pe_var (i := 0) rfl (vis_of (hv _ (by simp)))) (pe_var (i := 2) rfl (vis_of (hv _ (by simp))) hd2 hc2)) pss_nil)), ?_⟩
    exact ⟨_, rfl, a, C, _, rfl, by show 1 ≤ 1000; decide, T, ea, y, rfl, _, rfl, a, C, rfl, T, nof, .inl ⟨ea, fun b nb ne => ⟨z, rfl, _, rfl, a, C, rfl, T, nog, .inr ⟨b, [(_, y)], upd_same, by rw [upd_ne ne]; exact upd_same, by show 1 ≤ 900; decide, k b nb ne⟩⟩⟩⟩
  · cases hb
end
end Ko

/-! Ko, part Ed: an error made and raised. -/
namespace Ko
open PySem L2 PySem.Spec
section
variable {X : Cx} {e : Expr} {es : List Expr} {ta : TA} {x : Str} {p pos : Pos} {C fI : Addr} {fd : FuncData} {ps : List Str} {sp : Sp} {k : Nat}
theorem pmk_xc (T : XCls X.K C) (iC : PySem.W.findIn X.K (.ref C) "__init__" = some (some (.ref fI))) (tI : PySem.W.typeIn X.K (.ref fI) = some (.type "function")) (F1 : FnOk X.prog X.w X.K X.mg X.base CX0 k fI fd ps sp) (hr : Room (k + 1) X.A) (hb : Binds X.K fd ps [])
    (hg : Gl X x) (hm : X.mg x = some (.ref C)) (ha : PA X (e :: es) ta) (hdb : (x == ("__debug__" : Str)) = false) (hs : (e :: es).all notSt = true) : PMk X (.Call (.Name x p) (e :: es) [] pos) (tMkO C sp [] ta) := by
  intro pins s σ H Q I h
  rw [List.all_cons, Bool.and_eq_true] at hs
  refine wpAny_Call_Name_kw (ld_glob I hg hm ?_ hdb)
  refine PySem.W.callWith_K (h₀ := X.base) I.ok.mod.kin T.kpc (thn (ha.run pos pins s σ H _ I h) fun us s1 ⟨vs, H1, I1, r1, few, q1⟩ => ⟨I1.kIn, ?_⟩) (star_cons hs.1) (star_plain _ _ hs.2)
  rw [List.append_nil] at q1
  show wpAny _ _ (call (.ref C) us) _ _ _
  obtain ⟨nm, N, qn, bs, bm, hd, sn, sub, ab, col, dd, k0, k1, k2, k3, k5, atC, tl⟩ := PySem.W.excInit_of I1.kIn T.ini
  obtain ⟨hp, gs, dr, tk, os⟩ := s1
  have big : hp.objs.size ≤ hp.objs.size + 1 := Nat.le_succ _
  have hn : H1 (hp.objs.size + 1) = none := I1.hok.fresh big
  have q2 := q1 (hp.objs.size + 1) hn
  have kk : ∀ b o, hp.get? b = some o → ((hp.push (PySem.W.kdv_tup us)).push (PySem.HandSPX.excO C hp.objs.size)).get? b = some o := fun b o z => Heap.get?_push_of_some _ (Heap.get?_push_of_some _ z)
  have xat : ((hp.push (PySem.W.kdv_tup us)).push (PySem.HandSPX.excO C hp.objs.size)).get? (hp.objs.size + 1) = some (PySem.HandSPX.excO C hp.objs.size) := by heap_get
  have I2 := I1.laid (t' := tk) (a := hp.objs.size + 1) (o := exo (hp.objs.size + 1) C none) (h' := (hp.push (PySem.W.kdv_tup us)).push (PySem.HandSPX.excO C hp.objs.size)) kk big (exo_ok xat)
  have r2 : Vals (V.ref (hp.objs.size + 1) :: vs) (Value.ref (hp.objs.size + 1) :: us) := .cons rfl r1
  have hl : (Value.ref (hp.objs.size + 1) :: us ++ []).length = ps.length := by
    rw [List.append_nil, ← r2.length, F1.len _ _ _ _ q2]
  have hus : us.length ≤ sizeLine := by
    rw [← Paired.length r1, sizeLine_eq]
    omega
  have bd := hb _ (Value.ref (hp.objs.size + 1) :: us) I2.kIn hl
  rw [List.append_nil] at bd
  refine wpAny_call (PySem.HandSPX.call_own PySem.F.excBase_Exception tl atC (PySem.W.looks_findIn I1.kIn iC) (fun self => PySem.W.bind_fn I1.kIn self tI) hus
    (codeAny_mono (F1.run _ X.stack _ _ ⟨Value.ref (hp.objs.size + 1) :: us, []⟩ _ _ _ (fun _ _ _ => False) (hr.make C us []) (I2.env0.make C us []) bd r2 q2) fun r s' hq => ?_))
  cases r with
  | error er => exact False.elim hq
  | ok fl =>
    cases fl with
    | ret u =>
      obtain ⟨v, H2, os2, bare2, un2, hok2, rv, ev, d, fs, ea, ed, hd1, q3⟩ := hq
      subst ev
      obtain ⟨h2, g2, d2, t2, os'⟩ := s'
      exact ⟨rv, mk_end (raises_own T.exc T.tyc) I1 big kk un2 hok2 os2 bare2 ea ed hd1 q3⟩
    | next => exact False.elim hq
    | brk => exact False.elim hq
    | cont => exact False.elim hq
end
/-- the fields of an error as they come to stand -/
def xFs : List Str → List AV → Option (List (Str × AV))
  | [f], [y] => some [(f, y)]
  | [f, g], [y, z] => some [(g, z), (f, y)]
  | _, _ => none
def raiseF (c : Str) (fl : List Str) (a : Rho → AH → Ot (List AV)) : Rho → AH → SR := fun ρ ah => (a ρ ah).to ρ fun xs ah1 => match xFs fl xs with | some fs => .ex ⟨c, fs⟩ ρ ah1 | none => .st
/-- what the top says of an error: its class, its __init__ -/
structure XMk (P : Program) (w : World) (K : PySem.W.Frag) (mg : Str → Option Value) (base : Heap) (nm : Nm) (c : Str) (fl : List Str) : Prop where
  ex : ∃ C, nm.cls c = some C ∧ mg c = some (.ref C) ∧ XCls K C ∧ (∀ f ∈ fl, PySem.W.findIn K (.ref C) f = some none) ∧
    ∃ fI fd ps, PySem.W.findIn K (.ref C) "__init__" = some (some (.ref fI)) ∧ PySem.W.typeIn K (.ref fI) = some (.type "function") ∧ Binds K fd ps [] ∧ FnOk P w K mg base CX0 1 fI fd ps (spX K fl)
section
variable {nm : Nm} {X : Cx} {Wx : WX} {K : PySem.W.Frag}
theorem PoS.toA {f : Rho → AH → Ot (List AV)} {k : List AV → AH → SR} {D : Ends} {σ : St} {H : Hp} {R : List V → Hp → Prop} {W : Wd} {ρ : Rho} {ah : AH} (rh : RelH K nm W ah H) (rs : RS K W ρ σ) (p : PoS K nm Wx W H D ((f ρ ah).to ρ k))
    (h : ∀ a ah1 W1 H1 w, Step W H W1 H1 → RelH K nm W1 ah1 H1 → RS K W1 ρ σ → W1.RVs K a w → PoS K nm Wx W1 H1 D (k a ah1) → R w H1) : TrA nm K Wx f σ H R :=
  ⟨W, ρ, ah, rh, rs, (PoS.to rs p).imp (fun a ah1 W1 H1 s R1 q w r => h a ah1 W1 H1 w s R1 (rs.step s) r q) fun _ _ _ _ _ _ q => q⟩
theorem es_raise {c : Str} {fl : List Str} {e : Expr} {es : List Expr} {p pos pos' : Pos} {a : Rho → AH → Ot (List AV)} (M : XMk X.prog X.w X.K X.mg X.base nm c fl) (hc : X.calm = true) (tk : Takes X Wx) (hr : Room 2 X.A) (hg : Gl X c) (hdb : (c == ("__debug__" : Str)) = false)
    (ha : EA nm X Wx (e :: es) a) (hs : (e :: es).all notSt = true) : ES nm X Wx (.Raise (some (.Call (.Name c p) (e :: es) [] pos)) none pos') (raiseF c fl a) := by
  obtain ⟨C, h1, h2, T, nof, fI, fd, ps, iC, tI, hb, F⟩ := M.ex
  refine PS.weak (ps_raise hc tk (pmk_xc T iC tI F hr hb hg h2 ha hdb hs)) fun D σ H ⟨W, ρ, ah, rh, rs, pp⟩ => ?_
  refine PoS.toA rh rs pp fun xs ah1 W1 H1 vs s1 R1 S1 v1 q => ?_
  cases hf : xFs fl xs with
  | none => rw [hf] at q; exact False.elim q
  | some fs =>
    rw [hf] at q
    have go : ∀ (b : Addr) (ws : List (Str × V)), H1 b = none → RFs X.K W1 fs ws → Wx (.ref C) (some b) σ (upd H1 b (.xd ws)) := fun b ws nb r =>
      q (W1.keep b (.xd ws)) _ σ (.ref C) (some b) (Step.keep R1 nb) (R1.keep nb) (S1.step (Step.keep (o := .xd ws) R1 nb)) ⟨C, h1, rfl, .inr ⟨b, ws, rfl, upd_same, RFs.step (Step.keep (o := .xd ws) R1 nb) r⟩⟩
    unfold xFs at hf
    split at hf
    · rename_i f y _
      cases hf
      match vs, v1 with
      | [w], .cons r .nil =>
        refine ⟨by show 1 ≤ 1000; decide, fun a na => ⟨a, C, w, rfl, T, nof f (by simp), upd_same, fun b nb ne => ⟨rfl, b, [(f, w)], upd_same, ?_, ?_, ?_⟩⟩⟩
        · rw [upd_ne ne]; exact upd_same
        · rw [upd_ne ne] at nb; exact nb
        · rw [upd_ne ne] at nb
          have : upd (del (upd (upd (upd H1 a (exo a C none)) b (exd b [(f, w)])) a (exo a C (some b))) a) b (.xd [(f, w)]) = upd H1 b (.xd [(f, w)]) := funext fun z => by
            by_cases hz : z = b
            · rw [hz, upd_same, upd_same]
            · rw [upd_ne hz, upd_ne hz]
              by_cases hy : z = a
              · rw [hy, del_same, na]
              · rw [del_ne hy, upd_ne hy, upd_ne hz, upd_ne hy]
          rw [this]
          exact go b _ nb (.cons ⟨rfl, r⟩ .nil)
    · rename_i f g y z _
      cases hf
      match vs, v1 with
      | [w, u], .cons r (.cons r' .nil) =>
        refine ⟨by show 2 ≤ 1000; decide, fun a na => ⟨a, C, w, u, rfl, T, nof f (by simp), nof g (by simp), upd_same, fun b nb ne => ⟨rfl, b, [(g, u), (f, w)], ?_, upd_same, ?_, ?_⟩⟩⟩
        · rw [upd_ne (Ne.symm ne)]; exact upd_same
        · rw [upd_ne ne] at nb; exact nb
        · rw [upd_ne ne] at nb
          have : upd (del (upd (upd (upd (upd H1 a (exo a C none)) b (exd b [(f, w)])) a (exo a C (some b))) b (exd b [(g, u), (f, w)])) a) b (.xd [(g, u), (f, w)]) = upd H1 b (.xd [(g, u), (f, w)]) := funext fun z => by
            by_cases hz : z = b
            · rw [hz, upd_same, upd_same]
            · rw [upd_ne hz, upd_ne hz]
              by_cases hy : z = a
              · rw [hy, del_same, na]
              · rw [del_ne hy, upd_ne hz, upd_ne hy, upd_ne hz, upd_ne hy]
          rw [this]
          exact go b _ nb (.cons ⟨rfl, r'⟩ (.cons ⟨rfl, r⟩ .nil))
    · cases hf
end
end Ko

/-! Ko, part Ee: try with several clauses, each with a name for the error or without. -/
namespace Ko
open PySem L2 PySem.Spec
/-- the ends of a suite whose error has the slot i -/
def endA (D : Ends) : Option Nat → Ends
  | none => D
  | some i => { nx := fun σ H => D.nx (σ.set i none) H, rt := D.rt, bk := fun σ H => D.bk (σ.set i none) H, ct := fun σ H => D.ct (σ.set i none) H }
def setA (σ : St) (a : Addr) : Option Nat → St
  | none => σ
  | some i => σ.set i (some (.ref a))
abbrev Clause := Value × Option Nat × (Addr → Value → Option Addr → TS)
def wCl (K : PySem.W.Frag) (Wout : WX) (D : Ends) : List Clause → WX
  | [] => Wout
  | (c, i, ts) :: r => fun cls d σ H => ∃ b, PySem.W.exmOne K cls c = some b ∧ (b = true → ∀ a, H a = none → ts a cls d (endA D i) (setA σ a i) H) ∧ (b = false → wCl K Wout D r cls d σ H)
/-- the name of a clause's error and its slot -/
def CNm (X : Cx) : Option Str → Option Nat → Prop
  | none, none => True
  | some n, some i => X.N[i]? = some n ∧ X.env.kindOf n = some .local
  | _, _ => False
inductive ClOk (X : Cx) : List ExceptHandler → List Clause → Prop
  | nil : ClOk X [] []
  | cons {x : Str} {o : Option Str} {i : Option Nat} {c : Value} {ts : Addr → Value → Option Addr → TS} {b0 : Stmt} {su : List Stmt} {np p' : Pos} {hs : List ExceptHandler} {l : List Clause} : Names X x c → CNm X o i →
      (∀ (a : Addr) (oe : Obj) (cls : Value) (d : Option Addr) (pn : List (Addr × Obj)), Zc cls d oe → (∃ vs, oe.data = .fields vs) → PSs (X.suite a ((a, oe) :: pn)) (b0 :: su) (ts a cls d)) → ClOk X hs l →
      ClOk X (.ExceptHandler (some (.Name x np)) o (b0 :: su) p' :: hs) ((c, i, ts) :: l)
section
variable {X : Cx} {body : List Stmt} {h0 : ExceptHandler} {hds : List ExceptHandler} {l : List Clause} {pos : Pos} {tb : WX → TS} {Wout : WX}
theorem ps_try_cl (stk : X.stack = X.env :: X.outer) (fr0 : X.env.frame = some X.env.locals) (nod : X.N.Nodup) (tk : Takes X Wout)
    (hb : ∀ (W : WX) (pn : List (Addr × Obj)) (xe : Value → Shared → Prop), Takes (X.tr pn xe) W → PassesOwn (model X.prog X.w) X.A X.env xe → PSs (X.tr pn xe) body (tb W)) (hh : ClOk X (h0 :: hds) l) :
    PS X (.Try body (h0 :: hds) [] [] pos) (fun D σ H => tb (wCl X.K Wout D l) D σ H) := by
  refine ⟨fun pins s σ H D I h => wpAny_Try_except ?_⟩
  have ok := I.ok
  have frs1 : X.A.frames = some (X.env :: X.outer) := ok.frames.trans (congrArg some stk)
  have start := (hb (wCl X.K Wout D l) (X.pn ++ pins) (fun e s1 => wpAny (model X.prog X.w) X.A (noteFrame e X.env) (fun _ s2 => wpAny (model X.prog X.w) X.A (setFlight e none) (fun _ s3 => wpAny (model X.prog X.w) X.A (handleBy e X.env (h0 :: hds)) (SP X pins D) X.xe s3) X.xe s2) X.xe s1) (fun u s' xx => ?_) PassesOwn.looking).run [] s σ H D (I.toTry _) h
  · refine wpAny_mono start (fun f s1 z => ?_) fun e s1 z => z
    match f, z with
    | .next, ⟨σ1, H1, J, q⟩ => exact wpAny_execs_nil ⟨σ1, H1, J.ofTry ok, q⟩
    | .brk, ⟨σ1, H1, J, q⟩ => exact ⟨σ1, H1, J.ofTry ok, q⟩
    | .cont, ⟨σ1, H1, J, q⟩ => exact ⟨σ1, H1, J.ofTry ok, q⟩
    | .ret u, ⟨v, σ1, H1, J, r, q⟩ => exact ⟨v, σ1, H1, J.ofTry ok, r, q⟩
  · obtain ⟨a, B, sI, pins1, σ1, H1, cls, d, rfl, J0, low, up, sky, na, os, bare, w⟩ := xx
    have J : Inv X pins σ1 H1 sI := J0.ofTry ok
    have sky1 : Sky B (X.env :: X.outer) a (Zc cls d) X.env.locals s'.heap := by rw [← stk]; exact sky
    refine Sky.land Zc.steady frs1 fr0 sky1 fun h3 fl3 up3 => ?_
    have J3 : Inv X pins σ1 H1 { s' with heap := h3 } := J.landed low fl3.1 (up.trans up3) os bare
    obtain ⟨oe3, vs3, at3, z3, d3⟩ := fl3.there
    have out : a ∉ frs (X.env :: X.outer) := fun hm => by
      obtain ⟨_, o1, e1, nf⟩ := (show h3.FunFrames B (X.env :: X.outer) from fl3.2.2.1).mem hm
      rw [at3] at e1
      cases e1
      exact nf _ d3
    have nL : a ≠ X.env.locals := fun z => out (List.mem_filterMap.mpr ⟨X.env, List.mem_cons_self, by rw [fr0, z]⟩)
    have nF : a ∉ X.fs := fun hm => let ⟨e, he, q⟩ := List.mem_filterMap.mp hm; out (List.mem_filterMap.mpr ⟨e, List.mem_cons_of_mem _ he, q⟩)
    have S3 := J3.suite at3 d3 na nL nF
    have go : ∀ {hs : List ExceptHandler} {l1 : List Clause}, ClOk X hs l1 → wCl X.K Wout D l1 cls d σ1 H1 → wpAny (model X.prog X.w) X.A (handleBy (.ref a) X.env hs) (SP X pins D) X.xe { s' with heap := h3 } := by
      intro hs l1 hk
      induction hk with
      | nil =>
        intro w
        refine wpAny_handleBy_nil ?_
        obtain ⟨k1, k2, k3, oe, vs, T, oT, ts', e0, z0, dd, f1, hr⟩ := id fl3
        have fin : wpAny (model X.prog X.w) X.A (setFlight (.ref a) X.env.frame) (fun _ s4 => wpAny (model X.prog X.w) X.A (throw (.ref a) : Sem Flow) (SP X pins D) X.xe s4) X.xe { s' with heap := h3 } := by
          rw [fr0]
          exact HandSPX.setFlight_upZ fl3 fun h4 held up4 => wpAny_throw (tk _ _ ⟨a, B, sI, pins, σ1, H1, cls, d, rfl, J, low, (up.trans up3).trans up4, .inr (.inr (by rw [stk]; exact held)), na, os, bare, w⟩)
        unfold PySem.passOn
        refine wpAny_bind (wpAny_field e0 dd f1 ?_)
        rw [if_neg (show ¬ ((Value.ref T == Value.none) = true) from by simp)]
        first
          | exact wpAny_bind (wpAny_pure (wpAny_bind fin))
          | exact wpAny_bind fin
      | @cons x o i c ts b0 su np p' hs2 l2 hc hn hsu _ ih =>
        rintro ⟨b, eb, yes, no⟩
        have LT : PySem.W.Looks (model X.prog X.w) h3 (typeOf (.ref a)) cls := fun A Q E s k q => wpAny_typeOf_ref (k _ _ at3) (by rw [z3.1]; exact q)
        have ask : ∀ {Q : Value → Shared → Prop} {E : Value → Shared → Prop}, Q c { s' with heap := h3 } → wpAny (model X.prog X.w) (X.A.mark (some (.ref a))) (eval (.Name x np) X.env) Q E { s' with heap := h3 } := fun {Q E} q => by
          obtain ⟨g1, g2, g3 | ⟨g3, g4, g5⟩⟩ := hc
          · exact ld_glob (X := X.suite a ((a, oe3) :: (X.pn ++ pins))) S3 g1 g3 q g2
          · exact ld_blt (X := X.suite a ((a, oe3) :: (X.pn ++ pins))) S3 g1 g3 g4 q g5 g2
        refine wpAny_handleBy_cons (codeAny_handlers_test (ask ((PySem.W.exm_one (M := model X.prog X.w) J3.kIn LT eb).here ?_))) (by intro q; cases q)
        cases b with
        | false =>
          show wpAny _ X.A (handleBy (.ref a) X.env hs2) _ _ _
          exact ih (no rfl)
        | true =>
          have q0 := yes rfl a na
          cases o with
          | none =>
            cases i with
            | some i => exact hn.elim
            | none =>
              refine codeAny_handlers_suite (HandSPX.lands_againZ fl3 fun h4 fl4 up4 => ?_)
              obtain ⟨oe4, vs4, at4, z4, d4⟩ := fl4.there
              refine wpAny_mono ((hsu a oe4 cls d (X.pn ++ pins) z4 ⟨_, d4⟩).run [] _ _ H1 _ ((show Inv X pins σ1 H1 { s' with heap := h4 } from J.landed low fl4.1 ((up.trans up3).trans up4) os bare).suite at4 d4 na nL nF) q0) (fun f s6 z => ?_) fun _ _ z => z.elim
              match f, z with
              | .next, ⟨σ6, H6, S6, q6⟩ => exact ⟨_, _, S6.unsuite ok, q6⟩
              | .brk, ⟨σ6, H6, S6, q6⟩ => exact ⟨_, _, S6.unsuite ok, q6⟩
              | .cont, ⟨σ6, H6, S6, q6⟩ => exact ⟨_, _, S6.unsuite ok, q6⟩
              | .ret u, ⟨v6, σ6, H6, S6, r6, q6⟩ => exact ⟨_, _, _, S6.unsuite ok, r6, q6⟩
          | some n =>
            cases i with
            | none => exact hn.elim
            | some i =>
              obtain ⟨n1, n2⟩ := hn
              refine codeAny_handlers_suite_as (HandSPX.lands_againZ fl3 fun h4 fl4 up4 => ?_)
              obtain ⟨oe4, vs4, at4, z4, d4⟩ := fl4.there
              refine store_ok (X := X.suite a ((a, oe4) :: (X.pn ++ pins))) (v := .ref a) ((show Inv X pins σ1 H1 { s' with heap := h4 } from J.landed low fl4.1 ((up.trans up3).trans up4) os bare).suite at4 d4 na nL nF) nod n1 (.inl n2) rfl (fun s5 S5 => ?_) (.inr n2)
              refine wpAny_mono ((hsu a oe4 cls d (X.pn ++ pins) z4 ⟨_, d4⟩).run [] s5 _ H1 _ S5 q0) (fun f s6 z => ?_) fun _ _ z => z.elim
              have away : ∀ {σ6 : St} {H6 : Hp} {Q : Shared → Prop}, Inv (X.suite a ((a, oe4) :: (X.pn ++ pins))) [] σ6 H6 s6 → (∀ s7, Inv X pins (σ6.set i none) H6 s7 → Q s7) → wpAny (model X.prog X.w) X.A (do bindName X.env n .none; unbindBehindTheSuite X.env n p') (fun _ s7 => Q s7) X.xe s6 :=
                fun S6 hq => gone_ok (S6.unsuite ok) nod n1 n2 hq
              match f, z with
              | .next, ⟨σ6, H6, S6, q6⟩ => exact away S6 fun s7 J7 => ⟨_, _, J7, q6⟩
              | .brk, ⟨σ6, H6, S6, q6⟩ => exact away S6 fun s7 J7 => ⟨_, _, J7, q6⟩
              | .cont, ⟨σ6, H6, S6, q6⟩ => exact away S6 fun s7 J7 => ⟨_, _, J7, q6⟩
              | .ret u, ⟨v6, σ6, H6, S6, r6, q6⟩ => exact away S6 fun s7 J7 => ⟨_, _, _, J7, r6, q6⟩
    exact go hh w
end
end Ko

/-! Ko, part Ef: suites that return a list of what the error bears. -/
namespace Ko
open PySem L2 PySem.Spec
inductive SI where
  | str (z : Str) | non | bl (b : Bool) | int (n : Int) | fld (f : Str) (cs : List Str) | isx (c : Str) (yes no : List Str)
inductive SF where
  | retL (m : Bool) (l : List SI) | ret1 (it : SI) | eqV (f : Str) (cs : List Str) (j : Nat)
def itV : SI → EX → Option AV
  | .str z, _ => some (.str z)
  | .non, _ => some .non
  | .bl b, _ => some (.bl b)
  | .int n, _ => some (.int n)
  | .fld f cs, x => if cs.contains x.c = true then x.fs.lookup f else none
  | .isx _ yes no, x => if yes.contains x.c = true then some (.bl true) else if no.contains x.c = true then some (.bl false) else none
def itVs : List SI → EX → Option (List AV)
  | [], _ => some []
  | i :: l, x => (itV i x).bind fun v => (itVs l x).map fun vs => v :: vs
def sfF : SF → EX → Rho → AH → SR
  | .retL m l, x, _, ah => match itVs l x with | some vs => if vs.length ≤ sizeLine then (if m = true then .rt (.ref ah.length) (ah ++ [.lst vs]) else .rt (.lst vs) ah) else .st | none => .st
  | .ret1 i, x, _, ah => match itV i x with | some v => .rt v ah | none => .st
  | .eqV f cs j, x, ρ, ah => match itV (.fld f cs) x, ρ[j]? with | some (.str u), some (some (.str z)) => .rt (.bl (decide (u = z))) ah | _, _ => .st
/-- what isinstance asks of an error's class -/
structure XIs (K : PySem.W.Frag) (C : Addr) : Prop where
  cd : (PySem.W.clsIn K C).isSome = true
  ca : PySem.W.findIn K (.ref C) "__class__" = some (some (.builtin "object.__class__"))
  cg : PySem.W.specialIn K (.builtin "object.__class__") "__get__" = some (some (.builtin "getset_descriptor.__get__"))
  ct : PySem.W.takesIn K (.builtin "object.__class__") = some true
  co : PySem.W.mroIn K C (.type "object") = some true
def xisB (K : PySem.W.Frag) (C : Addr) : Bool := (PySem.W.clsIn K C).isSome && decide (PySem.W.findIn K (.ref C) "__class__" = some (some (.builtin "object.__class__"))) && decide (PySem.W.specialIn K (.builtin "object.__class__") "__get__" = some (some (.builtin "getset_descriptor.__get__"))) &&
  decide (PySem.W.takesIn K (.builtin "object.__class__") = some true) && decide (PySem.W.mroIn K C (.type "object") = some true)
theorem xis_of {K : PySem.W.Frag} {C : Addr} (h : xisB K C = true) : XIs K C := by
  unfold xisB at h
  simp only [Bool.and_eq_true, decide_eq_true_eq] at h
  obtain ⟨⟨⟨⟨h1, h2⟩, h3⟩, h4⟩, h5⟩ := h
  exact ⟨h1, h2, h3, h4, h5⟩
/-- what a suite reads of an error of the class c with the fields fl -/
def XRd (K : PySem.W.Frag) (nm : Nm) (c : Str) (fl : List Str) : Prop := ∃ C, nm.cls c = some C ∧ XfC K C ∧ XIs K C ∧ ∀ f ∈ fl, PySem.W.findIn K (.ref C) f = some none
/-- an error of the class y is one of c -/
def XIn (K : PySem.W.Frag) (nm : Nm) (mg : Str → Option Value) (y c : Str) (b : Bool) : Prop := ∃ C D, nm.cls y = some C ∧ mg c = some (.ref D) ∧ PySem.W.exmOne K (.ref C) (.ref D) = some b ∧ PySem.W.kitOne K (.ref C) (.ref D) = some b
section
variable {nm : Nm} {X : Cx} {K : PySem.W.Frag}
def tIt (K : PySem.W.Frag) (nm : Nm) (i : Option Nat) (a : Addr) (cls : Value) (d : Option Addr) (it : SI) : TE := fun σ H Q => ∃ W ah x v, RelH K nm W ah H ∧ (∀ j, i = some j → σ[j]? = some (some (.ref a))) ∧ ExRep K nm W x cls d ∧ itV it x = some v ∧ ∀ w, W.RV K v w → Q w H
def tIts (K : PySem.W.Frag) (nm : Nm) (i : Option Nat) (a : Addr) (cls : Value) (d : Option Addr) (its : List SI) : TA := fun σ H Q => ∃ W ah x vs, RelH K nm W ah H ∧ (∀ j, i = some j → σ[j]? = some (some (.ref a))) ∧ ExRep K nm W x cls d ∧ itVs its x = some vs ∧ ∀ ws, W.RVs K vs ws → Q ws H
/-- isinstance(e, D) in e's suite -/
def rIsD (K : PySem.W.Frag) (cls : Value) (d : Option Addr) (a : Addr) : List V → Hp → VK → Prop := fun xs H Q => ∃ (C D : Addr) (b : Bool), xs = [.ref a, .ref D] ∧ cls = .ref C ∧ XfC K C ∧ XIs K C ∧ PySem.W.kitOne K (.ref C) (.ref D) = some b ∧ (d = none ∨ ∃ dd fs, d = some dd ∧ H dd = some (.xd fs)) ∧ Q (.bl b) H
theorem call_isD {a : Addr} {oe : Obj} {cls : Value} {d : Option Addr} {pn : List (Addr × Obj)} (hz : Zc cls d oe) (hf : ∃ vs, oe.data = .fields vs) : CallR (X.suite a ((a, oe) :: pn)) (.builtin "isinstance") (rIsD X.K cls d a) := by
  rintro pins s σ H xs us Q I r ⟨C, D, b, rfl, rfl, Y, Z, e, hd, q⟩
  match us, r with
  | [_, _], .cons rx (.cons rt .nil) =>
    cases rx
    cases rt
    obtain ⟨at1, _⟩ := I.pin (a, oe) (List.mem_append.mpr (.inl List.mem_cons_self))
    obtain ⟨vs, hv⟩ := hf
    have J : ∃ od, PySem.W.InstAt s.heap a oe C od := by
      obtain ⟨oc, od, oda, osl⟩ := oe
      obtain ⟨h1, h2⟩ := hz
      dsimp only at h1 h2 hv
      subst h1 h2 hv
      rcases hd with rfl | ⟨dd, fs, rfl, ed⟩
      · exact ⟨none, at1, rfl, rfl, trivial⟩
      · obtain ⟨mA, hns, hr⟩ := (show ObjOk X.prog X.w H s.heap dd (.xd fs) from I.hok dd _ ed)
        obtain ⟨od, ho, hl⟩ := lookIn_ns hns
        exact ⟨some od, at1, rfl, rfl, ho⟩
    obtain ⟨od, J⟩ := J
    exact PySem.W.kia_one (PySem.W.kitx_exc Z.cd Y.ga Y.gg Y.exC Z.ca Z.cg Z.ct Z.co) I.kIn J e (fun z => nomatch z) fun tk => ⟨.bl b, H, I.kept (t' := tk) fun _ _ z => z, rfl, q⟩
theorem rfs_get {W : Wd} : ∀ {fs : List (Str × AV)} {ws : List (Str × V)} {f : Str} {v : AV}, RFs K W fs ws → fs.lookup f = some v → ∃ w, ws.lookup f = some w ∧ W.RV K v w
  | _, _, _, _, .nil, e => by cases e
  | (g, x) :: fs, (g', w) :: ws, f, v, .cons r t, e => by
    obtain ⟨r1, r2⟩ := r
    dsimp only at r1 r2
    subst r1
    simp only [List.lookup] at e ⊢
    split at e
    · cases e
      exact ⟨_, rfl, r2⟩
    · exact rfs_get t e
theorem pe_cls {x : Str} {D : Addr} {p : Pos} (hg : Gl X x) (hm : X.mg x = some (.ref D)) (hd : (x == ("__debug__" : Str)) = false) : PE X (.Name x p) (tC (.ref D)) := ⟨fun pins s σ H Q I h => ld_glob I hg hm ⟨.ref D, H, I, rfl, h⟩ hd⟩
variable {a : Addr} {oe : Obj} {cls : Value} {d : Option Addr} {pn : List (Addr × Obj)} {i : Option Nat}
theorem it_str {z : Str} {j : Nat} {p : Pos} : PE X (.Constant (.str z) j p) (tIt K nm i a cls d (.str z)) := PE.weak pe_str fun σ H Q ⟨W, ah, x, v, _, _, _, e, k⟩ => by cases e; exact k _ (.str z)
theorem it_fld {n f : Str} {j : Nat} {cs : List Str} {p p' : Pos} (hN : X.N[j]? = some n) (hv : Vis X.env.scope n) (hd : (n == ("__debug__" : Str)) = false) (hcd : (n == ("__classdict__" : Str)) = false) (hz : Zc cls d oe) (hf : ∃ vs, oe.data = .fields vs)
    (hx : ∀ c ∈ cs, ∃ fl, XRd X.K nm c fl ∧ f ∈ fl) : PE (X.suite a ((a, oe) :: pn)) (.Attribute (.Name n p) f p') (tIt X.K nm (some j) a cls d (.fld f cs)) := by
  refine ⟨fun pins s σ H Q I ⟨W, ah, x, v, R, hi, E, e, k⟩ => ?_⟩
  unfold itV at e
  dsimp only at e
  split at e
  · rename_i hc
    obtain ⟨fl, ⟨C, h1, Y, _, nof⟩, hfl⟩ := hx _ (List.contains_iff_mem.mp hc)
    obtain ⟨C', h1', rfl, E'⟩ := E
    rw [h1] at h1'
    cases h1'
    rcases E' with ⟨e0, _⟩ | ⟨dd, ws, rfl, hw, rf⟩
    · rw [e0] at e; cases e
    · obtain ⟨u, hu, ru⟩ := rfs_get rf e
      exact (pe_xf (X := X) Y (nof f hfl) hz hf (pe_var (X := X.suite a ((a, oe) :: pn)) hN hv hd hcd) (base_of rfl)).run pins s σ H Q I ⟨_, hi j rfl, rfl, rfl, dd, ws, u, rfl, R.fz dd _ hw, hu, k u ru⟩
  · cases e
theorem it_isx {n c : Str} {j : Nat} {yes no : List Str} {p p' p1 pos : Pos} (hN : X.N[j]? = some n) (hv : Vis X.env.scope n) (hd : (n == ("__debug__" : Str)) = false) (hcd : (n == ("__classdict__" : Str)) = false) (hz : Zc cls d oe) (hf : ∃ vs, oe.data = .fields vs)
    (gi : Gl X "isinstance") (mi : X.mg "isinstance" = none) (gc : Gl X c) (hdc : (c == ("__debug__" : Str)) = false) (hr : ∀ y, y ∈ yes ∨ y ∈ no → ∃ fl, XRd X.K nm y fl) (hy : ∀ y ∈ yes, XIn X.K nm X.mg y c true) (hn : ∀ y ∈ no, XIn X.K nm X.mg y c false) :
    PE (X.suite a ((a, oe) :: pn)) (.Call (.Name "isinstance" p) [.Name n p', .Name c p1] [] pos) (tIt X.K nm (some j) a cls d (.isx c yes no)) := by
  refine ⟨fun pins s σ H Q I ⟨W, ah, x, v, R, hi, E, e, k⟩ => ?_⟩
  have key : ∃ b C D, v = .bl b ∧ nm.cls x.c = some C ∧ X.mg c = some (.ref D) ∧ PySem.W.kitOne X.K (.ref C) (.ref D) = some b ∧ XfC X.K C ∧ XIs X.K C := by
    unfold itV at e
    dsimp only at e
    split at e
    · rename_i hc
      cases e
      have m := List.contains_iff_mem.mp hc
      obtain ⟨C, D, h1, h2, _, h4⟩ := hy _ m
      obtain ⟨fl, C', h1', Y, Z, _⟩ := hr _ (.inl m)
      rw [h1] at h1'
      cases h1'
      exact ⟨true, C, D, rfl, h1, h2, h4, Y, Z⟩
    · split at e
      · rename_i hc
        cases e
        have m := List.contains_iff_mem.mp hc
        obtain ⟨C, D, h1, h2, _, h4⟩ := hn _ m
        obtain ⟨fl, C', h1', Y, Z, _⟩ := hr _ (.inr m)
        rw [h1] at h1'
        cases h1'
        exact ⟨false, C, D, rfl, h1, h2, h4, Y, Z⟩
      · cases e
  obtain ⟨b, C, D, rfl, h1, h2, h4, Y, Z⟩ := key
  obtain ⟨C', h1', rfl, E'⟩ := E
  rw [h1] at h1'
  cases h1'
  refine (pe_callB (X := X.suite a ((a, oe) :: pn)) (call_isD hz hf) gi mi (by decide +kernel) (pa_cons (pe_var (X := X.suite a ((a, oe) :: pn)) hN hv hd hcd) (pa_cons (pe_cls (X := X.suite a ((a, oe) :: pn)) gc h2 hdc) pa_nil)) (by decide) (by decide)).run pins s σ H Q I ⟨_, hi j rfl, C, D, b, rfl, rfl, Y, Z, h4, ?_, k _ (.bl b)⟩
  rcases E' with ⟨_, e0⟩ | ⟨dd, ws, e0, hw, _⟩
  · exact .inl e0
  · exact .inr ⟨dd, ws, e0, R.fz dd _ hw⟩
end
end Ko

/-! Ko, part Eg: try under the contract. -/
namespace Ko
open PySem L2 PySem.Spec
/-- a clause: its class, its error's slot, which errors it takes and which not, its suite -/
structure Hd where
  c : Str
  i : Option Nat
  yes : List Str
  no : List Str
  s : SF
def hdF : List Hd → EX → Rho → AH → SR
  | [], x, ρ, ah => .ex x ρ ah
  | h :: r, x, ρ, ah => if h.i.all (fun j => decide (j < ρ.length)) = true then (if h.yes.contains x.c = true then sfF h.s x ρ ah else if h.no.contains x.c = true then hdF r x ρ ah else .st) else .st
def tryF (b : Rho → AH → SR) (hs : List Hd) : Rho → AH → SR := fun ρ ah => match b ρ ah with | .ex x ρ1 ah1 => hdF hs x ρ1 ah1 | r => r
section
variable {nm : Nm} {X : Cx} {K : PySem.W.Frag} {Wx : WX}
def tSf (K : PySem.W.Frag) (nm : Nm) (i : Option Nat) (a : Addr) (cls : Value) (d : Option Addr) : SF → TE
  | .retL _ l => fun σ H Q => tIts K nm i a cls d l σ H fun vs H1 => vs.length ≤ sizeLine ∧ ∀ p, H1 p = none → Q (.ref p) (upd H1 p (.lst vs))
  | .ret1 it => tIt K nm i a cls d it
  | .eqV f cs j => fun σ H Q => ∃ W ah x u z, RelH K nm W ah H ∧ (∀ l, i = some l → σ[l]? = some (some (.ref a))) ∧ ExRep K nm W x cls d ∧ itV (.fld f cs) x = some (.str u) ∧ (i ≠ some j → σ[j]? = some (some (.str z))) ∧ Q (.bl (decide (u = z))) H
def SfOk (nm : Nm) (X : Cx) (i : Option Nat) (s : SF) (e : Expr) : Prop := ∀ (a : Addr) (oe : Obj) (cls : Value) (d : Option Addr) (pn : List (Addr × Obj)), Zc cls d oe → (∃ vs, oe.data = .fields vs) → PE (X.suite a ((a, oe) :: pn)) e (tSf X.K nm i a cls d s)
theorem its_nil {a : Addr} {cls : Value} {d : Option Addr} {i : Option Nat} : PA X [] (tIts K nm i a cls d []) := by
  refine ⟨fun p pins s σ H Q I ⟨W, ah, x, vs, _, _, _, e, k⟩ => pa_nil.run p pins s σ H Q I ?_⟩
  cases e
  exact k [] .nil
theorem its_cons {a : Addr} {cls : Value} {d : Option Addr} {i : Option Nat} {e : Expr} {es : List Expr} {it : SI} {its : List SI} (he : PE X e (tIt K nm i a cls d it)) (ht : PA X es (tIts K nm i a cls d its)) (hs : notSt e = true) : PA X (e :: es) (tIts K nm i a cls d (it :: its)) := by
  refine ⟨fun p pins s σ H Q I ⟨W, ah, x, vs, R, hi, E, q, k⟩ => (pa_cons he ht (star_cons hs)).run p pins s σ H Q I ?_⟩
  unfold itVs at q
  cases e1 : itV it x with
  | none => rw [e1] at q; cases q
  | some v =>
    cases e2 : itVs its x with
    | none => rw [e1, e2] at q; cases q
    | some us =>
      rw [e1, e2] at q
      cases q
      exact ⟨W, ah, x, v, R, hi, E, e1, fun w r => ⟨W, ah, x, us, R, hi, E, e2, fun ws rs => k _ (.cons r rs)⟩⟩
theorem sf_list {i : Option Nat} {m : Bool} {l : List SI} {es : List Expr} {p : Pos} (h : ∀ (a : Addr) (oe : Obj) (cls : Value) (d : Option Addr) (pn : List (Addr × Obj)), Zc cls d oe → (∃ vs, oe.data = .fields vs) → PA (X.suite a ((a, oe) :: pn)) es (tIts X.K nm i a cls d l)) :
    SfOk nm X i (.retL m l) (.List es p) := fun a oe cls d pn hz hf => pe_lst (h a oe cls d pn hz hf)
theorem sf_eq {i : Option Nat} {f : Str} {cs : List Str} {j : Nat} {l : Expr} {y : Str} {p p' : Pos} (hl : ∀ (a : Addr) (oe : Obj) (cls : Value) (d : Option Addr) (pn : List (Addr × Obj)), Zc cls d oe → (∃ vs, oe.data = .fields vs) → PE (X.suite a ((a, oe) :: pn)) l (tIt X.K nm i a cls d (.fld f cs)))
    (hN : X.N[j]? = some y) (hv : Vis X.env.scope y) (hd : (y == ("__debug__" : Str)) = false) (hcd : (y == ("__classdict__" : Str)) = false) (ne : i ≠ some j) : SfOk nm X i (.eqV f cs j) (.Compare l [.Eq] [.Name y p] p') := fun a oe cls d pn hz hf => by
  refine PE.weak (pe_cmpR op_eq (hl a oe cls d pn hz hf) (pe_var (X := X.suite a ((a, oe) :: pn)) hN hv hd hcd) rfl) fun σ H Q ⟨W, ah, x, u, z, R, hi, E, e, hz, q⟩ => ?_
  refine ⟨W, ah, x, _, R, hi, E, e, fun w r => ?_⟩
  cases r
  refine ⟨_, hz ne, rfl, ?_⟩
  have : decide (V.str u = V.str z) = decide (u = z) := decide_eq_decide.mpr (by simp)
  rw [this]
  exact q
inductive HdOk (nm : Nm) (X : Cx) : List Hd → List ExceptHandler → Prop
  | nil : HdOk nm X [] []
  | cons {h : Hd} {o : Option Str} {e : Expr} {D : Addr} {np p p' : Pos} {hs : List Hd} {r : List ExceptHandler} : Gl X h.c → (h.c == ("__debug__" : Str)) = false → X.mg h.c = some (.ref D) → CNm X o h.i → (∀ y ∈ h.yes, XIn X.K nm X.mg y h.c true) → (∀ y ∈ h.no, XIn X.K nm X.mg y h.c false) →
      SfOk nm X h.i h.s e → HdOk nm X hs r → HdOk nm X (h :: hs) (.ExceptHandler (some (.Name h.c np)) o [.Return (some e) p] p' :: r)
theorem end_rt {D : Ends} {i : Option Nat} : (endA D i).rt = D.rt := by cases i <;> rfl
theorem sf_run {W : Wd} {H : Hp} {D : Ends} {σ : St} {s : SF} {x : EX} {ρ : Rho} {ah : AH} {i : Option Nat} {a : Addr} {cls : Value} {d : Option Addr} (R : RelH K nm W ah H) (S : RS K W ρ σ) (E : ExRep K nm W x cls d) (hi : i.all (fun j => decide (j < ρ.length)) = true)
    (p : PoS K nm Wx W H D (sfF s x ρ ah)) : tSf K nm i a cls d s (setA σ a i) H D.rt := by
  have at1 : ∀ j, i = some j → (setA σ a i)[j]? = some (some (.ref a)) := fun j e => by
    subst e
    have hj : j < σ.length := by rw [S.length]; exact of_decide_eq_true hi
    exact List.getElem?_set_self hj
  cases s with
  | retL m l =>
    unfold sfF at p
    dsimp only at p
    cases e : itVs l x with
    | none => rw [e] at p; exact False.elim p
    | some vs =>
      rw [e] at p
      dsimp only at p
      split at p
      · rename_i hl
        refine ⟨W, ah, x, vs, R, at1, E, e, fun ws r => ⟨by rw [r.length]; exact hl, fun b nb => ?_⟩⟩
        cases m with
        | true =>
          rw [if_pos rfl] at p
          have st := Step.more (o := .lst ws) R nb
          refine p (W.more b) _ _ st (R.more nb ⟨ws, upd_same, r.step st⟩) (.ref ?_)
          show (W.io ++ [b])[ah.length]? = some b
          rw [← R.len]; simp
        | false =>
          rw [if_neg Bool.false_ne_true] at p
          exact p (W.keep b (.lst ws)) _ _ (Step.keep R nb) (R.keep nb) (.lst (Rd.of upd_same) (r.step (Step.keep (o := .lst ws) R nb)))
      · exact False.elim p
  | ret1 it =>
    unfold sfF at p
    dsimp only at p
    cases e : itV it x with
    | none => rw [e] at p; exact False.elim p
    | some v =>
      rw [e] at p
      exact ⟨W, ah, x, v, R, at1, E, e, fun w r => p W H w (Step.refl _ _) R r⟩
  | eqV f cs j =>
    unfold sfF at p
    dsimp only at p
    split at p
    · rename_i u z e1 e2
      refine ⟨W, ah, x, u, z, R, at1, E, e1, fun ne => ?_, p W H _ (Step.refl _ _) R (.bl _)⟩
      have q : σ[j]? = some (some (.str z)) := by
        obtain ⟨w, h1, h2⟩ := S.get e2
        cases h2; exact h1
      cases i with
      | none => exact q
      | some i => exact (List.getElem?_set_ne (fun z => ne (by rw [z]))).trans q
    · exact False.elim p
theorem hd_run : ∀ {hs : List Hd} {r : List ExceptHandler}, HdOk nm X hs r → ∃ l, ClOk X r l ∧ ∀ {W : Wd} {H : Hp} {D : Ends} {σ : St} {x : EX} {ρ : Rho} {ah : AH} {cls : Value} {d : Option Addr}, RelH X.K nm W ah H → RS X.K W ρ σ → ExRep X.K nm W x cls d →
    PoS X.K nm Wx W H D (hdF hs x ρ ah) → wCl X.K Wx D l cls d σ H
  | _, _, .nil => ⟨[], .nil, fun {W H D σ x ρ ah cls d} R S E p => p W H σ cls d (Step.refl _ _) R S E⟩
  | _, _, .cons (h := h) (D := D0) g1 g2 g3 g4 yes no sf t => by
    obtain ⟨l, c1, c2⟩ := hd_run t
    refine ⟨(.ref D0, h.i, fun a cls d => tSeq (tRet (tSf X.K nm h.i a cls d h.s)) tNext) :: l, .cons ⟨g1, g2, .inl g3⟩ g4 (fun a oe cls d pn hz hf => pss_cons (ps_ret (sf a oe cls d pn hz hf)) pss_nil) c1, fun {W H D σ x ρ ah cls d} R S E p => ?_⟩
    unfold hdF at p
    split at p
    · rename_i hi
      split at p
      · rename_i hc
        obtain ⟨C, D1, h1, h2, h3, _⟩ := yes _ (List.contains_iff_mem.mp hc)
        obtain ⟨C', h1', rfl, E'⟩ := id E
        rw [h1] at h1'
        cases h1'
        rw [g3] at h2
        cases h2
        refine ⟨true, h3, fun _ a na => ?_, fun z => nomatch z⟩
        show tSf X.K nm h.i a (.ref C) d h.s (setA σ a h.i) H (endA D h.i).rt
        rw [end_rt]
        exact sf_run R S E hi p
      · split at p
        · rename_i hc
          obtain ⟨C, D1, h1, h2, h3, _⟩ := no _ (List.contains_iff_mem.mp hc)
          obtain ⟨C', h1', rfl, E'⟩ := id E
          rw [h1] at h1'
          cases h1'
          rw [g3] at h2
          cases h2
          exact ⟨false, h3, fun z => (nomatch z), fun _ => c2 R S E p⟩
        · exact False.elim p
    · exact False.elim p
theorem es_try {hs : List Hd} {h0 : ExceptHandler} {hds : List ExceptHandler} {body : List Stmt} {f : Rho → AH → SR} {pos : Pos} (stk : X.stack = X.env :: X.outer) (fr0 : X.env.frame = some X.env.locals) (nod : X.N.Nodup) (tk : Takes X Wx)
    (hb : ∀ (W : WX) (pn : List (Addr × Obj)) (xe : Value → Shared → Prop), Takes (X.tr pn xe) W → PassesOwn (model X.prog X.w) X.A X.env xe → PSs (X.tr pn xe) body (TrS nm X.K W f)) (ok : HdOk nm X hs (h0 :: hds)) :
    ES nm X Wx (.Try body (h0 :: hds) [] [] pos) (tryF f hs) := by
  obtain ⟨l, c1, c2⟩ := hd_run (Wx := Wx) ok
  refine PS.weak (ps_try_cl stk fr0 nod tk hb c1) fun D σ H ⟨W, ρ, ah, R, S, p⟩ => ⟨W, ρ, ah, R, S, ?_⟩
  unfold tryF at p
  cases q : f ρ ah with
  | ex x ρ1 ah1 =>
    rw [q] at p
    exact fun W' H' σ' cls d st R' S' E => c2 R' S' E (PoS.shift st p)
  | nx ρ1 ah1 => rw [q] at p; exact p
  | rt v ah1 => rw [q] at p; exact p
  | bk ρ1 ah1 => rw [q] at p; exact p
  | ct ρ1 ah1 => rw [q] at p; exact p
  | st => rw [q] at p; exact p
end
end Ko

/-! Ko, part Ca: objects of own classes: reading and writing their fields. -/
namespace Ko
open PySem L2
/-- the class of an object, its fields -/
def insA (ah : AH) : AV → Option (Nat × Str × List (Str × AV))
  | .ref n => match ah[n]? with | some (.ins c fs) => some (n, c, fs) | _ => none
  | _ => none
def putFA (f : Str) (v : AV) : List (Str × AV) → List (Str × AV)
  | [] => [(f, v)]
  | (k, x) :: r => if k = f then (k, v) :: r else (k, x) :: putFA f v r
theorem insA_eq {ah : AH} {x : AV} {n : Nat} {c : Str} {fs : List (Str × AV)} (h : insA ah x = some (n, c, fs)) : x = .ref n ∧ ah[n]? = some (.ins c fs) := by
  unfold insA at h
  split at h
  · split at h
    · rename_i e
      cases h
      exact ⟨rfl, e⟩
    · cases h
  · cases h
/-- what the text says of a class -/
structure ClsK (K : PySem.W.Frag) (nm : Nm) (c : Str) (fl : List Str) : Prop where
  ex : ∃ C, nm.cls c = some C ∧ Cls K C ∧ ∀ f ∈ fl, NoAttr K C f
section
variable {K : PySem.W.Frag} {nm : Nm} {W : Wd} {ah : AH} {H : Hp}
theorem rfs_look {f : Str} {v : AV} : ∀ {fs : List (Str × AV)} {ws : List (Str × V)}, RFs K W fs ws → fs.lookup f = some v → ∃ w, ws.lookup f = some w ∧ W.RV K v w
  | _, _, .nil, e => by cases e
  | (k, x) :: fs, (k', y) :: ws, .cons r t, e => by
    obtain ⟨r1, r2⟩ := r
    have r1 : k = k' := r1
    subst r1
    simp only [List.lookup] at e ⊢
    split at e
    · cases e
      exact ⟨y, by simp_all, r2⟩
    · obtain ⟨w, h1, h2⟩ := rfs_look t e
      refine ⟨w, ?_, h2⟩
      simp_all
theorem rfs_none {f : Str} : ∀ {fs : List (Str × AV)} {ws : List (Str × V)}, RFs K W fs ws → fs.lookup f = none → ws.lookup f = none
  | _, _, .nil, _ => rfl
  | (k, x) :: fs, (k', y) :: ws, .cons r t, e => by
    obtain ⟨r1, r2⟩ := r
    have r1 : k = k' := r1
    subst r1
    simp only [List.lookup] at e ⊢
    split at e
    · cases e
    · simp_all only
      exact rfs_none t e
theorem rfs_put {f : Str} {v : AV} {w : V} (r : W.RV K v w) : ∀ {fs : List (Str × AV)} {ws : List (Str × V)}, RFs K W fs ws → RFs K W (putFA f v fs) (putF f w ws)
  | _, _, .nil => .cons ⟨rfl, r⟩ .nil
  | (k, x) :: fs, (k', y) :: ws, .cons q t => by
    obtain ⟨q1, q2⟩ := q
    have q1 : k = k' := q1
    subst q1
    rw [show putF f w ((k, y) :: ws) = (if k = f then (k, w) :: ws else (k, y) :: putF f w ws) from rfl, show putFA f v ((k, x) :: fs) = (if k = f then (k, v) :: fs else (k, x) :: putFA f v fs) from rfl]
    by_cases h : k = f
    · rw [if_pos h, if_pos h]; exact .cons ⟨rfl, r⟩ t
    · rw [if_neg h, if_neg h]; exact .cons ⟨rfl, q2⟩ (rfs_put r t)
theorem rfs_len : ∀ {fs : List (Str × AV)} {ws : List (Str × V)}, RFs K W fs ws → ws.length = fs.length
  | _, _, .nil => rfl
  | _, _, .cons _ t => by simp [rfs_len t]
theorem ins_at (R : RelH K nm W ah H) {x : AV} {w : V} (r : W.RV K x w) {n : Nat} {c : Str} {fs : List (Str × AV)} (h : insA ah x = some (n, c, fs)) : ∃ a C dx ws, w = .ref a ∧ W.io[n]? = some a ∧ nm.cls c = some C ∧ H a = some (.ins C dx ws) ∧ RFs K W fs ws := by
  obtain ⟨rfl, e⟩ := insA_eq h
  cases r with
  | @ref n a q =>
    obtain ⟨C, dx, ws, h1, h2, h3⟩ := R.at q e
    exact ⟨a, C, dx, ws, rfl, q, h1, h2, h3⟩
end
/-- o.f -/
def attA (cs : List Str) (f : Str) (ah : AH) (x : AV) : Option AV := (insA ah x).bind fun p => if cs.contains p.2.1 then p.2.2.lookup f else none
section
variable {nm : Nm} {X : Cx} {Wx : WX} {o e : Expr} {f : Str} {fo fa : Rho → AH → Ot AV} {cs : List Str} {pos p2 : Pos}
theorem ev_att (hcs : ∀ c ∈ cs, ClsK X.K nm c [f]) (ho : EV nm X Wx o fo) (hb : plainBase o = true) : EV nm X Wx (.Attribute o f pos) (f1 (attA cs f) fo) := by
  refine ⟨fun pins s σ H Q I ⟨W, ρ, ah, rh, rs, p⟩ => ?_⟩
  refine attr_of (base_of hb) (thn (ho.run pins s σ H _ I (TrE.seq (R := fun w H1 => ∃ (W1 : Wd) (ah1 : AH) (x : AV), RelH X.K nm W1 ah1 H1 ∧ W1.RV X.K x w ∧ ∃ c, attA cs f ah1 x = some c ∧ ∀ w, W1.RV X.K c w → Q w H1) rh rs p fun x ah1 W1 H1 w s1 R1 S1 v1 p1 => ?_)) fun u s1 ⟨w, H1, I1, rw_, W1, ah1, x, R1, v1, c, ec, k⟩ => ?_)
  · obtain ⟨c, e, k⟩ := p1.of
    exact ⟨W1, ah1, x, R1, v1, c, e, fun w r => k W1 H1 (Step.refl _ _) R1 w r⟩
  · unfold attA at ec
    rw [Option.bind_eq_some_iff] at ec
    obtain ⟨⟨n, c', fs⟩, e1, e2⟩ := ec
    split at e2
    · rename_i hc
      obtain ⟨a, C, dx, ws, rfl, _, h1, h2, h3⟩ := ins_at R1 v1 e1
      obtain ⟨y, l, ry⟩ := rfs_look h3 e2
      obtain ⟨D, d1, d2, d3⟩ := (hcs c' (List.contains_iff_mem.mp hc)).ex
      rw [h1] at d1
      cases d1
      obtain rfl : u = Value.ref a := rw_
      exact getattr_ok I1 h2 d2 (d3 f (by simp)) l fun u s' I2 ru => ⟨y, H1, I2, ru, k y ry⟩
    · cases e2
/-- o.f = e -/
def putAtt (cs : List Str) (f : Str) (ah : AH) (x v : AV) : Option AH := (insA ah x).bind fun p => if cs.contains p.2.1 ∧ p.2.2.length < 900 then some (ah.set p.1 (.ins p.2.1 (putFA f v p.2.2))) else none
def attS (cs : List Str) (f : Str) (o a : Rho → AH → Ot AV) : Rho → AH → SR := fun ρ ah => (a ρ ah).to ρ fun v ah1 => (o ρ ah1).to ρ fun x ah2 => match putAtt cs f ah2 x v with | some ah3 => .nx ρ ah3 | none => .st
theorem put_att {K : PySem.W.Frag} {W : Wd} {ah ah' : AH} {H : Hp} {x v : AV} {wx wv : V} (hcs : ∀ c ∈ cs, ClsK K nm c [f]) (R : RelH K nm W ah H) (rx : W.RV K x wx) (rv : W.RV K v wv) (h : putAtt cs f ah x v = some ah') :
    ∃ a C dx ws, wx = .ref a ∧ H a = some (.ins C dx ws) ∧ Cls K C ∧ NoAttr K C f ∧ ws.length < 1000 ∧ Step W H W (upd H a (.ins C dx (putF f wv ws))) ∧ RelH K nm W ah' (upd H a (.ins C dx (putF f wv ws))) := by
  unfold putAtt at h
  rw [Option.bind_eq_some_iff] at h
  obtain ⟨⟨n, c', fs⟩, e1, e2⟩ := h
  split at e2
  · rename_i hc
    cases e2
    obtain ⟨a, C, dx, ws, rfl, q, h1, h2, h3⟩ := ins_at R rx e1
    obtain ⟨D, d1, d2, d3⟩ := (hcs c' (List.contains_iff_mem.mp hc.1)).ex
    rw [h1] at d1
    cases d1
    refine ⟨a, C, dx, ws, rfl, h2, d2, d3 f (by simp), by rw [rfs_len h3]; exact Nat.lt_trans hc.2 (by decide), Step.write R q, R.write q ⟨C, dx, _, h1, upd_same, rfs_put rv h3⟩⟩
  · cases e2
theorem es_att (hcs : ∀ c ∈ cs, ClsK X.K nm c [f]) (ho : EV nm X Wx o fo) (ha : EV nm X Wx e fa) (hn : notLC e = true) : ES nm X Wx (.Assign [.Attribute o f p2] e pos) (attS cs f fo fa) := by
  have hs : swapsWith e (some (.Attribute o f p2)) pos.line X.env = pure false := by cases e <;> first | rfl | exact absurd hn Bool.false_ne_true
  refine PS.weak (ps_fld ho ha hs) fun D σ H ⟨W, ρ, ah, rh, rs, p⟩ => ?_
  refine TrE.to rh rs p fun v ah1 W1 H1 w1 s1 R1 S1 r1 q1 => TrE.to R1 S1 q1 fun x ah2 W2 H2 w2 s2 R2 S2 r2 q2 => ?_
  cases hp : putAtt cs f ah2 x v with
  | none => rw [hp] at q2; exact False.elim q2
  | some ah3 =>
    rw [hp] at q2
    obtain ⟨a, C, dx, ws, e1, h2, d2, d3, lz, st, R3⟩ := put_att hcs R2 r2 (r1.step s2) hp
    exact ⟨a, C, dx, ws, e1, h2, d2, d3, lz, q2 W2 _ σ st R3 S2⟩
/-- o.f op= e -/
def attAugS (cs : List Str) (f : Str) (op : Operator) (o a : Rho → AH → Ot AV) : Rho → AH → SR := fun ρ ah => (o ρ ah).to ρ fun x ah1 => match attA cs f ah1 x with
  | none => .st
  | some v => (a ρ ah1).to ρ fun y ah2 => match iopF op ah2 v y with
    | none => .st
    | some z => if (insA ah1 x).map (·.2.1) = (insA ah2 x).map (·.2.1) then match putAtt cs f ah2 x z with | some ah3 => .nx ρ ah3 | none => .st else .st
theorem es_attAug {op : Operator} (hcs : ∀ c ∈ cs, ClsK X.K nm c [f]) (ho : EV nm X Wx o fo) (ha : EV nm X Wx e fa) : ES nm X Wx (.AugAssign (.Attribute o f p2) op e pos) (attAugS cs f op fo fa) := by
  refine PS.weak (ps_fldaug (rd := r2 nm X.K (iopF op)) ho ha (fun pins s σ H x y u v Q I r1 r2 h => ip_F op pins s σ H x y u v Q I r1 r2 h)) fun D σ H ⟨W, ρ, ah, rh, rs, p⟩ => ?_
  refine TrE.to rh rs p fun x ah1 W1 H1 w1 s1 R1 S1 r1 q1 => ?_
  cases ev : attA cs f ah1 x with
  | none => rw [ev] at q1; exact False.elim q1
  | some v =>
    rw [ev] at q1
    have ec := ev
    unfold attA at ec
    rw [Option.bind_eq_some_iff] at ec
    obtain ⟨⟨n, c', fs⟩, e1, e2⟩ := ec
    split at e2
    · rename_i hc
      obtain ⟨a, C, dx, ws, rfl, _, h1, h2, h3⟩ := ins_at R1 r1 e1
      obtain ⟨y, l, ry⟩ := rfs_look h3 e2
      obtain ⟨D', d1, d2, d3⟩ := (hcs c' (List.contains_iff_mem.mp hc)).ex
      rw [h1] at d1
      cases d1
      refine ⟨a, C, dx, ws, y, rfl, h2, d2, d3 f (by simp), l, TrE.to R1 S1 q1 fun y' ah2 W2 H2 w2 s2 R2 S2 r2 q2 => ?_⟩
      cases ez : iopF op ah2 v y' with
      | none => rw [ez] at q2; exact False.elim q2
      | some z =>
        rw [ez] at q2
        dsimp only at q2
        split at q2
        · rename_i hsame
          refine ⟨W2, ah2, v, y', z, R2, ry.step s2, r2, ez, fun W3 H3 w3 s3 R3 r3 => ?_⟩
          cases hp : putAtt cs f ah2 x z with
          | none => rw [hp] at q2; exact False.elim q2
          | some ah3 =>
            rw [hp] at q2
            obtain ⟨a', C', dx', ws', e1', h2', d2', d3', lz, st, R4⟩ := put_att hcs R3 ((r1.step s2).step s3) r3 hp
            cases e1'
            have hC : C' = C := by
              unfold putAtt at hp
              rw [Option.bind_eq_some_iff] at hp
              obtain ⟨⟨n2, c2, fs2⟩, g1, g2⟩ := hp
              rw [e1, g1] at hsame
              have hsame : c' = c2 := by simpa using hsame
              subst hsame
              obtain ⟨a4, C4, dx4, ws4, e4, _, k1, k2, _⟩ := ins_at R3 ((r1.step s2).step s3) g1
              cases e4
              rw [k1] at h1
              cases h1
              rw [k2] at h2'
              cases h2'
              rfl
            subst hC
            exact ⟨dx', ws', h2', lz, q2 W3 _ σ (s3.trans st) R4 (S2.step s3)⟩
        · exact False.elim q2
    · cases e2
end
end Ko

/-! Ko, part Cb: methods called. -/
namespace Ko
open PySem L2
section
open PySem.Spec
variable {M : Model} {A : Around} {E : Value → Shared → Prop} {s : Shared} {env : Env}
/-- o.name(args, k=..): the object, the method, the call -/
theorem wp_methK {o : Expr} {name : Str} {ap cp : Pos} {args : List Expr} {kws : List Keyword} {Q : Value → Shared → Prop} (hb : plainBase o = true) (hl : (ap.endLine == cp.line) = true) (hs : args.all notSt = true) (hk : (backToKw cp (keywordEach kws env)).all (·.1.isSome) = true) (few : args.length + kws.length < 29)
    (h : wpAny M A (eval o env) (fun ov s1 => ∀ pl, wpAny M A (getMethod ov name pl) (fun fr s2 => wpAny M A (callWith cp fr.1 fr.2 (backTo cp (starEach args env)) (backToKw cp (keywordEach kws env))) Q E s2) E s1) E s) :
    wpAny M A (eval (.Call (.Attribute o name ap) args kws cp) env) Q E s := by
  rw [arm_eval_Call, base_of hb]
  refine wpAny_bind (wpAny_mono h (fun ov s1 h1 => wpAny_bind (wpAny_standAt ?_)) fun _ _ e => e)
  have g1 := star_plain cp env hs
  have g2 : (backTo cp (starEach args env)).all (fun x => !x.1) = true := List.all_eq_true.mpr fun y hy => by simpa using List.any_eq_false.mp g1 y hy
  have form : methodCallForm (args.length + kws.length) (backTo cp (starEach args env)) (backToKw cp (keywordEach kws env)) = true := by
    show ((backTo cp (starEach args env)).all (fun x => !x.1) && (backToKw cp (keywordEach kws env)).all (fun x => x.1.isSome) && decide (args.length + kws.length + (if (backToKw cp (keywordEach kws env)).isEmpty then 0 else 1) < 30)) = true
    rw [g2, hk]
    simp only [Bool.true_and, decide_eq_true_eq]
    split <;> omega
  unfold methodCall
  rw [form]
  refine wpAny_bind (wpAny_holding (wpAny_mono (h1 _) (fun fr s2 h2 => ?_) fun _ _ e => e))
  have at1 : methodCallPos true o env ap cp = pure cp := by unfold methodCallPos; simp [hl]
  rw [at1]
  exact wpAny_bind (wpAny_pure h2)
end
/-- a method of a class of the text -/
structure MetOk (P : Program) (w : World) (K : PySem.W.Frag) (mg : Str → Option Value) (base : Heap) (nm : Nm) (k : Nat) (c m : Str) (sem : List AV → AH → Ot AV) (n : Nat) (kw : List (Nat × List Str × List Nat)) : Prop where
  ex : ∃ C fa fd ps, nm.cls c = some C ∧ Cls K C ∧ Meth K C m fa ∧ Binds K fd ps [] ∧ ps.length = n ∧ FnG P w K mg base nm k fa fd ps sem ∧ ∀ e ∈ kw, KwB K fd ps e.2.1 e.1 e.2.2
/-- the def that o.m means -/
def metA (cs : List (Str × Str)) (m : Str) (ah : AH) (x : AV) : Option Str := (insA ah x).bind fun p => if (p.2.2.lookup m).isNone = true then cs.lookup p.2.1 else none
def mcallF (cs : List (Str × Str)) (call : Str → List AV → AH → Ot AV) (ar : Str → Nat) (m : Str) (o : Rho → AH → Ot AV) (a : Rho → AH → Ot (List AV)) : Rho → AH → Ot AV := fun ρ ah => (o ρ ah).bind fun x ah1 => match metA cs m ah1 x with
  | none => .st
  | some f => (a ρ ah1).bind fun xs ah2 => if (x :: xs).length = ar f then call f (x :: xs) ah2 else .st
theorem look_mem {α β : Type} [BEq α] [LawfulBEq α] {x : α} {y : β} : ∀ {l : List (α × β)}, l.lookup x = some y → (x, y) ∈ l
  | (k, v) :: l, e => by
    simp only [List.lookup] at e
    split at e
    · rename_i q
      cases e
      rw [beq_iff_eq.mp q]
      exact List.mem_cons_self ..
    · exact List.mem_cons_of_mem _ (look_mem e)
section
variable {nm : Nm} {X : Cx} {Wx : WX} {o : Expr} {m : Str} {fo : Rho → AH → Ot AV} {cs : List (Str × Str)} {call : Str → List AV → AH → Ot AV} {ar : Str → Nat} {pos ap : Pos} {es : List Expr} {kws : List Keyword} {a b : Rho → AH → Ot (List AV)}
/-- what is behind an object that is asked for its method -/
theorem met_at {W1 : Wd} {ah1 : AH} {H1 : Hp} {x : AV} {w : V} {f : Str} (R1 : RelH X.K nm W1 ah1 H1) (v1 : W1.RV X.K x w) (h : metA cs m ah1 x = some f) : ∃ a C dx ws c, w = .ref a ∧ nm.cls c = some C ∧ H1 a = some (.ins C dx ws) ∧ ws.lookup m = none ∧ (c, f) ∈ cs := by
  unfold metA at h
  rw [Option.bind_eq_some_iff] at h
  obtain ⟨⟨n, c, fs⟩, e1, e2⟩ := h
  split at e2
  · rename_i hl
    obtain ⟨a, C, dx, ws, rfl, _, h1, h2, h3⟩ := ins_at R1 v1 e1
    refine ⟨a, C, dx, ws, c, rfl, h1, h2, rfs_none h3 (by simpa using hl), look_mem e2⟩
  · cases e2
theorem ev_mcall {k : Nat} {sc : Scope} (c : Ctx (k + 1) sc X Wx) (hm : ∀ p ∈ cs, MetOk X.prog X.w X.K X.mg X.base nm k p.1 m (call p.2) (ar p.2) []) (ho : EV nm X Wx o fo) (hb : plainBase o = true) (hl : (ap.endLine == pos.line) = true)
    (ha : es = [] ∧ a = aNil ∨ es ≠ [] ∧ EA nm X Wx es a) (hst : es.all notSt = true) (few : es.length < 29) : EV nm X Wx (.Call (.Attribute o m ap) es [] pos) (mcallF cs call ar m fo a) := by
  refine ⟨fun pins s σ H Q I ⟨W, ρ, ah, rh, rs, pp⟩ => ?_⟩
  refine wp_methK (kws := []) hb hl hst rfl (by simpa using few) (thn (ho.run pins s σ H _ I (TrE.seq (R := fun w H1 => ∃ (W1 : Wd) (ah1 : AH) (x : AV), RelH X.K nm W1 ah1 H1 ∧ RS X.K W1 ρ σ ∧ W1.RV X.K x w ∧
    Post X.K nm W1 H1 (match metA cs m ah1 x with | none => Ot.st | some f => (a ρ ah1).bind fun xs ah2 => if (x :: xs).length = ar f then call f (x :: xs) ah2 else .st) (fun v _ W' H' => ∀ w, W'.RV X.K v w → Q w H') (xw X.K nm Wx σ)) rh rs pp fun x ah1 W1 H1 w s1 R1 S1 v1 p1 => ⟨W1, ah1, x, R1, S1, v1, p1⟩)) fun u s1 ⟨w, H1, I1, rw_, W1, ah1, x, R1, S1, v1, q⟩ pl => ?_)
  cases hf : metA cs m ah1 x with
  | none => rw [hf] at q; exact False.elim q
  | some f =>
    rw [hf] at q
    dsimp only at q
    obtain ⟨adr, C, dx, ws, c', rfl, h1, h2, h3, hin⟩ := met_at R1 v1 hf
    obtain ⟨C', fa, fd, ps, d1, d2, d3, d4, d5, F, _⟩ := (hm _ hin).ex
    rw [h1] at d1
    cases d1
    obtain rfl : u = Value.ref adr := rw_
    refine getmeth_ok I1 h2 d2 d3 h3 ?_
    dsimp only
    rcases ha with ⟨rfl, rfl⟩ | ⟨hne, ha⟩
    · refine PySem.W.callWith_K0 (first := [.ref adr]) I1.kIn d3.kp ?_
      have q2 : Post X.K nm W1 H1 (if ([x] : List AV).length = ar f then call f [x] ah1 else .st) (fun v _ W' H' => ∀ w, W'.RV X.K v w → Q w H') (xw X.K nm Wx σ) := q
      split at q2
      · rename_i hlen
        have hbt := d4 s1 [.ref adr] I1.kIn (by rw [d5]; exact hlen)
        rw [List.append_nil] at hbt
        exact called (ks := []) (kw := []) (us := [.ref adr]) c F I1 hbt (show Vals [V.ref adr] [Value.ref adr] from .cons rfl .nil) R1 (.cons v1 .nil) (by rw [d5]; exact hlen) q2
      · exact False.elim q2
    · match es, hne, ha, hst with
      | e :: es, _, ha, hst =>
        have start : TrA nm X.K Wx a σ H1 (fun vs H2 => ∃ W2 ah2 xs, Step W1 H1 W2 H2 ∧ RelH X.K nm W2 ah2 H2 ∧ W2.RVs X.K xs vs ∧ Post X.K nm W2 H2 (if (x :: xs).length = ar f then call f (x :: xs) ah2 else .st) (fun v _ W' H' => ∀ w, W'.RV X.K v w → Q w H') (xw X.K nm Wx σ)) :=
          TrA.seqB R1 S1 q fun xs ah2 W2 H2 vs s2 R2 S2 v2 q => ⟨W2, ah2, xs, s2, R2, v2, q⟩
        rw [List.all_cons, Bool.and_eq_true] at hst
        refine PySem.W.callWith_K (first := [.ref adr]) (h₀ := X.base) I.ok.mod.kin d3.kp (thn (ha.run pos pins s1 σ H1 _ I1 start) fun us s2 ⟨vs, H2, I2, r1, W2, ah2, xs, s12, R2, v2, q⟩ => ⟨I2.kIn, ?_⟩) (star_cons hst.1) (star_plain pos X.env hst.2)
        split at q
        · rename_i hlen
          have r2 : Vals (V.ref adr :: vs) (Value.ref adr :: us) := .cons rfl r1
          have rv : W2.RVs X.K (x :: xs) (V.ref adr :: vs) := .cons (v1.step s12) v2
          have hbt := d4 s2 (.ref adr :: us) I2.kIn (by rw [List.append_nil, d5, ← r2.length, rv.length]; exact hlen)
          rw [List.append_nil] at hbt
          exact called (ks := []) (kw := []) (us := .ref adr :: us) c F I2 hbt r2 R2 rv (by rw [d5]; exact hlen) q
        · exact False.elim q
theorem ev_mcallK {k np : Nat} {sc : Scope} {ks : List Str} {perm : List Nat} (c : Ctx (k + 1) sc X Wx) (hm : ∀ p ∈ cs, MetOk X.prog X.w X.K X.mg X.base nm k p.1 m (call p.2) (ar p.2) [(np + 1, ks, perm)]) (ho : EV nm X Wx o fo) (hb : plainBase o = true) (hl : (ap.endLine == pos.line) = true)
    (ha : es = [] ∧ a = aNil ∨ es ≠ [] ∧ EA nm X Wx es a) (hkw : EK nm X Wx kws b) (hn : kwNames kws = some ks) (hst : es.all notSt = true) (few : es.length + kws.length < 29) : EV nm X Wx (.Call (.Attribute o m ap) es kws pos) (mcallF cs call ar m fo (kwF a b np ks.length perm)) := by
  obtain ⟨k1, k2, k3⟩ := kw_of pos X.env hn
  refine ⟨fun pins s σ H Q I ⟨W, ρ, ah, rh, rs, pp⟩ => ?_⟩
  refine wp_methK hb hl hst k1 few (thn (ho.run pins s σ H _ I (TrE.seq (R := fun w H1 => ∃ (W1 : Wd) (ah1 : AH) (x : AV), RelH X.K nm W1 ah1 H1 ∧ RS X.K W1 ρ σ ∧ W1.RV X.K x w ∧
    Post X.K nm W1 H1 (match metA cs m ah1 x with | none => Ot.st | some f => (kwF a b np ks.length perm ρ ah1).bind fun xs ah2 => if (x :: xs).length = ar f then call f (x :: xs) ah2 else .st) (fun v _ W' H' => ∀ w, W'.RV X.K v w → Q w H') (xw X.K nm Wx σ)) rh rs pp fun x ah1 W1 H1 w s1 R1 S1 v1 p1 => ⟨W1, ah1, x, R1, S1, v1, p1⟩)) fun u s1 ⟨w, H1, I1, rw_, W1, ah1, x, R1, S1, v1, q⟩ pl => ?_)
  cases hf : metA cs m ah1 x with
  | none => rw [hf] at q; exact False.elim q
  | some f =>
    rw [hf] at q
    dsimp only at q
    obtain ⟨adr, C, dx, ws, c', rfl, h1, h2, h3, hin⟩ := met_at R1 v1 hf
    obtain ⟨C', fa, fd, ps, d1, d2, d3, d4, d5, F, dk⟩ := (hm _ hin).ex
    have hkb := dk _ (List.mem_singleton.mpr rfl)
    dsimp only at hkb
    rw [h1] at d1
    cases d1
    obtain rfl : u = Value.ref adr := rw_
    refine getmeth_ok I1 h2 d2 d3 h3 ?_
    dsimp only
    have tail : ∀ (us : List Value) (s1 : Shared) (vs : List V) (H1 : Hp) (W1 : Wd) (ah1 : AH) (xs : List AV), L2.Inv X pins σ H1 s1 → Vals vs us → RelH X.K nm W1 ah1 H1 → RS X.K W1 ρ σ → W1.RV X.K x (.ref adr) → W1.RVs X.K xs vs →
        Post X.K nm W1 H1 (((b ρ ah1).bind fun ys ah2 => if xs.length = np ∧ ys.length = ks.length then .ok (xs ++ perm.map fun i => ys.getD i .non) ah2 else .st).bind fun xs ah1 => if (x :: xs).length = ar f then call f (x :: xs) ah1 else .st) (fun v _ W' H' => ∀ w, W'.RV X.K v w → Q w H') (xw X.K nm Wx σ) →
        wpAny (model X.prog X.w) X.A (evalAll ((backToKw pos (keywordEach kws X.env)).map (·.2))) (fun ws s2 => X.K.In s2.heap ∧ wpAny (model X.prog X.w) X.A (PySem.call (.ref fa) ([.ref adr] ++ us) (((backToKw pos (keywordEach kws X.env)).filterMap (·.1)).zip ws)) (EP X pins σ Q) X.xe s2) X.xe s1 := by
      intro us s1 vs H1 W1 ah1 xs I1 r1 R1 S1 vx v1 q
      have q := q.bind.bind
      refine thn (hkw.run pos pins s1 σ H1 (fun zs H2 => ∃ W2 ah2 ys, Step W1 H1 W2 H2 ∧ RelH X.K nm W2 ah2 H2 ∧ W2.RVs X.K ys zs ∧ Post X.K nm W2 H2 ((if xs.length = np ∧ ys.length = ks.length then Ot.ok (xs ++ perm.map fun i => ys.getD i .non) ah2 else .st).bind fun xs ah1 => if (x :: xs).length = ar f then call f (x :: xs) ah1 else .st) (fun v _ W' H' => ∀ w, W'.RV X.K v w → Q w H') (xw X.K nm Wx σ)) I1
        ⟨W1, ρ, ah1, R1, S1, q.imp (fun ys ah2 W2 H2 s2 R2 q2 zs r2 => ⟨W2, ah2, ys, s2, R2, r2, ?_⟩) fun _ _ _ _ _ _ q => q⟩) fun ws s2 ⟨zs, H2, I2, rz, W2, ah2, ys, s12, R2, v2, q2⟩ => ⟨I2.kIn, ?_⟩
      · split at q2
        · rename_i hl; rw [if_pos hl]; exact Post.shift (Step.refl _ _) (q2 W2 H2 (Step.refl _ _) R2)
        · exact False.elim q2
      · split at q2
        · rename_i hl
          have q3 : Post X.K nm W2 H2 (if (x :: (xs ++ perm.map fun i => ys.getD i .non)).length = ar f then call f (x :: (xs ++ perm.map fun i => ys.getD i .non)) ah2 else .st) (fun v _ W' H' => ∀ w, W'.RV X.K v w → Q w H') (xw X.K nm Wx σ) := q2
          split at q3
          · rename_i hl2
            rw [k2]
            have r2 : Vals (V.ref adr :: vs) (Value.ref adr :: us) := .cons rfl r1
            have rv : W2.RVs X.K (x :: xs) (V.ref adr :: vs) := .cons (vx.step s12) (v1.step s12)
            have hbt := hkb s2 (.ref adr :: us) ws I2.kIn (by rw [List.length_cons, ← r1.length, v1.length, hl.1]) (by rw [← rz.length, v2.length]; exact hl.2)
            exact called c F I2 hbt (r2.append (vals_perm rz perm)) R2 (rv.append (rvs_perm v2 perm)) (by rw [d5]; exact hl2) q3
          · exact False.elim q3
        · exact False.elim q2
    rcases ha with ⟨rfl, rfl⟩ | ⟨hne, ha⟩
    · exact PySem.W.callWith_KW0 (first := [.ref adr]) (h₀ := X.base) I.ok.mod.kin d3.kp k1 (tail [] s1 [] H1 W1 ah1 [] I1 .nil R1 S1 v1 .nil q) (by rw [k3]; rfl)
    · have start : TrA nm X.K Wx a σ H1 (fun vs H2 => ∃ W2 ah2 xs, Step W1 H1 W2 H2 ∧ RelH X.K nm W2 ah2 H2 ∧ RS X.K W2 ρ σ ∧ W2.RVs X.K xs vs ∧ Post X.K nm W2 H2 (((b ρ ah2).bind fun ys ah2 => if xs.length = np ∧ ys.length = ks.length then .ok (xs ++ perm.map fun i => ys.getD i .non) ah2 else .st).bind fun xs ah1 => if (x :: xs).length = ar f then call f (x :: xs) ah1 else .st) (fun v _ W' H' => ∀ w, W'.RV X.K v w → Q w H') (xw X.K nm Wx σ)) := by
        refine ⟨W1, ρ, ah1, R1, S1, ?_⟩
        have q : Post X.K nm W1 H1 (((a ρ ah1).bind fun xs ah1 => (b ρ ah1).bind fun ys ah2 => if xs.length = np ∧ ys.length = ks.length then .ok (xs ++ perm.map fun i => ys.getD i .non) ah2 else .st).bind fun xs ah1 => if (x :: xs).length = ar f then call f (x :: xs) ah1 else .st) (fun v _ W' H' => ∀ w, W'.RV X.K v w → Q w H') (xw X.K nm Wx σ) := q
        cases e : a ρ ah1 with
        | ok xs ah2 => rw [e] at q; exact fun W2 H2 s2 R2 vs r => ⟨W2, ah2, xs, s2, R2, S1.step s2, r, Post.shift s2 q⟩
        | ex x ah2 => rw [e] at q; exact q
        | st => rw [e] at q; exact q
      match es, hne, ha, hst with
      | e :: es, _, ha, hst =>
        rw [List.all_cons, Bool.and_eq_true] at hst
        refine PySem.W.callWith_KW (first := [.ref adr]) (h₀ := X.base) I.ok.mod.kin d3.kp k1 (thn (ha.run pos pins s1 σ H1 _ I1 start) fun us s2 ⟨vs, H2, I2, r1, W2, ah2, xs, s12, R2, S2, v2, q⟩ => tail us s2 vs H2 W2 ah2 xs I2 r1 R2 S2 (v1.step s12) v2 q) ?_ (star_cons hst.1)
        rw [k3, star_plain pos X.env (by rw [List.all_cons, hst.1, hst.2]; rfl)]; rfl
end
end Ko

/-! Ko, part Cc: C(..): an object made. -/
namespace Ko
open PySem L2
section
variable {K : PySem.W.Frag} {nm : Nm} {W : Wd} {ah : AH} {H : Hp}
theorem Step.aside {p : Addr} {o : HO} (h : H p = none) : Step W H W (upd H p o) := by
  refine ⟨List.prefix_refl _, Same.refl _, fun b u e n => ?_, fun b m => .inl m, fun b q => .inl q, fun b q => ?_⟩
  · rw [upd_ne (ne_of_none e h)]; exact e
  · by_cases hb : b = p
    · rw [hb]; exact h
    · rw [upd_ne hb] at q; exact q
theorem RelH.aside (R : RelH K nm W ah H) {p : Addr} {o : HO} (h : H p = none) : RelH K nm W ah (upd H p o) := by
  refine ⟨fun b x e => ?_, R.len, R.nd, R.sep, fun i a x e1 e2 => ?_⟩
  · rw [upd_ne (ne_of_none (R.fz b x e) h)]
    exact R.fz b x e
  · have m : a ∈ W.io := List.mem_of_getElem? e1
    exact (R.obj i a x e1 e2).mono (Same.refl _) (List.prefix_refl _) (upd_ne fun z : a = p => (R.fresh h).1 (by rw [← z]; exact m))
end
/-- C(..) of the text: its __init__ -/
structure MkOk (P : Program) (w : World) (K : PySem.W.Frag) (mg : Str → Option Value) (base : Heap) (nm : Nm) (k : Nat) (c : Str) (sem : List AV → AH → Ot AV) (n : Nat) : Prop where
  ex : ∃ C fI fd ps, nm.cls c = some C ∧ mg c = some (.ref C) ∧ Mk K C fI ∧ Binds K fd ps [] ∧ ps.length = n ∧ FnG P w K mg base nm k fI fd ps sem
def newF (c : Str) (sem : List AV → AH → Ot AV) (n : Nat) (a : Rho → AH → Ot (List AV)) : Rho → AH → Ot AV := fun ρ ah => (a ρ ah).bind fun xs ah1 => if xs.length + 1 = n then (sem (.ref ah1.length :: xs) (ah1 ++ [.ins c []])).bind fun v ah2 => (match v with | .non => .ok (.ref ah1.length) ah2 | _ => .st) else .st
section
variable {nm : Nm} {X : Cx} {Wx : WX} {x : Str} {e : Expr} {es : List Expr} {p pos : Pos} {a : Rho → AH → Ot (List AV)} {sem : List AV → AH → Ot AV} {n : Nat}
theorem run_new {k : Nat} {sc : Scope} (c : Ctx (k + 1) sc X Wx) {C fI : Addr} {fd : FuncData} {ps : List Str} (h1 : nm.cls x = some C) (M : Mk X.K C fI) (hb : Binds X.K fd ps []) (F : FnG X.prog X.w X.K X.mg X.base nm k fI fd ps sem) {pins : List (Addr × Obj)} {s : Shared} {σ : St} {H : Hp} (I : L2.Inv X pins σ H s)
    {us : List Value} {vs : List V} {W : Wd} {xs : List AV} {ah : AH} {Q : VK} (r : Vals vs us) (R : RelH X.K nm W ah H) (rv : W.RVs X.K xs vs) (hl : xs.length + 1 = ps.length)
    (q : Post X.K nm W H ((sem (.ref ah.length :: xs) (ah ++ [.ins x []])).bind fun v ah2 => (match v with | .non => Ot.ok (.ref ah.length) ah2 | _ => .st)) (fun v _ W' H' => ∀ w, W'.RV X.K v w → Q w H') (xw X.K nm Wx σ)) :
    wpAny (model X.prog X.w) X.A (PySem.call (.ref C) us) (EP X pins σ Q) X.xe s := by
  obtain ⟨dx, hdx⟩ : ∃ dx, dx = s.heap.objs.size := ⟨_, rfl⟩
  have n1 : H dx = none := by rw [hdx]; exact I.hok.fresh (Nat.le_refl _)
  have n2 : H (dx + 1) = none := by rw [hdx]; exact I.hok.fresh (Nat.le_succ _)
  have ne : dx + 1 ≠ dx := Nat.succ_ne_self _
  have I2 := Inv.made (C := C) I
  rw [← hdx] at I2
  have n2' : (upd H dx (.own (dx + 1))) (dx + 1) = none := by rw [upd_ne ne]; exact n2
  have R1 := R.aside (o := .own (dx + 1)) n1
  have R2 : RelH X.K nm (W.more (dx + 1)) (ah ++ [.ins x []]) (upd (upd H dx (.own (dx + 1))) (dx + 1) (.ins C dx [])) := R1.more n2' ⟨C, dx, [], h1, upd_same, .nil⟩
  have st : Step W H (W.more (dx + 1)) (upd (upd H dx (.own (dx + 1))) (dx + 1) (.ins C dx [])) := (Step.aside n1).trans (Step.more R1 n2')
  have io : (W.more (dx + 1)).io[ah.length]? = some (dx + 1) := by
    show (W.io ++ [dx + 1])[ah.length]? = _
    rw [← R.len, List.getElem?_append_right (Nat.le_refl _), Nat.sub_self]; rfl
  have r2 : Vals (V.ref (dx + 1) :: vs) (Value.ref (dx + 1) :: us) := .cons rfl r
  have rv2 : (W.more (dx + 1)).RVs X.K (.ref ah.length :: xs) (V.ref (dx + 1) :: vs) := .cons (.ref io) (rv.step st)
  have hlen : (AV.ref ah.length :: xs).length = ps.length := by rw [List.length_cons]; exact hl
  have bd := hb _ (Value.ref (dx + 1) :: us) I2.kIn (by rw [List.append_nil, ← r2.length, rv2.length]; exact hlen)
  rw [List.append_nil] at bd
  have hr := c.room.make C us []
  have q2 := (Post.shift st q).bind
  have hs1 : s.heap.objs.size + 1 = dx + 1 := by rw [hdx]
  refine wpAny_call (make_map (f := fI) I.kIn M.makes M.init (beq_iff_eq.mp M.fn) ?_)
  rw [← hdx]
  refine codeAny_mono (F.run _ X.stack _ _ ⟨Value.ref (dx + 1) :: us, []⟩ (Value.ref (dx + 1) :: us) (V.ref (dx + 1) :: vs) (W.more (dx + 1)) (.ref ah.length :: xs) (ah ++ [.ins x []]) (fun v H2 => v = .non ∧ Q (.ref (dx + 1)) H2) (fun cls d H' => Wx cls d σ H') hr c.gd (I2.env0.make C us []) bd r2 R2 rv2 hlen ?_) fun res s' hq => ?_
  · refine q2.imp (fun v ah' W' H' s' R' q3 w rw_ => ?_) fun _ _ _ _ _ _ q => q
    split at q3
    · cases rw_
      exact ⟨rfl, q3 W' H' (Step.refl _ _) R' _ (.ref (by
        obtain ⟨t, e⟩ := s'.io
        rw [← e, List.getElem?_append_left (List.getElem?_eq_some_iff.mp io).1]
        exact io))⟩
    · exact False.elim q3
  · match res, hq with
    | .error e, hq => exact c.tk e s' (XE.of_call I2 (fun _ _ _ h => h) hq)
    | .ok (.ret u), hq =>
      obtain ⟨v, H', I3, rv, ev, q3⟩ := I2.after hq
      subst ev
      exact ⟨rv, ⟨V.ref (dx + 1), H', I3, rfl, q3⟩⟩
theorem ev_new {k : Nat} {sc : Scope} (c : Ctx (k + 1) sc X Wx) (m : MkOk X.prog X.w X.K X.mg X.base nm k x sem n) (hg : Gl X x) (hdb : (x == ("__debug__" : Str)) = false) (ha : es = [] ∧ a = aNil ∨ es ≠ [] ∧ EA nm X Wx es a) (hst : es.all notSt = true) :
    EV nm X Wx (.Call (.Name x p) es [] pos) (newF x sem n a) := by
  obtain ⟨C, fI, fd, ps, h1, h2, M, hb, hn, F⟩ := m.ex
  refine ⟨fun pins s σ H Q I ⟨W, ρ, ah, rh, rs, pp⟩ => ?_⟩
  refine wpAny_Call_Name_kw (ld_glob I hg h2 ?_ hdb)
  rcases ha with ⟨rfl, rfl⟩ | ⟨hne, ha⟩
  · refine PySem.W.callWith_K0 I.kIn M.kp ?_
    have q : Post X.K nm W H (if ([] : List AV).length + 1 = n then (sem (.ref ah.length :: []) (ah ++ [.ins x []])).bind fun v ah2 => (match v with | .non => Ot.ok (.ref ah.length) ah2 | _ => .st) else .st) (fun v _ W' H' => ∀ w, W'.RV X.K v w → Q w H') (xw X.K nm Wx σ) := pp
    split at q
    · rename_i hl
      exact run_new (us := []) c h1 M hb F I .nil rh .nil (by rw [hn]; exact hl) q
    · exact False.elim q
  · match es, hne, ha, hst with
    | e :: es, _, ha, hst =>
      have start : TrA nm X.K Wx a σ H (fun vs H1 => ∃ W1 ah1 xs, Step W H W1 H1 ∧ RelH X.K nm W1 ah1 H1 ∧ W1.RVs X.K xs vs ∧ Post X.K nm W1 H1 (if xs.length + 1 = n then (sem (.ref ah1.length :: xs) (ah1 ++ [.ins x []])).bind fun v ah2 => (match v with | .non => Ot.ok (.ref ah1.length) ah2 | _ => .st) else .st) (fun v _ W' H' => ∀ w, W'.RV X.K v w → Q w H') (xw X.K nm Wx σ)) :=
        TrA.seqB rh rs pp fun xs ah1 W1 H1 vs s1 R1 S1 v1 q => ⟨W1, ah1, xs, s1, R1, v1, q⟩
      rw [List.all_cons, Bool.and_eq_true] at hst
      refine PySem.W.callWith_K (h₀ := X.base) I.ok.mod.kin M.kp (thn (ha.run pos pins s σ H _ I start) fun us s1 ⟨vs, H1, I1, r1, W1, ah1, xs, s2, R1, v1, q⟩ => ⟨I1.kIn, ?_⟩) (star_cons hst.1) (star_plain pos X.env hst.2)
      split at q
      · rename_i hl
        exact run_new c h1 M hb F I1 r1 R1 v1 (by rw [hn]; exact hl) q
      · exact False.elim q
end
end Ko

/-! Ko, part Cd: dicts asked, dicts that lose; sorted; lists turned round. -/
namespace Ko
open PySem L2
def valA (kvs : List (Key × AV)) (k : Key) : Option AV := (kvs.find? fun kv => decide (kv.1 = k)).map (·.2)
def dropA (kvs : List (Key × AV)) (k : Key) : List (Key × AV) := kvs.filter fun kv => decide (kv.1 ≠ k)
section
variable {K : PySem.W.Frag} {fz : Hp} {io : List Addr}
theorem RKs.val {k : Key} : ∀ {kvs : List (Key × AV)} {ws : List (Key × V)}, RKs K fz io kvs ws → (valA kvs k = none ∧ valV ws k = none) ∨ ∃ v w, valA kvs k = some v ∧ valV ws k = some w ∧ RV K fz io v w
  | _, _, .nil => .inl ⟨rfl, rfl⟩
  | (j, y) :: kvs, (_, u) :: ws, .cons r t => by
    by_cases h : j = k
    · exact .inr ⟨y, u, by simp [valA, List.find?_cons, h], by simp [valV, List.find?_cons, h], r⟩
    · have e1 : valA ((j, y) :: kvs) k = valA kvs k := by simp [valA, List.find?_cons, h]
      have e2 : valV ((j, u) :: ws) k = valV ws k := by simp [valV, List.find?_cons, h]
      rw [e1, e2]
      exact RKs.val t
theorem RKs.some {k : Key} {kvs : List (Key × AV)} {ws : List (Key × V)} {v : AV} (r : RKs K fz io kvs ws) (e : valA kvs k = .some v) : ∃ w, valV ws k = .some w ∧ RV K fz io v w := by
  rcases r.val (k := k) with ⟨h, _⟩ | ⟨v', w, h1, h2, h3⟩
  · rw [h] at e; cases e
  · rw [h1] at e; cases e; exact ⟨w, h2, h3⟩
theorem RKs.isSome {k : Key} {kvs : List (Key × AV)} {ws : List (Key × V)} (r : RKs K fz io kvs ws) : (valV ws k).isSome = (valA kvs k).isSome := by
  rcases r.val (k := k) with ⟨h, h'⟩ | ⟨v', w, h1, h2, h3⟩
  · rw [h, h']; rfl
  · rw [h1, h2]; rfl
theorem RKs.drop {k : Key} : ∀ {kvs : List (Key × AV)} {ws : List (Key × V)}, RKs K fz io kvs ws → RKs K fz io (dropA kvs k) (dropK ws k)
  | _, _, .nil => .nil
  | (j, y) :: kvs, (_, u) :: ws, .cons r t => by
    unfold dropA dropK
    rw [List.filter_cons, List.filter_cons]
    by_cases h : j = k
    · have d : decide (j ≠ k) = false := by simp [h]
      dsimp only
      rw [d, if_neg Bool.false_ne_true, if_neg Bool.false_ne_true]; exact RKs.drop t
    · have d : decide (j ≠ k) = true := by simp [h]
      dsimp only
      rw [d, if_pos rfl, if_pos rfl]; exact .cons r (RKs.drop t)
end
def dsubA (ah : AH) (x y : AV) : Option AV := (asKs ah x).bind fun kvs => (keyA y).bind fun k => valA kvs k
def dinA (ah : AH) (y x : AV) : Option AV := (asKs ah x).bind fun kvs => (keyA y).map fun k => .bl (valA kvs k).isSome
def dniA (ah : AH) (y x : AV) : Option AV := (asKs ah x).bind fun kvs => (keyA y).map fun k => .bl (!(valA kvs k).isSome)
def dgetA (ah : AH) (x y z : AV) : Option AV := (asKs ah x).bind fun kvs => (keyA y).map fun k => (valA kvs k).getD z
def dpopA (ah : AH) : AV → AV → Option (AV × AH)
  | .ref n, y => match ah[n]? with
    | some (.dct kvs) => (keyA y).bind fun k => (valA kvs k).map fun v => (v, ah.set n (.dct (dropA kvs k)))
    | _ => none
  | _, _ => none
def dgetF (o k d : Rho → AH → Ot AV) : Rho → AH → Ot AV := fun ρ ah => (o ρ ah).bind fun x ah1 => if (asKs ah1 x).isSome = true then (k ρ ah1).bind fun y ah2 => (d ρ ah2).bind fun z ah3 => Ot.of (dgetA ah3 x y z) ah3 else .st
def dpopF (o k : Rho → AH → Ot AV) : Rho → AH → Ot AV := fun ρ ah => (o ρ ah).bind fun x ah1 => if (asKs ah1 x).isSome = true then (k ρ ah1).bind fun y ah2 => (match dpopA ah2 x y with | some p => .ok p.1 p.2 | none => .st) else .st
def ddelS (o k : Rho → AH → Ot AV) : Rho → AH → SR := fun ρ ah => (o ρ ah).to ρ fun x ah1 => (k ρ ah1).to ρ fun y ah2 => match dpopA ah2 x y with | some p => .nx ρ p.2 | none => .st
/-- {}, to be changed -/
def dicN : Rho → AH → Ot AV := fun _ ah => .ok (.ref ah.length) (ah ++ [.dct []])
section
variable {nm : Nm} {X : Cx} {Wx : WX} {o e f : Expr} {fo fa fb : Rho → AH → Ot AV} {pos ap : Pos}
theorem one_few {args : List Expr} {cpos : Pos} {env : Env} (hs : args.all notSt = true) (hl : args.length < 29) : ((backTo cpos (starEach args env)).all (fun x => !x.1) && (backToKw cpos (keywordEach [] env)).all (fun x => x.1.isSome) && decide (args.length + ([] : List Keyword).length + (if ([] : List Keyword).isEmpty then 0 else 1) < 30)) = true := by
  have h1 := star_plain cpos env hs
  have h2 : (backTo cpos (starEach args env)).all (fun x => !x.1) = true := by
    rw [List.all_eq_true]
    intro y hy
    have := List.any_eq_false.mp h1 y hy
    simpa using this
  rw [h2]
  have : (backToKw cpos (keywordEach [] env)).all (fun x => x.1.isSome) = true := rfl
  rw [this]
  simp
  omega
theorem dget_of {W : Wd} {ah : AH} {H : Hp} {x y : AV} {a : Addr} {w : V} {kvs : List (Key × AV)} {k : Key} (R : RelH X.K nm W ah H) (rx : W.RV X.K x (.ref a)) (ry : W.RV X.K y w) (ex : asKs ah x = some kvs) (ey : keyA y = some k) :
    ∃ ws, H a = some (.dK ws) ∧ RKs X.K W.fz W.io kvs ws ∧ w = kV k ∧ DGet H a w (valV ws k) := by
  obtain ⟨p, ws, e, h1, h2⟩ := asKs_of R rx ex
  cases e
  obtain rfl := key_kV ry ey
  exact ⟨ws, h1, h2, rfl, DGet.k h1⟩
theorem ev_dsub (hu : X.A.units + 1 < cLine) (ho : EV nm X Wx o fo) (ha : EV nm X Wx e fa) (hsl : noSlice e = true) : EV nm X Wx (.Subscript o e pos) (f2 dsubA fo fa) := by
  refine PE.weak (pe_dget hu ho ha (fun v i => by cases e <;> first | rfl | exact absurd hsl Bool.false_ne_true)) fun σ H Q ⟨W, ρ, ah, rh, rs, p⟩ => ?_
  refine TrE.seq rh rs p fun x ah1 W1 H1 w1 s1 R1 S1 v1 p1 => TrE.seq R1 S1 p1 fun y ah2 W2 H2 w2 s2 R2 S2 v2 p2 => ?_
  obtain ⟨c, ec, k⟩ := p2.of
  unfold dsubA at ec
  simp only [Option.bind_eq_some_iff] at ec
  obtain ⟨kvs, e1, ky, e2, e3⟩ := ec
  have v1' := v1.step s2
  obtain ⟨a, _, rfl, _⟩ := asKs_of R2 v1' e1
  obtain ⟨ws, h1, h2, rfl, g⟩ := dget_of R2 v1' v2 e1 e2
  obtain ⟨w, h3, h4⟩ := h2.some e3
  rw [h3] at g
  exact ⟨a, w, rfl, g, k W2 H2 (Step.refl _ _) R2 w h4⟩
theorem op_dinA (hu : X.A.units + 1 < cLine) : OpR X (compareOp .In) (r2 nm X.K dinA) := by
  rintro pins s σ H x y v u Q I rx ry ⟨W, ah, a, b, c, R, ra, rb, e, k⟩
  unfold dinA at e
  simp only [Option.bind_eq_some_iff, Option.map_eq_some_iff] at e
  obtain ⟨kvs, e1, ky, e2, rfl⟩ := e
  obtain ⟨p, _, rfl, _⟩ := asKs_of R rb e1
  obtain ⟨ws, h1, h2, rfl, g⟩ := dget_of R rb ra e1 e2
  obtain rfl : u = Value.ref p := ry
  exact d_in hu I g rx fun s' J => ⟨.bl _, H, J, rfl, k W H _ (Step.refl _ _) R (by rw [h2.isSome]; exact .bl _)⟩
theorem op_dniA (hu : X.A.units + 1 < cLine) : OpR X (compareOp .NotIn) (r2 nm X.K dniA) := by
  rintro pins s σ H x y v u Q I rx ry ⟨W, ah, a, b, c, R, ra, rb, e, k⟩
  unfold dniA at e
  simp only [Option.bind_eq_some_iff, Option.map_eq_some_iff] at e
  obtain ⟨kvs, e1, ky, e2, rfl⟩ := e
  obtain ⟨p, _, rfl, _⟩ := asKs_of R rb e1
  obtain ⟨ws, h1, h2, rfl, g⟩ := dget_of R rb ra e1 e2
  obtain rfl : u = Value.ref p := ry
  exact d_notIn hu I g rx fun s' J => ⟨.bl _, H, J, rfl, k W H _ (Step.refl _ _) R (by rw [h2.isSome]; exact .bl _)⟩
theorem isD_of {W : Wd} {ah : AH} {H : Hp} {x : AV} {w : V} (R : RelH X.K nm W ah H) (rx : W.RV X.K x w) (h : (asKs ah x).isSome = true) : ∃ a, w = .ref a ∧ IsD H a := by
  obtain ⟨kvs, e⟩ := Option.isSome_iff_exists.mp h
  obtain ⟨p, ws, rfl, h1, _⟩ := asKs_of R rx e
  exact ⟨p, rfl, .inl ⟨ws, .inl h1⟩⟩
theorem ev_dget {g : Expr} (hu : X.A.units + 1 < cLine) (ho : EV nm X Wx o fo) (ha : EV nm X Wx e fa) (hb : EV nm X Wx g fb) (hp : plainBase o = true) (hl : (ap.endLine == pos.line) = true) (hs : notSt e = true) (hs2 : notSt g = true) :
    EV nm X Wx (.Call (.Attribute o "get" ap) [e, g] [] pos) (dgetF fo fa fb) := by
  have hall : [e, g].all notSt = true := by simp [hs, hs2]
  refine PE.weak (pe_dget2 hu ho ha hb ⟨base_of hp, one_few hall (by simp), hl, ?_⟩) fun σ H Q ⟨W, ρ, ah, rh, rs, p⟩ => ?_
  · rw [star_cons hs, star_cons hs2]; rfl
  refine TrE.seqB rh rs p fun x ah1 W1 H1 w1 s1 R1 S1 v1 p1 => ?_
  split at p1
  · rename_i hx
    obtain ⟨a, rfl, hd⟩ := isD_of R1 v1 hx
    refine ⟨a, rfl, hd, TrE.seqB R1 S1 p1 fun y ah2 W2 H2 w2 s2 R2 S2 v2 p2 => TrE.seqB R2 S2 p2 fun z ah3 W3 H3 w3 s3 R3 S3 v3 p3 => ?_⟩
    obtain ⟨c, ec, k⟩ := p3.of
    unfold dgetA at ec
    simp only [Option.bind_eq_some_iff, Option.map_eq_some_iff] at ec
    obtain ⟨kvs, e1, ky, e2, rfl⟩ := ec
    obtain ⟨ws, h1, h2, rfl, g'⟩ := dget_of R3 ((v1.step s2).step s3) (v2.step s3) e1 e2
    refine ⟨_, g', ?_⟩
    rcases h2.val (k := ky) with ⟨q1, q2⟩ | ⟨v', w', q1, q2, q3⟩
    · rw [q2]
      refine k W3 H3 (Step.refl _ _) R3 _ ?_
      rw [q1]; exact v3
    · rw [q2]
      refine k W3 H3 (Step.refl _ _) R3 _ ?_
      rw [q1]; exact q3
  · exact False.elim p1
theorem dpop_of {W : Wd} {ah : AH} {H : Hp} {x y : AV} {w1 w2 : V} {q : AV × AH} (R : RelH X.K nm W ah H) (rx : W.RV X.K x w1) (ry : W.RV X.K y w2) (e : dpopA ah x y = some q) :
    ∃ a ws k w, w1 = .ref a ∧ H a = some (.dK ws) ∧ w2 = kV k ∧ valV ws k = some w ∧ W.RV X.K q.1 w ∧ Step W H W (upd H a (.dK (dropK ws k))) ∧ RelH X.K nm W q.2 (upd H a (.dK (dropK ws k))) := by
  unfold dpopA at e
  split at e
  · split at e
    · rename_i n y' kvs hn
      simp only [Option.bind_eq_some_iff, Option.map_eq_some_iff] at e
      obtain ⟨k, e1, v, e2, rfl⟩ := e
      cases rx with
      | ref h =>
        obtain ⟨ws, h1, h2⟩ := R.atD h hn
        obtain rfl := key_kV ry e1
        obtain ⟨w, h3, h4⟩ := h2.some e2
        exact ⟨_, ws, k, w, rfl, h1, rfl, h3, h4, Step.write R h, R.write h ⟨_, upd_same, h2.drop⟩⟩
    · cases e
  · cases e
theorem ev_dpop (ho : EV nm X Wx o fo) (ha : EV nm X Wx e fa) (hp : plainBase o = true) (hl : (ap.endLine == pos.line) = true) (hs : notSt e = true) : EV nm X Wx (.Call (.Attribute o "pop" ap) [e] [] pos) (dpopF fo fa) := by
  have hall : [e].all notSt = true := by simp [hs]
  refine PE.weak (pe_dpop1 ho ha ⟨base_of hp, one_few hall (by simp), hl, ?_⟩) fun σ H Q ⟨W, ρ, ah, rh, rs, p⟩ => ?_
  · rw [star_cons hs]; rfl
  refine TrE.seqB rh rs p fun x ah1 W1 H1 w1 s1 R1 S1 v1 p1 => ?_
  split at p1
  · rename_i hx
    obtain ⟨a, rfl, hd⟩ := isD_of R1 v1 hx
    refine ⟨a, rfl, hd, TrE.seqB R1 S1 p1 fun y ah2 W2 H2 w2 s2 R2 S2 v2 p2 => ?_⟩
    split at p2
    · rename_i q eq
      obtain ⟨a', ws, k, w, e1, h1, h2, h3, h4, st, R3⟩ := dpop_of R2 (v1.step s2) v2 eq
      cases e1
      exact ⟨ws, k, w, h1, h2, h3, p2 W2 _ st R3 _ h4⟩
    · exact False.elim p2
  · exact False.elim p1
theorem es_ddel (ho : EV nm X Wx o fo) (ha : EV nm X Wx e fa) {tp : Pos} : ES nm X Wx (.Delete [.Subscript o e tp] pos) (ddelS fo fa) := by
  refine PS.weak (ps_ddel ho ha) fun D σ H ⟨W, ρ, ah, rh, rs, p⟩ => ?_
  refine TrE.to rh rs p fun x ah1 W1 H1 w1 s1 R1 S1 r1 q1 => TrE.to R1 S1 q1 fun y ah2 W2 H2 w2 s2 R2 S2 r2 q2 => ?_
  split at q2
  · rename_i q eq
    obtain ⟨a', ws, k, w, e1, h1, h2, h3, h4, st, R3⟩ := dpop_of R2 (r1.step s2) r2 eq
    exact ⟨a', ws, k, e1, h1, h2, by rw [h3]; rfl, q2 W2 _ σ st R3 S2⟩
  · exact False.elim q2
theorem ev_dicN : EV nm X Wx (.Dict [] [] pos) dicN := by
  refine PE.weak pe_dnewK fun σ H Q ⟨W, ρ, ah, rh, rs, p⟩ l hl => ?_
  have st := Step.more (o := .dK []) rh hl
  refine p (W.more l) _ st (rh.more hl ⟨[], upd_same, .nil⟩) _ (.ref ?_)
  show (W.io ++ [l])[ah.length]? = some l
  rw [← rh.len]; simp
end
/-! sorted -/
def insS (x : Str) : List Str → List Str
  | [] => [x]
  | y :: r => if y.cps.toList < x.cps.toList then y :: insS x r else x :: y :: r
def srtS : List Str → List Str
  | [] => []
  | x :: r => insS x (srtS r)
theorem insS_perm (x : Str) : ∀ l, (insS x l).Perm (x :: l)
  | [] => .refl _
  | y :: r => by
    unfold insS; split
    · exact ((insS_perm x r).cons y).trans (.swap _ _ _)
    · exact .refl _
theorem srtS_perm : ∀ ns, (srtS ns).Perm ns
  | [] => .refl _
  | x :: r => (insS_perm x _).trans ((srtS_perm r).cons x)
abbrev leS (a b : Str) : Prop := ¬ b.cps.toList < a.cps.toList
theorem leS_trans {a b c : Str} (h : leS a b) (g : leS b c) : leS a c := fun q => by
  have h' : a.cps.toList ≤ b.cps.toList := h
  have g' : b.cps.toList ≤ c.cps.toList := g
  exact List.not_lt.mpr (List.le_trans h' g') q
theorem insS_rises (x : Str) : ∀ l : List Str, l.Pairwise leS → (insS x l).Pairwise leS
  | [], _ => by simp [insS]
  | y :: r, h => by
    obtain ⟨h1, h2⟩ := List.pairwise_cons.mp h
    unfold insS; split
    · rename_i hyx
      refine List.pairwise_cons.mpr ⟨fun z hz => ?_, insS_rises x r h2⟩
      rcases List.mem_cons.mp ((insS_perm x r).mem_iff.mp hz) with rfl | hz
      · exact List.not_lt.mpr (List.le_of_lt hyx)
      · exact h1 z hz
    · rename_i hyx
      refine List.pairwise_cons.mpr ⟨fun z hz => ?_, h⟩
      rcases List.mem_cons.mp hz with rfl | hz
      · exact hyx
      · exact leS_trans hyx (h1 z hz)
theorem srtS_rises : ∀ ns, (srtS ns).Pairwise leS
  | [] => .nil
  | x :: r => insS_rises x _ (srtS_rises r)
theorem rises_of : ∀ (p : Str) (l : List Str), PyProof.Rows.risingS p l = true → (p :: l).Pairwise leS
  | p, [], _ => by simp
  | p, x :: r, h => by
    have h : (!PySem.Spec.ltCps x.cps.toList p.cps.toList && PyProof.Rows.risingS x r) = true := h
    rw [Bool.and_eq_true, Bool.not_eq_true', PyProof.Rows.ltCps_eq, decide_eq_false_iff_not] at h
    have ih := rises_of x r h.2
    refine List.pairwise_cons.mpr ⟨fun z hz => ?_, ih⟩
    rcases List.mem_cons.mp hz with rfl | hz
    · exact h.1
    · exact leS_trans h.1 ((List.pairwise_cons.mp ih).1 z hz)
theorem eq_srtS {ns ns' : List Str} (hp : ns'.Perm ns) (hs : PyProof.Rows.sortedS ns' = true) : ns' = srtS ns := by
  have h1 : ns'.Pairwise leS := by
    cases ns' with
    | nil => exact .nil
    | cons x r => exact rises_of x r hs
  exact List.Perm.eq_of_pairwise (fun a b _ _ h g => by
    have h' : a.cps.toList ≤ b.cps.toList := h
    have g' : b.cps.toList ≤ a.cps.toList := g
    have := List.le_antisymm h' g'
    cases a with | mk a => cases b with | mk b => congr 1; exact Array.toList_inj.mp this) h1 (srtS_rises ns) (hp.trans (srtS_perm ns).symm)
def srtA (ah : AH) (x : AV) : Option (List AV) := (asL ah x).bind fun xs => (asStrs xs).bind fun zs => if zs.length < 64 then some ((srtS zs).map .str) else none
def srtF (a : Rho → AH → Ot AV) : Rho → AH → Ot AV := f1 (fun ah x => (srtA ah x).map .lst) a
def srtMF (a : Rho → AH → Ot AV) : Rho → AH → Ot AV := fun ρ ah => (a ρ ah).bind fun x ah1 => match srtA ah1 x with | some xs => .ok (.ref ah1.length) (ah1 ++ [.lst xs]) | none => .st
theorem rvs_strs {K : PySem.W.Frag} {W : Wd} : ∀ zs : List Str, W.RVs K (zs.map .str) (zs.map V.str)
  | [] => .nil
  | z :: r => .cons (.str z) (rvs_strs r)
section
variable {nm : Nm} {X : Cx} {Wx : WX} {e : Expr} {fa : Rho → AH → Ot AV} {p pos : Pos}
theorem srt_of {W : Wd} {ah : AH} {H : Hp} {x : AV} {w : V} {ys : List AV} {Q : VK} (R : RelH X.K nm W ah H) (rx : W.RV X.K x w) (h : srtA ah x = some ys) (q : ∀ (vs : List V) (l : Addr), H l = none → W.RVs X.K ys vs → Q (.ref l) (upd H l (.lst vs))) : rSortedS X.K [w] H Q := by
  unfold srtA at h
  simp only [Option.bind_eq_some_iff] at h
  obtain ⟨xs, e1, zs, e2, e3⟩ := h
  split at e3
  · rename_i hl
    cases e3
    obtain ⟨a, vs, rfl, h1, h2⟩ := asL_of R rx e1
    obtain rfl := asStrs_of h2 e2
    refine ⟨a, zs, rfl, .inl h1, hl, fun ys l hp hs hn => ?_⟩
    obtain rfl := eq_srtS hp hs
    exact q _ l hn (rvs_strs _)
  · cases e3
theorem ev_srt (hg : Gl X "sorted") (hm : X.mg "sorted" = none) (ha : EV nm X Wx e fa) (hs : notSt e = true) : EV nm X Wx (.Call (.Name "sorted" p) [e] [] pos) (srtF fa) := by
  refine PE.weak (pe_callB cr_sortedS hg hm (by decide +kernel) (pa_cons ha pa_nil (star_cons hs)) (by decide) (by decide) (star_cons hs) (star_plain _ _ rfl)) fun σ H Q ⟨W, ρ, ah, rh, rs, p⟩ => ?_
  refine TrE.seq rh rs p fun x ah1 W1 H1 w1 s1 R1 S1 v1 p1 => ?_
  obtain ⟨c, ec, k⟩ := p1.of
  simp only [Option.map_eq_some_iff] at ec
  obtain ⟨ys, e1, rfl⟩ := ec
  refine srt_of R1 v1 e1 fun vs l hl r => ?_
  exact k (W1.keep l (.lst vs)) _ (Step.keep R1 hl) (R1.keep hl) _ (.lst (Rd.of upd_same) (r.step (Step.keep (o := .lst vs) R1 hl)))
theorem ev_srtM (hg : Gl X "sorted") (hm : X.mg "sorted" = none) (ha : EV nm X Wx e fa) (hs : notSt e = true) : EV nm X Wx (.Call (.Name "sorted" p) [e] [] pos) (srtMF fa) := by
  refine PE.weak (pe_callB cr_sortedS hg hm (by decide +kernel) (pa_cons ha pa_nil (star_cons hs)) (by decide) (by decide) (star_cons hs) (star_plain _ _ rfl)) fun σ H Q ⟨W, ρ, ah, rh, rs, p⟩ => ?_
  refine TrE.seqB rh rs p fun x ah1 W1 H1 w1 s1 R1 S1 v1 p1 => ?_
  split at p1
  · rename_i ys e1
    refine srt_of R1 v1 e1 fun vs l hl r => ?_
    have st := Step.more (o := .lst vs) R1 hl
    refine p1 (W1.more l) _ st (R1.more hl ⟨vs, upd_same, r.step st⟩) _ (.ref ?_)
    show (W1.io ++ [l])[ah1.length]? = some l
    rw [← R1.len]; simp
  · exact False.elim p1
end
/-! xs[::-1] -/
def revA (ah : AH) (x : AV) : Option AV := (asL ah x).map fun xs => .lst xs.reverse
section
variable {nm : Nm} {X : Cx} {Wx : WX} {e : Expr} {fa : Rho → AH → Ot AV}
theorem RVs.rev {K : PySem.W.Frag} {fz : Hp} {io : List Addr} : ∀ {xs : List AV} {vs : List V}, RVs K fz io xs vs → RVs K fz io xs.reverse vs.reverse
  | _, _, .nil => .nil
  | _, _, .cons r t => by
    rw [List.reverse_cons, List.reverse_cons]
    exact RVs.append (RVs.rev t) (.cons r .nil)
theorem ev_rev {k : Nat} {p1 p2 p3 pos : Pos} (ha : EV nm X Wx e fa) : EV nm X Wx (.Subscript e (.Slice none none (some (.UnaryOp .USub (.Constant (.int 1) k p1) p2)) p3) pos) (f1 revA fa) := by
  refine PE.weak (pe_revL ha) fun σ H Q ⟨W, ρ, ah, rh, rs, p⟩ => ?_
  refine TrE.seq rh rs p fun x ah1 W1 H1 w1 s1 R1 S1 v1 p1 => ?_
  obtain ⟨c, ec, k⟩ := p1.of
  unfold revA at ec
  simp only [Option.map_eq_some_iff] at ec
  obtain ⟨xs, e1, rfl⟩ := ec
  obtain ⟨a, vs, rfl, h1, h2⟩ := asL_of R1 v1 e1
  refine ⟨a, vs, rfl, .inl h1, fun l hl => ?_⟩
  exact k (W1.keep l (.lst vs.reverse)) _ (Step.keep R1 hl) (R1.keep hl) _ (.lst (Rd.of upd_same) (h2.rev.step (Step.keep (o := .lst vs.reverse) R1 hl)))
end
end Ko

/-! Ko, part Ce: == and != of two dicts. -/
namespace Ko
open PySem L2
/-- are the pairs of the one among those of the other -/
def eqDs (ah : AH) (kb : List (Key × AV)) : List (Key × AV) → Option Bool
  | [] => some true
  | (k, v) :: r => match valA kb k with
    | none => some false
    | some y => (eqD ah v y).bind fun e => (eqDs ah kb r).map fun b => e && b
def deqB (ah : AH) (a b : AV) : Option Bool := (asKs ah a).bind fun ka => (asKs ah b).bind fun kb => if ka.length = kb.length then eqDs ah kb ka else some false
def deqA (ah : AH) (a b : AV) : Option AV := (deqB ah a b).map .bl
def dneA (ah : AH) (a b : AV) : Option AV := (deqB ah a b).map fun c => .bl (!c)
section
variable {nm : Nm} {X : Cx} {pins : List (Addr × Obj)} {σ : St} {H : Hp} {s : Shared} {W : Wd} {ah : AH}
theorem deq_hits (sm : SM X) (I : Inv X pins σ H s) (R : RelH X.K nm W ah H) (hu : X.A.in1.units + 64 < cLine) {kb : List (Key × AV)} {wb : List (Key × V)} {vb : List (Key × Value)} (rb : RKs X.K W.fz W.io kb wb) (qb : KV wb vb) :
    ∀ {ka : List (Key × AV)} {wa : List (Key × V)} {va : List (Key × Value)} {c : Bool}, RKs X.K W.fz W.io ka wa → KV wa va → eqDs ah kb ka = some c → PySem.W.KeqHits X.A.in1 s vb va c
  | _, _, _, _, .nil, .nil, e => by cases e; exact .nil
  | (k, v) :: ka, _, _, c, .cons (v := w) r t, .cons (b := q) rv tv, e => by
    obtain ⟨key, u⟩ := q
    obtain ⟨h1, h2⟩ := rv
    have h1' : k = key := h1
    subst h1'
    unfold eqDs at e
    have ro : RelO (valV wb k) (valueAt vb k) := KV.val qb k
    rcases rb.val (k := k) with ⟨g1, g2⟩ | ⟨y, w', g1, g2, g3⟩
    · rw [g1] at e
      dsimp only at e
      cases e
      rw [g2] at ro
      refine .miss ?_
      cases q : valueAt vb k with
      | none => rfl
      | some z => rw [q] at ro; exact ro.elim
    · rw [g1] at e
      dsimp only at e
      simp only [Option.bind_eq_some_iff, Option.map_eq_some_iff] at e
      obtain ⟨e1, q1, b, q2, rfl⟩ := e
      rw [g2] at ro
      obtain ⟨z, hz, rz⟩ := ro.some_of
      obtain ⟨d, f, h3, h4, h5, h6, rfl⟩ := eqD_of q1
      obtain ⟨as, x1, _⟩ := readsH_of sm I R r h2 h3
      obtain ⟨bs, x2, _⟩ := readsH_of sm I R g3 rz h4
      exact .hit hz (PySem.W.keq_at x1 x2 h5 h6 hu) (deq_hits sm I R hu rb qb t tv q2)
theorem op_deqA (sm : SM X) (hu : X.A.units + 80 < cLine) : OpR X (compareOp .Eq) (r2 nm X.K deqA) := by
  rintro pins s σ H x y v u Q I rx ry ⟨W, ah, a, b, c, R, ra, rb, e, k⟩
  unfold deqA deqB at e
  simp only [Option.bind_eq_some_iff, Option.map_eq_some_iff] at e
  obtain ⟨c, ⟨ka, e1, kb, e2, e3⟩, rfl⟩ := e
  obtain ⟨p, ws, rfl, h1, h2⟩ := asKs_of R ra e1
  obtain ⟨p', ws', rfl, h1', h2'⟩ := asKs_of R rb e2
  obtain rfl : v = Value.ref p := rx
  obtain rfl : u = Value.ref p' := ry
  obtain ⟨_, ya, va, qa, da⟩ := (show ObjOk X.prog X.w H s.heap p (.dK ws) from I.hok p _ h1)
  obtain ⟨_, yb, vb, qb, db⟩ := (show ObjOk X.prog X.w H s.heap p' (.dK ws') from I.hok p' _ h1')
  have l1 : va.length = ka.length := qa.length.symm.trans h2.lenW
  have l2 : vb.length = kb.length := qb.length.symm.trans h2'.lenW
  by_cases hl : ka.length = kb.length
  · rw [if_pos hl] at e3
    refine PySem.W.keq_eq (knd := mixKind X.prog X.w) (r := c) ya yb da db (by omega) (fun _ => deq_hits sm I R (by show X.A.units + 1 + 64 < cLine; omega) h2' qb h2 qa e3) ⟨.bl c, H, I, ?_, k W H _ (Step.refl _ _) R (.bl _)⟩
    rw [l1, l2, hl, beq_self_eq_true, Bool.true_and]; rfl
  · rw [if_neg hl] at e3
    cases e3
    refine PySem.W.keq_eq (knd := mixKind X.prog X.w) (r := true) ya yb da db (by omega) (fun z => absurd (l1.symm.trans (z.trans l2)) hl) ⟨.bl false, H, I, ?_, k W H _ (Step.refl _ _) R (.bl _)⟩
    rw [l1, l2, beq_eq_false_iff_ne.mpr hl, Bool.false_and]; rfl
theorem op_dneA (sm : SM X) (hu : X.A.units + 80 < cLine) : OpR X (compareOp .NotEq) (r2 nm X.K dneA) := by
  rintro pins s σ H x y v u Q I rx ry ⟨W, ah, a, b, c, R, ra, rb, e, k⟩
  unfold dneA deqB at e
  simp only [Option.bind_eq_some_iff, Option.map_eq_some_iff] at e
  obtain ⟨c, ⟨ka, e1, kb, e2, e3⟩, rfl⟩ := e
  obtain ⟨p, ws, rfl, h1, h2⟩ := asKs_of R ra e1
  obtain ⟨p', ws', rfl, h1', h2'⟩ := asKs_of R rb e2
  obtain rfl : v = Value.ref p := rx
  obtain rfl : u = Value.ref p' := ry
  obtain ⟨_, ya, va, qa, da⟩ := (show ObjOk X.prog X.w H s.heap p (.dK ws) from I.hok p _ h1)
  obtain ⟨_, yb, vb, qb, db⟩ := (show ObjOk X.prog X.w H s.heap p' (.dK ws') from I.hok p' _ h1')
  have l1 : va.length = ka.length := qa.length.symm.trans h2.lenW
  have l2 : vb.length = kb.length := qb.length.symm.trans h2'.lenW
  by_cases hl : ka.length = kb.length
  · rw [if_pos hl] at e3
    refine PySem.W.keq_ne (knd := mixKind X.prog X.w) (r := c) ya yb da db (by omega) (fun _ => deq_hits sm I R (by show X.A.units + 1 + 64 < cLine; omega) h2' qb h2 qa e3) ⟨.bl (!c), H, I, ?_, k W H _ (Step.refl _ _) R (.bl _)⟩
    rw [l1, l2, hl, beq_self_eq_true, Bool.true_and]; rfl
  · rw [if_neg hl] at e3
    cases e3
    refine PySem.W.keq_ne (knd := mixKind X.prog X.w) (r := true) ya yb da db (by omega) (fun z => absurd (l1.symm.trans (z.trans l2)) hl) ⟨.bl true, H, I, ?_, k W H _ (Step.refl _ _) R (.bl _)⟩
    rw [l1, l2, beq_eq_false_iff_ne.mpr hl, Bool.false_and]; rfl
end
/-! list + list, the new one to be changed -/
def catA (ah : AH) (x y : AV) : Option (List AV) := (asL ah x).bind fun xs => (asL ah y).bind fun ys => if xs.length + ys.length ≤ sizeLine then some (xs ++ ys) else none
def catMF (a b : Rho → AH → Ot AV) : Rho → AH → Ot AV := fun ρ ah => (a ρ ah).bind fun x ah1 => (b ρ ah1).bind fun y ah2 => match catA ah2 x y with | some xs => .ok (.ref ah2.length) (ah2 ++ [.lst xs]) | none => .st
section
variable {nm : Nm} {X : Cx} {Wx : WX} {e g : Expr} {fa fb : Rho → AH → Ot AV} {pos : Pos}
theorem ev_catM (ha : EV nm X Wx e fa) (hb : EV nm X Wx g fb) : EV nm X Wx (.BinOp e .Add g pos) (catMF fa fb) := by
  refine PE.weak (pe_op op_catL ha hb) fun σ H Q ⟨W, ρ, ah, rh, rs, p⟩ => ?_
  refine TrE.seqB rh rs p fun x ah1 W1 H1 w1 s1 R1 S1 v1 p1 => TrE.seqB R1 S1 p1 fun y ah2 W2 H2 w2 s2 R2 S2 v2 p2 => ?_
  split at p2
  · rename_i ys e1
    unfold catA at e1
    simp only [Option.bind_eq_some_iff] at e1
    obtain ⟨xs, q1, zs, q2, e1⟩ := e1
    split at e1
    · rename_i h
      cases e1
      obtain ⟨p1, u1, rfl, h1, r1⟩ := asL_of R2 (v1.step s2) q1
      obtain ⟨p2', u2, rfl, h2, r2⟩ := asL_of R2 v2 q2
      refine ⟨p1, p2', u1, u2, rfl, rfl, h1, h2, by rw [r1.length, r2.length]; exact h, fun l hl => ?_⟩
      have st := Step.more (o := .lst (u1 ++ u2)) R2 hl
      refine p2 (W2.more l) _ st (R2.more hl ⟨_, upd_same, (r1.append r2).step st⟩) _ (.ref ?_)
      show (W2.io ++ [l])[ah2.length]? = some l
      rw [← R2.len]; simp
    · cases e1
  · exact False.elim p2
end
end Ko

/-! Ko, part N: the tree T, what it means, when it is the text's. -/
namespace Ko
open PySem L2

inductive T where
  | nil | cons (a b : T)
  | var (i : Nat) | cI (n : Int) | cS (z : Str) | cB (b : Bool) | cN | gl (x : Str) (v : AV)
  | tup (es : T) | lst (es : T) | lstM (es : T)
  | bin (op : Operator) (a b : T) | neg (a : T)
  | cmp (op : CmpOp) (a b : T) | cmp2 (o1 o2 : CmpOp) (a b c : T)
  | and (a b : T) | or (a b : T) | not (a : T) | ife (c a b : T)
  | sub (a i : T) | slc (a lo hi : T)
  | call (f : Str) (es : T) | callK (f : Str) (es : T) (np : Nat) (ks : List Str) (perm : List Nat) (kes : T)
  | bi (b : BI) (es : T) | isi (ts : List Ty) (a : T) | mi (m : MI) (o es : T)
  | comp (own : List (Str × Nat)) (t : TP) (it c e : T)
  | rng1 (a : T) | rng2 (a b : T) | enum (a : T)
  | eDead | sDead | app (o e : T) | lstC (a : T) | lrg (a : T) | dicC (a : T)
  | dic0 | sPar2 (i j : Nat) (es : T) | sPar3 (i j l : Nat) (es : T)
  | sAsg (t : TP) (e : T) | sComp (i : Nat) (own : List (Str × Nat)) (t : TP) (it c e : T) | sSub (o i e : T) | sAug (i : Nat) (op : Operator) (e : T)
  | sIf (c a b : T) | sFor (t : TP) (it body : T) | sWh (n : Nat) (c body : T) | sRet (e : T) | sRetN | sExp (e : T) | sPass | sBrk | sCnt
  | sRaise (c : Str) (fl : List Str) (es : T) | sTry (b : T) (hs : List Hd) | sPutD (o i e : T)
  | att (cs : List Str) (f : Str) (o : T) | mcall (cs : List (Str × Str)) (m : Str) (o es : T) | mcallK (cs : List (Str × Str)) (m : Str) (o es : T) (np : Nat) (ks : List Str) (perm : List Nat) (kes : T) | new (c f : Str) (es : T)
  | dsub (a i : T) | din (a b : T) | dni (a b : T) | dget (o k d : T) | dpop (o k : T) | dicN | deq (b : Bool) (x y : T) | catM (a b : T) | srt (a : T) | srtM (a : T) | rev (a : T)
  | sAtt (cs : List Str) (f : Str) (o e : T) | sAttA (cs : List Str) (f : Str) (op : Operator) (o e : T) | sDel (o i : T)

def T.isNil : T → Bool | .nil => true | _ => false
theorem T.isNil_eq {t : T} (h : t.isNil = true) : t = .nil := by cases t <;> first | rfl | exact absurd h Bool.false_ne_true
/-- what defs are called -/
structure Ops where
  call : Str → List AV → AH → Ot AV
  ar : Str → Nat
structure Den where
  e : Rho → AH → Ot AV := dead
  es : Rho → AH → Ot (List AV) := dead
  t : Rho → AH → Ot Bool := dead
  o : Rho → AH → Ot (Option Int) := dead
  s : Rho → AH → Ot Sr := dead
  x : Rho → AH → SR := deadS
def mkE (f : Rho → AH → Ot AV) : Den := { e := f, t := tF f, o := pSome f, s := srcF f }
def mkT (f : Rho → AH → Ot AV) (g : Rho → AH → Ot Bool) : Den := { e := f, t := g, o := pSome f, s := srcF f }
def mkX (f : Rho → AH → SR) : Den := { x := f }
def mkS (f : Rho → AH → Ot Sr) : Den := { s := f }
def den (C : Ops) : T → Den
  | .nil => { es := aNil, o := pNone, x := nilF, t := yesF }
  | .cons a b => { es := aCons (den C a).e (den C b).es, x := seqF (den C a).x (den C b).x }
  | .var i => mkE (vF i)
  | .cI n => mkE (cF (.int n))
  | .cS z => mkE (cF (.str z))
  | .cB b => mkE (cF (.bl b))
  | .cN => mkE (cF .non)
  | .gl _ v => mkE (cF v)
  | .tup es => mkE (tupF (den C es).es)
  | .lst es => mkE (lstF (den C es).es)
  | .lstM es => mkE (lstM (den C es).es)
  | .bin op a b => mkE (f2 (binF op) (den C a).e (den C b).e)
  | .neg a => mkE (f1 negF (den C a).e)
  | .cmp op a b => mkT (f2 (cmpF op) (den C a).e (den C b).e) (bF (f2 (cmpF op) (den C a).e (den C b).e))
  | .cmp2 o1 o2 a b c => mkT (fChain (cmpF o1) (cmpF o2) (den C a).e (den C b).e (den C c).e) (bF (fChain (cmpF o1) (cmpF o2) (den C a).e (den C b).e (den C c).e))
  | .and a b => mkT (andF (den C a).e (den C b).e) (tAndF (den C a).t (den C b).t)
  | .or a b => mkT (orF (den C a).e (den C b).e) (tOrF (den C a).t (den C b).t)
  | .not a => mkT (notF (den C a).e) (tNotF (den C a).t)
  | .ife c a b => mkE (ifF (den C c).t (den C a).e (den C b).e)
  | .sub a i => mkE (f2 ixF (den C a).e (den C i).e)
  | .slc a lo hi => mkE (slcF (den C a).e (den C lo).o (den C hi).o)
  | .call f es => mkE (callF (C.call f) (C.ar f) (den C es).es)
  | .callK f es np ks perm kes => mkE (callF (C.call f) (C.ar f) (kwF (den C es).es (den C kes).es np ks.length perm))
  | .bi b es => mkE (fA (biF b) (den C es).es)
  | .isi ts a => mkE (isiF ts (den C a).e)
  | .mi m o es => mkE (msF m (den C o).e (if m.nullary = true then aNil else (den C es).es))
  | .comp own t it c e => mkE (compF (den C it).s t (own.map (·.2)) (den C c).t (den C e).e)
  | .rng1 a => mkS (rngF1 (den C a).e)
  | .rng2 a b => mkS (rngF2 (den C a).e (den C b).e)
  | .enum a => mkS (enumF (den C a).e)
  | .eDead => mkT dead dead
  | .sDead => mkX deadS
  | .app o e => mkE (appF (den C o).e (den C e).e)
  | .lstC a => mkE (lstMF (den C a).e)
  | .lrg a => mkE (lrgF (den C a).e)
  | .dicC a => mkE (dicMF (den C a).e)
  | .dic0 => mkE dic0F
  | .sPar2 i j es => mkX (parF2 i j (den C es).es)
  | .sPar3 i j l es => mkX (parF3 i j l (den C es).es)
  | .sAsg t e => mkX (asgF t (den C e).e)
  | .sComp i own t it c e => mkX (asgF (.nm i) (compF (den C it).s t (own.map (·.2)) (den C c).t (den C e).e))
  | .sSub o i e => mkX (subF' (den C o).e (den C i).e (den C e).e)
  | .sAug i op e => mkX (augF i op (den C e).e)
  | .sIf c a b => mkX (ifS (den C c).t (den C a).x (den C b).x)
  | .sFor t it body => mkX (forF t (den C it).s (den C body).x)
  | .sWh n c body => mkX (whV (den C c).t (den C body).x n)
  | .sRet e => mkX (retF (den C e).e)
  | .sRetN => mkX retN
  | .sExp e => mkX (expF (den C e).e)
  | .sPass => mkX nilF
  | .sBrk => mkX brkF
  | .sCnt => mkX cntF
  | .sRaise c fl es => mkX (raiseF c fl (den C es).es)
  | .sTry b hs => mkX (tryF (den C b).x hs)
  | .sPutD o i e => mkX (putDF (den C o).e (den C i).e (den C e).e)
  | .att cs f o => mkE (f1 (attA cs f) (den C o).e)
  | .mcall cs m o es => mkE (mcallF cs C.call C.ar m (den C o).e (den C es).es)
  | .mcallK cs m o es np ks perm kes => mkE (mcallF cs C.call C.ar m (den C o).e (kwF (den C es).es (den C kes).es np ks.length perm))
  | .new c f es => mkE (newF c (C.call f) (C.ar f) (den C es).es)
  | .dsub a i => mkE (f2 dsubA (den C a).e (den C i).e)
  | .din a b => mkT (f2 dinA (den C a).e (den C b).e) (bF (f2 dinA (den C a).e (den C b).e))
  | .dni a b => mkT (f2 dniA (den C a).e (den C b).e) (bF (f2 dniA (den C a).e (den C b).e))
  | .dget o k d => mkE (dgetF (den C o).e (den C k).e (den C d).e)
  | .dpop o k => mkE (dpopF (den C o).e (den C k).e)
  | .dicN => mkE dicN
  | .catM a b => mkE (catMF (den C a).e (den C b).e)
  | .deq b x y => mkT (f2 (if b = true then deqA else dneA) (den C x).e (den C y).e) (bF (f2 (if b = true then deqA else dneA) (den C x).e (den C y).e))
  | .srt a => mkE (srtF (den C a).e)
  | .srtM a => mkE (srtMF (den C a).e)
  | .rev a => mkE (f1 revA (den C a).e)
  | .sAtt cs f o e => mkX (attS cs f (den C o).e (den C e).e)
  | .sAttA cs f op o e => mkX (attAugS cs f op (den C o).e (den C e).e)
  | .sDel o i => mkX (ddelS (den C o).e (den C i).e)

/-- what stands around: which defs there are and how they are called, the built-ins, the constants -/
structure Tb where
  fs : List Str
  kw : List (Str × Nat × List Str × List Nat)
  bs : List Str
  cs : List (Str × AV)
  xs : List (Str × List Str) := []
  xm : List (Str × Str × Bool) := []
  xc : List Str := []
  cl : List (Str × List Str) := []
  ms : List (Str × Str × Str) := []
  mkw : List (Str × Nat × List Str × List Nat) := []
  nw : List (Str × Str) := []
/-- the ways a def is called with keywords -/
def Tb.kwOf (tb : Tb) (f : Str) : List (Nat × List Str × List Nat) := (tb.mkw.filter fun e => e.1 == f).map (·.2)

structure Chk where
  e : Scope → Expr → Bool := fun _ _ => false
  es : Scope → List Expr → Bool := fun _ _ => false
  t : Scope → Expr → Bool := fun _ _ => false
  o : Scope → Option Expr → Bool := fun _ _ => false
  s : Scope → Expr → Expr → Bool := fun _ _ _ => false
  x : Scope → Stmt → Bool := fun _ _ => false
  xs : Scope → List Stmt → Bool := fun _ _ => false
  bo : Scope → BoolOp → List Expr → Bool := fun _ _ _ => false
  bt : Scope → BoolOp → List Expr → Bool := fun _ _ _ => false
  ks : Scope → List Keyword → Bool := fun _ _ => false
  ifs : Scope → List Expr → Bool := fun _ _ => false
def plainT : Expr → Bool | .UnaryOp .Not _ _ => false | .BoolOp .. => false | .IfExp .. => false | .Compare .. => false | _ => true
theorem plainT_of {e : Expr} (h : plainT e = true) (env : Env) (whole : Sem Value) : isTrue e env whole = (do let v ← whole; standAt e.pos; holding [v] (truthy v)) := by
  cases e with
  | UnaryOp op a pos => cases op <;> first | rfl | exact absurd h Bool.false_ne_true
  | _ => first | rfl | exact absurd h Bool.false_ne_true
def noSet : Expr → Bool | .Set .. => false | _ => true
theorem noSet_of {e : Expr} (h : noSet e = true) (env : Env) (x : Value) : foldedSetIterable e env x = pure x := by
  cases e <;> first | rfl | exact absurd h Bool.false_ne_true
def one (f : Scope → Expr → Bool) : Scope → List Expr → Bool := fun sc l => match l with | [x] => f sc x | _ => false
def ckT (f g : Scope → Expr → Bool) : Chk :=
  { e := f, t := g, o := fun sc o => match o with | some e => f sc e | none => false, s := fun sc _ e => noSet e && f sc e, bo := fun sc _ l => one f sc l, bt := fun sc _ l => one g sc l, ifs := one g }
def ckE (f : Scope → Expr → Bool) : Chk := ckT f fun sc e => plainT e && f sc e
def ckX (f : Scope → Stmt → Bool) : Chk := { x := f }
def ckS (f : Scope → Expr → Expr → Bool) : Chk := { s := f }
def okNm (N : List Str) (sc : Scope) (i : Nat) (x : Str) : Bool := decide (N[i]? = some x) && isVis sc x && !(x == ("__debug__" : Str)) && !(x == ("__classdict__" : Str))
mutual
def ckTP (N : List Str) (sc : Scope) : TP → Expr → Bool
  | .nm i, .Name x _ => decide (N[i]? = some x) && isLoc sc x
  | .tp l, .Tuple es _ _ => es.all notSt && ckTPs N sc l es
  | _, _ => false
def ckTPs (N : List Str) (sc : Scope) : List TP → List Expr → Bool
  | [], [] => true
  | t :: l, e :: es => notSt e && ckTP N sc t e && ckTPs N sc l es
  | _, _ => false
end
def ckComp (N : List Str) (sc : Scope) (own : List (Str × Nat)) (t : TP) (it c e : Chk) : Expr → Bool
  | .ListComp elt [⟨tg, iter, ifs, 0⟩] scope _ => blkC N sc scope own && t.slots.all (fun i => (own.map (·.2)).contains i) && noSet iter && it.s sc tg iter && ckTP N scope t tg && c.ifs scope ifs && e.e scope elt
  | _ => false
def okEr (N : List Str) (sc : Scope) (i : Option Nat) (n : Str) : Bool := match i with | some j => okNm N sc j n | none => false
def ckIt (tb : Tb) (N : List Str) (sc : Scope) (i : Option Nat) : SI → Expr → Bool
  | .str z, .Constant (.str y) _ _ => decide (y = z)
  | .non, .Constant .none _ _ => true
  | .bl b, .Constant (.bool c) _ _ => decide (c = b)
  | .int n, .Constant (.int m) _ _ => decide (m = n)
  | .fld f cs, .Attribute (.Name n _) g _ => decide (g = f) && okEr N sc i n && cs.all fun c => match tb.xs.lookup c with | some fl => fl.contains f | none => false
  | .isx c yes no, .Call (.Name q _) [.Name n _, .Name c' _] [] _ => decide (q = "isinstance") && decide (c' = c) && isGl sc q && isGl sc c && tb.bs.contains q && !(c == ("__debug__" : Str)) && okEr N sc i n && (yes ++ no).all (fun y => (tb.xs.lookup y).isSome) &&
    yes.all (fun y => tb.xm.contains (y, c, true)) && no.all (fun y => tb.xm.contains (y, c, false))
  | _, _ => false
def ckIts (tb : Tb) (N : List Str) (sc : Scope) (i : Option Nat) : List SI → List Expr → Bool
  | [], [] => true
  | it :: l, e :: es => notSt e && ckIt tb N sc i it e && ckIts tb N sc i l es
  | _, _ => false
def ckSf (tb : Tb) (N : List Str) (sc : Scope) (i : Option Nat) : SF → Expr → Bool
  | .retL _ l, .List es _ => ckIts tb N sc i l es
  | .ret1 it, e => ckIt tb N sc i it e
  | .eqV f cs j, .Compare l [.Eq] [.Name y _] _ => ckIt tb N sc i (.fld f cs) l && okNm N sc j y && decide (i ≠ some j)
  | _, _ => false
def ckCn (N : List Str) (sc : Scope) : Option Str → Option Nat → Bool
  | none, none => true
  | some n, some i => decide (N[i]? = some n) && isLo sc n
  | _, _ => false
def ckHds (tb : Tb) (N : List Str) (sc : Scope) : List Hd → List ExceptHandler → Bool
  | [], [] => true
  | h :: hs, .ExceptHandler (some (.Name x _)) o [.Return (some e) _] _ :: r => decide (x = h.c) && isGl sc x && !(x == ("__debug__" : Str)) && tb.xc.contains x && ckCn N sc o h.i && h.yes.all (fun y => tb.xm.contains (y, h.c, true)) && h.no.all (fun y => tb.xm.contains (y, h.c, false)) &&
    ckSf tb N sc h.i h.s e && ckHds tb N sc hs r
  | _, _ => false
def chk (tb : Tb) (N : List Str) : T → Chk
  | .nil => { es := fun _ l => l.isEmpty, o := fun _ o => o.isNone, xs := fun _ l => l.isEmpty, ks := fun _ l => l.isEmpty, ifs := fun _ l => l.isEmpty }
  | .cons a b => { es := fun sc l => match l with | e :: es => notSt e && (chk tb N a).e sc e && (chk tb N b).es sc es | [] => false,
                   xs := fun sc l => match l with | s :: ss => (chk tb N a).x sc s && (chk tb N b).xs sc ss | [] => false,
                   ks := fun sc l => match l with | ⟨_, e, _⟩ :: r => (chk tb N a).e sc e && (chk tb N b).ks sc r | [] => false }
  | .var i => ckE fun sc e => match e with | .Name x _ => okNm N sc i x | _ => false
  | .cI n => ckE fun _ e => match e with | .Constant (.int m) _ _ => decide (m = n) | _ => false
  | .cS z => ckE fun _ e => match e with | .Constant (.str y) _ _ => decide (y = z) | _ => false
  | .cB b => ckE fun _ e => match e with | .Constant (.bool c) _ _ => decide (c = b) | _ => false
  | .cN => ckE fun _ e => match e with | .Constant .none _ _ => true | _ => false
  | .gl x v => ckE fun sc e => match e with | .Name y _ => decide (y = x) && isGl sc x && !(x == ("__debug__" : Str)) && (match tb.cs.lookup x with | some u => u.bq v | none => false) | _ => false
  | .tup es => ckE fun sc e => match e with | .Tuple l _ _ => (chk tb N es).es sc l | _ => false
  | .lst es => ckE fun sc e => match e with | .List l _ => (chk tb N es).es sc l | _ => false
  | .lstM es => ckE fun sc e => match e with | .List l _ => (chk tb N es).es sc l | _ => false
  | .bin op a b => ckE fun sc e => match e with | .BinOp x o y _ => decide (o = op) && (chk tb N a).e sc x && (chk tb N b).e sc y | _ => false
  | .neg a => ckE fun sc e => match e with | .UnaryOp .USub x _ => (chk tb N a).e sc x | _ => false
  | .cmp op a b => let f := fun sc (e : Expr) => match e with | .Compare x [o] [y] _ => decide (o = op) && noSet y && (chk tb N a).e sc x && (chk tb N b).e sc y | _ => false
    ckT f f
  | .cmp2 o1 o2 a b c => let f := fun sc (e : Expr) => match e with | .Compare x [p1, p2] [y, z] _ => decide (p1 = o1) && decide (p2 = o2) && noSet z && (chk tb N a).e sc x && (chk tb N b).e sc y && (chk tb N c).e sc z | _ => false
    ckT f f
  | .and a b => { ckT (fun sc e => match e with | .BoolOp .And (x :: y :: r) _ => (chk tb N a).e sc x && (chk tb N b).bo sc .And (y :: r) | _ => false) (fun sc e => match e with | .BoolOp .And (x :: y :: r) _ => (chk tb N a).t sc x && (chk tb N b).bt sc .And (y :: r) | _ => false) with
      bo := fun sc op l => match op, l with | .And, x :: y :: r => (chk tb N a).e sc x && (chk tb N b).bo sc .And (y :: r) | _, [.BoolOp .And (x :: y :: r) _] => (chk tb N a).e sc x && (chk tb N b).bo sc .And (y :: r) | _, _ => false,
      bt := fun sc op l => match op, l with | .And, x :: y :: r => (chk tb N a).t sc x && (chk tb N b).bt sc .And (y :: r) | _, [.BoolOp .And (x :: y :: r) _] => (chk tb N a).t sc x && (chk tb N b).bt sc .And (y :: r) | _, _ => false }
  | .or a b => { ckT (fun sc e => match e with | .BoolOp .Or (x :: y :: r) _ => (chk tb N a).e sc x && (chk tb N b).bo sc .Or (y :: r) | _ => false) (fun sc e => match e with | .BoolOp .Or (x :: y :: r) _ => (chk tb N a).t sc x && (chk tb N b).bt sc .Or (y :: r) | _ => false) with
      bo := fun sc op l => match op, l with | .Or, x :: y :: r => (chk tb N a).e sc x && (chk tb N b).bo sc .Or (y :: r) | _, [.BoolOp .Or (x :: y :: r) _] => (chk tb N a).e sc x && (chk tb N b).bo sc .Or (y :: r) | _, _ => false,
      bt := fun sc op l => match op, l with | .Or, x :: y :: r => (chk tb N a).t sc x && (chk tb N b).bt sc .Or (y :: r) | _, [.BoolOp .Or (x :: y :: r) _] => (chk tb N a).t sc x && (chk tb N b).bt sc .Or (y :: r) | _, _ => false }
  | .not a => ckT (fun sc e => match e with | .UnaryOp .Not x _ => (chk tb N a).e sc x | _ => false) (fun sc e => match e with | .UnaryOp .Not x _ => (chk tb N a).t sc x | _ => false)
  | .ife c a b => ckE fun sc e => match e with | .IfExp t x y _ => (chk tb N c).t sc t && (chk tb N a).e sc x && (chk tb N b).e sc y | _ => false
  | .sub a i => ckE fun sc e => match e with | .Subscript x y _ => noSlice y && (chk tb N a).e sc x && (chk tb N i).e sc y | _ => false
  | .slc a lo hi => ckE fun sc e => match e with | .Subscript x (.Slice l h none _) _ => (chk tb N a).e sc x && (chk tb N lo).o sc l && (chk tb N hi).o sc h | _ => false
  | .call f es => ckE fun sc e => match e with | .Call (.Name x _) l [] _ => decide (x = f) && isGl sc x && tb.fs.contains x && !(x == ("__debug__" : Str)) && l.all notSt && (!l.isEmpty || es.isNil) && (chk tb N es).es sc l | _ => false
  | .callK f es np ks perm kes => ckE fun sc e => match e with | .Call (.Name x _) l kws _ => decide (x = f) && isGl sc x && tb.fs.contains x && !(x == ("__debug__" : Str)) && l.all notSt && tb.kw.contains (f, np, ks, perm) && decide (kwNames kws = some ks) && (!l.isEmpty || es.isNil) && (chk tb N es).es sc l && (chk tb N kes).ks sc kws | _ => false
  | .bi b es => ckE fun sc e => match e with | .Call (.Name x _) (e :: l) [] _ => decide (x = b.name) && isGl sc x && tb.bs.contains x && (e :: l).all notSt && (chk tb N es).es sc (e :: l) | _ => false
  | .isi ts a => ckE fun sc e => match e with
    | .Call (.Name x _) [y, .Name t _] [] _ => (match ts with | [u] => decide (x = "isinstance") && decide (t = u.name) && isGl sc x && isGl sc t && tb.bs.contains x && tb.bs.contains t && notSt y && (chk tb N a).e sc y | _ => false)
    | .Call (.Name x _) [y, .Tuple [.Name t _, .Name t' _] _ _] [] _ => (match ts with | [u, u'] => decide (x = "isinstance") && decide (t = u.name) && decide (t' = u'.name) && isGl sc x && isGl sc t && isGl sc t' && tb.bs.contains x && tb.bs.contains t && tb.bs.contains t' && notSt y && (chk tb N a).e sc y | _ => false)
    | _ => false
  | .mi m o es => ckE fun sc e => match e with
    | .Call (.Attribute x n ap) l [] cp => decide (n = m.name) && plainBase x && (ap.endLine == cp.line) && l.all notSt && decide (l.length < 30) && (m.nullary == l.isEmpty) && (chk tb N o).e sc x && (chk tb N es).es sc l
    | _ => false
  | .comp own t it c e => ckE fun sc x => ckComp N sc own t (chk tb N it) (chk tb N c) (chk tb N e) x
  | .rng1 a => ckS fun sc _ e => match e with | .Call (.Name x _) [y] [] _ => decide (x = "range") && isGl sc x && tb.bs.contains x && notSt y && (chk tb N a).e sc y | _ => false
  | .rng2 a b => ckS fun sc _ e => match e with | .Call (.Name x _) [y, z] [] _ => decide (x = "range") && isGl sc x && tb.bs.contains x && notSt y && notSt z && (chk tb N a).e sc y && (chk tb N b).e sc z | _ => false
  | .enum a => ckS fun sc tg e => match tg, e with | .Tuple _ _ _, .Call (.Name x _) [y] [] _ => decide (x = "enumerate") && isGl sc x && tb.bs.contains x && notSt y && (chk tb N a).e sc y | _, _ => false
  | .eDead => ckT (fun _ _ => true) (fun _ _ => true)
  | .sDead => ckX fun _ _ => true
  | .app o a => ckE fun sc e => match e with | .Call (.Attribute x n ap) [y] [] cp => decide (n = "append") && plainBase x && (ap.endLine == cp.line) && notSt y && (chk tb N o).e sc x && (chk tb N a).e sc y | _ => false
  | .lstC a => ckE fun sc e => match e with | .Call (.Name x _) [y] [] _ => decide (x = "list") && isGl sc x && tb.bs.contains x && notSt y && (chk tb N a).e sc y | _ => false
  | .lrg a => ckE fun sc e => match e with | .Call (.Name x _) [.Call (.Name z _) [y] [] _] [] _ => decide (x = "list") && decide (z = "range") && isGl sc x && isGl sc z && tb.bs.contains x && tb.bs.contains z && notSt y && (chk tb N a).e sc y | _ => false
  | .dicC a => ckE fun sc e => match e with | .Call (.Name x _) [y] [] _ => decide (x = "dict") && isGl sc x && tb.bs.contains x && notSt y && (chk tb N a).e sc y | _ => false
  | .dic0 => ckE fun _ e => match e with | .Dict [] [] _ => true | _ => false
  | .sPar2 i j es => ckX fun sc s => match s with
    | .Assign [.Tuple [.Name x p1, .Name y p2] _ _] (.Tuple [a, b] _ _) _ => decide (N[i]? = some x) && decide (N[j]? = some y) && decide (i ≠ j) && isLo sc x && isLo sc y && isSwap sc [.Name x p1, .Name y p2] [a, b] [x, y] && (chk tb N es).es sc [a, b]
    | _ => false
  | .sPar3 i j l es => ckX fun sc s => match s with
    | .Assign [.Tuple [.Name x p1, .Name y p2, .Name z p3] _ _] (.Tuple [a, b, c] _ _) _ => decide (N[i]? = some x) && decide (N[j]? = some y) && decide (N[l]? = some z) && decide (i ≠ j) && decide (i ≠ l) && decide (j ≠ l) && isLo sc x && isLo sc y && isLo sc z && isSwap sc [.Name x p1, .Name y p2, .Name z p3] [a, b, c] [x, y, z] && (chk tb N es).es sc [a, b, c]
    | _ => false
  | .sAsg t e => ckX fun sc s => match s with | .Assign [tg] v _ => notLC v && notSt tg && noSwap sc tg v && ckTP N sc t tg && (chk tb N e).e sc v | _ => false
  | .sComp i own t it c e => ckX fun sc s => match s with
    | .Assign [.Name y py] (.ListComp elt gs scope pos) _ => decide (N[i]? = some y) && isLo sc y && (py.line == pos.line) && !(scope.names.any fun (n, k) => n == y && (k == .local || k == .cell)) && ckComp N sc own t (chk tb N it) (chk tb N c) (chk tb N e) (.ListComp elt gs scope pos)
    | _ => false
  | .sSub o i e => ckX fun sc s => match s with | .Assign [.Subscript x y _] v _ => notLC v && noSlice y && (chk tb N o).e sc x && (chk tb N i).e sc y && (chk tb N e).e sc v | _ => false
  | .sPutD o i e => ckX fun sc s => match s with | .Assign [.Subscript x y _] v _ => notLC v && noSlice y && (chk tb N o).e sc x && (chk tb N i).e sc y && (chk tb N e).e sc v | _ => false
  | .sAug i op e => ckX fun sc s => match s with | .AugAssign (.Name x _) o v _ => decide (o = op) && decide (N[i]? = some x) && isLoc sc x && (chk tb N e).e sc v | _ => false
  | .sIf c a b => ckX fun sc s => match s with | .If t x y _ => (chk tb N c).t sc t && (chk tb N a).xs sc x && (chk tb N b).xs sc y | _ => false
  | .sFor t it body => ckX fun sc s => match s with | .For tg iter b [] _ => noSet iter && ckTP N sc t tg && (chk tb N it).s sc tg iter && (chk tb N body).xs sc b | _ => false
  | .sWh _ c body => ckX fun sc s => match s with | .While t b [] _ => (chk tb N c).t sc t && (chk tb N body).xs sc b | _ => false
  | .sRet e => ckX fun sc s => match s with | .Return (some v) _ => (chk tb N e).e sc v | _ => false
  | .sRetN => ckX fun _ s => match s with | .Return none _ => true | _ => false
  | .sExp e => ckX fun sc s => match s with | .Expr v _ => notLC v && (chk tb N e).e sc v | _ => false
  | .sPass => ckX fun _ s => match s with | .Pass _ => true | _ => false
  | .sBrk => ckX fun _ s => match s with | .Break _ => true | _ => false
  | .sCnt => ckX fun _ s => match s with | .Continue _ => true | _ => false
  | .sRaise c fl es => ckX fun sc s => match s with | .Raise (some (.Call (.Name x _) (e :: l) [] _)) none _ => decide (x = c) && isGl sc x && !(x == ("__debug__" : Str)) && (e :: l).all notSt && decide (tb.xs.lookup c = some fl) && (chk tb N es).es sc (e :: l) | _ => false
  | .sTry b hs => ckX fun sc s => match s with | .Try body (h0 :: hds) [] [] _ => (chk tb N b).xs sc body && ckHds tb N sc hs (h0 :: hds) | _ => false
  | .att cs f o => ckE fun sc e => match e with | .Attribute x g _ => decide (g = f) && plainBase x && cs.all (fun c => match tb.cl.lookup c with | some fl => fl.contains f | none => false) && (chk tb N o).e sc x | _ => false
  | .mcall cs m o es => ckE fun sc e => match e with
    | .Call (.Attribute x n ap) l [] cp => decide (n = m) && plainBase x && (ap.endLine == cp.line) && l.all notSt && decide (l.length < 29) && cs.all (fun p => tb.ms.contains (p.1, m, p.2)) && (!l.isEmpty || es.isNil) && (chk tb N o).e sc x && (chk tb N es).es sc l
    | _ => false
  | .mcallK cs m o es np ks perm kes => ckE fun sc e => match e with
    | .Call (.Attribute x n ap) l kws cp => decide (n = m) && plainBase x && (ap.endLine == cp.line) && l.all notSt && decide (l.length + kws.length < 29) && cs.all (fun p => tb.ms.contains (p.1, m, p.2) && (tb.kwOf p.2).contains (np + 1, ks, perm)) && decide (kwNames kws = some ks) && (!l.isEmpty || es.isNil) && (chk tb N o).e sc x && (chk tb N es).es sc l && (chk tb N kes).ks sc kws
    | _ => false
  | .new c f es => ckE fun sc e => match e with | .Call (.Name x _) l [] _ => decide (x = c) && isGl sc x && tb.nw.contains (x, f) && !(x == ("__debug__" : Str)) && l.all notSt && (!l.isEmpty || es.isNil) && (chk tb N es).es sc l | _ => false
  | .dsub a i => ckE fun sc e => match e with | .Subscript x y _ => noSlice y && (chk tb N a).e sc x && (chk tb N i).e sc y | _ => false
  | .din a b => let f := fun sc (e : Expr) => match e with | .Compare x [.In] [y] _ => noSet y && (chk tb N a).e sc x && (chk tb N b).e sc y | _ => false
    ckT f f
  | .dni a b => let f := fun sc (e : Expr) => match e with | .Compare x [.NotIn] [y] _ => noSet y && (chk tb N a).e sc x && (chk tb N b).e sc y | _ => false
    ckT f f
  | .dget o k d => ckE fun sc e => match e with | .Call (.Attribute x n ap) [y, z] [] cp => decide (n = "get") && plainBase x && (ap.endLine == cp.line) && notSt y && notSt z && (chk tb N o).e sc x && (chk tb N k).e sc y && (chk tb N d).e sc z | _ => false
  | .dpop o k => ckE fun sc e => match e with | .Call (.Attribute x n ap) [y] [] cp => decide (n = "pop") && plainBase x && (ap.endLine == cp.line) && notSt y && (chk tb N o).e sc x && (chk tb N k).e sc y | _ => false
  | .deq b p r => let f := fun sc (e : Expr) => match e with | .Compare x [o] [y] _ => decide (o = if b = true then .Eq else .NotEq) && noSet y && (chk tb N p).e sc x && (chk tb N r).e sc y | _ => false
    ckT f f
  | .catM a b => ckE fun sc e => match e with | .BinOp x .Add y _ => (chk tb N a).e sc x && (chk tb N b).e sc y | _ => false
  | .dicN => ckE fun _ e => match e with | .Dict [] [] _ => true | _ => false
  | .srt a => ckE fun sc e => match e with | .Call (.Name x _) [y] [] _ => decide (x = "sorted") && isGl sc x && tb.bs.contains x && notSt y && (chk tb N a).e sc y | _ => false
  | .srtM a => ckE fun sc e => match e with | .Call (.Name x _) [y] [] _ => decide (x = "sorted") && isGl sc x && tb.bs.contains x && notSt y && (chk tb N a).e sc y | _ => false
  | .rev a => ckE fun sc e => match e with | .Subscript x (.Slice none none (some (.UnaryOp .USub (.Constant (.int 1) _ _) _)) _) _ => (chk tb N a).e sc x | _ => false
  | .sAtt cs f o e => ckX fun sc s => match s with | .Assign [.Attribute x g _] v _ => notLC v && decide (g = f) && cs.all (fun c => match tb.cl.lookup c with | some fl => fl.contains f | none => false) && (chk tb N o).e sc x && (chk tb N e).e sc v | _ => false
  | .sAttA cs f op o e => ckX fun sc s => match s with | .AugAssign (.Attribute x g _) p v _ => decide (p = op) && decide (g = f) && cs.all (fun c => match tb.cl.lookup c with | some fl => fl.contains f | none => false) && (chk tb N o).e sc x && (chk tb N e).e sc v | _ => false
  | .sDel o i => ckX fun sc s => match s with | .Delete [.Subscript x y _] _ => (chk tb N o).e sc x && (chk tb N i).e sc y | _ => false
end Ko

/-! Ko, part O: the tree is the text's: it does what it means. -/
namespace Ko
open PySem L2
def glV (K : PySem.W.Frag) (mg : Str → Option Value) (x : Str) (v : AV) : Prop := ∃ u, mg x = some u ∧ ∃ w, RelV w u ∧ ∀ W : Wd, W.RV K v w
/-- what stands around is so -/
structure TbOk (P : Program) (w : World) (K : PySem.W.Frag) (mg : Str → Option Value) (base : Heap) (nm : Nm) (k : Nat) (tb : Tb) (C : Ops) : Prop where
  fs : ∀ f, tb.fs.contains f = true → ∃ fa fd ps, mg f = some (.ref fa) ∧ PySem.W.keepIn K (.ref fa) = true ∧ Binds K fd ps [] ∧ ps.length = C.ar f ∧ FnG P w K mg base nm k fa fd ps (C.call f) ∧
    ∀ np ks perm, tb.kw.contains (f, np, ks, perm) = true → KwB K fd ps ks np perm
  bs : ∀ x, tb.bs.contains x = true → mg x = none
  cs : ∀ x v, tb.cs.lookup x = some v → glV K mg x v
  xs : ∀ c fl, tb.xs.lookup c = some fl → XMk P w K mg base nm c fl ∧ XRd K nm c fl
  xm : ∀ y c b, tb.xm.contains (y, c, b) = true → XIn K nm mg y c b
  xc : ∀ c, tb.xc.contains c = true → ∃ D, mg c = some (.ref D)
  cl : ∀ c fl, tb.cl.lookup c = some fl → ClsK K nm c fl
  ms : ∀ c m f, tb.ms.contains (c, m, f) = true → MetOk P w K mg base nm k c m (C.call f) (C.ar f) (tb.kwOf f)
  nw : ∀ c f, tb.nw.contains (c, f) = true → MkOk P w K mg base nm k c (C.call f) (C.ar f)
/-- a def's own frame -/
structure Sco (X : Cx) (sc : Scope) : Prop where
  sc : X.env.scope = sc
  stk : X.stack = X.env :: X.outer
  fr : X.env.frame = some X.env.locals
section
variable {nm : Nm} {k : Nat} {tb : Tb} {C : Ops}
abbrev At (nm : Nm) (k : Nat) (tb : Tb) (C : Ops) (X : Cx) : Prop := TbOk X.prog X.w X.K X.mg X.base nm k tb C
/-- the tree does what it means -/
structure Ok (nm : Nm) (k : Nat) (tb : Tb) (C : Ops) (r : T) : Prop where
  e : ∀ (X : Cx) (sc : Scope) (Wx : WX), At nm k tb C X → Ctx (k + 1) sc X Wx → ∀ e : Expr, (chk tb X.N r).e sc e = true → EV nm X Wx e (den C r).e
  es : ∀ (X : Cx) (sc : Scope) (Wx : WX), At nm k tb C X → Ctx (k + 1) sc X Wx → ∀ e : List Expr, (chk tb X.N r).es sc e = true → EA nm X Wx e (den C r).es
  t : ∀ (X : Cx) (sc : Scope) (Wx : WX), At nm k tb C X → Ctx (k + 1) sc X Wx → ∀ e : Expr, (chk tb X.N r).t sc e = true → ET nm X Wx e (den C r).t
  o : ∀ (X : Cx) (sc : Scope) (Wx : WX), At nm k tb C X → Ctx (k + 1) sc X Wx → ∀ e : Option Expr, (chk tb X.N r).o sc e = true → EO nm X Wx e (den C r).o
  s : ∀ (X : Cx) (sc : Scope) (Wx : WX), At nm k tb C X → Ctx (k + 1) sc X Wx → ∀ tg e : Expr, (chk tb X.N r).s sc tg e = true → EI nm X Wx tg e (den C r).s
  x : ∀ (X : Cx) (sc : Scope) (Wx : WX), At nm k tb C X → Ctx (k + 1) sc X Wx → Sco X sc → ∀ e : Stmt, (chk tb X.N r).x sc e = true → ES nm X Wx e (den C r).x
  xs : ∀ (X : Cx) (sc : Scope) (Wx : WX), At nm k tb C X → Ctx (k + 1) sc X Wx → Sco X sc → ∀ e : List Stmt, (chk tb X.N r).xs sc e = true → ESs nm X Wx e (den C r).x
  bo : ∀ (X : Cx) (sc : Scope) (Wx : WX), At nm k tb C X → Ctx (k + 1) sc X Wx → ∀ (op : BoolOp) (l : List Expr) (pos : Pos), (chk tb X.N r).bo sc op l = true → EV nm X Wx (.BoolOp op l pos) (den C r).e
  bt : ∀ (X : Cx) (sc : Scope) (Wx : WX), At nm k tb C X → Ctx (k + 1) sc X Wx → ∀ (op : BoolOp) (l : List Expr) (pos : Pos), (chk tb X.N r).bt sc op l = true → EW nm X Wx (.BoolOp op l pos) (den C r).t
  ks : ∀ (X : Cx) (sc : Scope) (Wx : WX), At nm k tb C X → Ctx (k + 1) sc X Wx → ∀ e : List Keyword, (chk tb X.N r).ks sc e = true → EK nm X Wx e (den C r).es
  ifs : ∀ (X : Cx) (sc : Scope) (Wx : WX), At nm k tb C X → Ctx (k + 1) sc X Wx → ∀ e : List Expr, (chk tb X.N r).ifs sc e = true → PTs X e (TrT nm X.K Wx (den C r).t)
theorem one_of {f : Scope → Expr → Bool} {sc : Scope} {l : List Expr} (h : one f sc l = true) : ∃ x, l = [x] ∧ f sc x = true := by
  unfold one at h
  split at h
  · exact ⟨_, rfl, h⟩
  · cases h
theorem okT {t : T} {F : Rho → AH → Ot AV} {G : Rho → AH → Ot Bool} {f g : List Str → Scope → Expr → Bool} (hc : ∀ N, chk tb N t = ckT (f N) (g N)) (hd : den C t = mkT F G)
    (he : ∀ (X : Cx) (sc : Scope) (Wx : WX), At nm k tb C X → Ctx (k + 1) sc X Wx → ∀ e : Expr, f X.N sc e = true → EV nm X Wx e F)
    (ht : ∀ (X : Cx) (sc : Scope) (Wx : WX), At nm k tb C X → Ctx (k + 1) sc X Wx → ∀ e : Expr, g X.N sc e = true → ET nm X Wx e G) : Ok nm k tb C t where
  e := fun X sc Wx D c e h => by rw [hc] at h; rw [hd]; exact he X sc Wx D c e h
  es := fun X sc Wx D c e h => by rw [hc] at h; cases h
  t := fun X sc Wx D c e h => by rw [hc] at h; rw [hd]; exact ht X sc Wx D c e h
  o := fun X sc Wx D c e h => by
    rw [hc] at h; rw [hd]
    cases e with
    | none => cases h
    | some e => exact eo_some (he X sc Wx D c e h)
  s := fun X sc Wx D c tg e h => by
    rw [hc] at h; rw [hd]
    have h : (noSet e && f X.N sc e) = true := h
    rw [Bool.and_eq_true] at h
    exact ei_seq (he X sc Wx D c e h.2)
  x := fun X sc Wx D c i e h => by rw [hc] at h; cases h
  xs := fun X sc Wx D c i e h => by rw [hc] at h; cases h
  bo := fun X sc Wx D c op l pos h => by
    rw [hc] at h; rw [hd]
    obtain ⟨x, rfl, h⟩ := one_of h
    exact ev_one (he X sc Wx D c x h)
  bt := fun X sc Wx D c op l pos h => by
    rw [hc] at h; rw [hd]
    obtain ⟨x, rfl, h⟩ := one_of h
    exact ew_one (ht X sc Wx D c x h)
  ks := fun X sc Wx D c e h => by rw [hc] at h; cases h
  ifs := fun X sc Wx D c l h => by
    rw [hc] at h; rw [hd]
    obtain ⟨x, rfl, h⟩ := one_of h
    exact pts_one (ht X sc Wx D c x h)
theorem okE {t : T} {F : Rho → AH → Ot AV} {f : List Str → Scope → Expr → Bool} (hc : ∀ N, chk tb N t = ckE (f N)) (hd : den C t = mkE F)
    (he : ∀ (X : Cx) (sc : Scope) (Wx : WX), At nm k tb C X → Ctx (k + 1) sc X Wx → ∀ e : Expr, f X.N sc e = true → EV nm X Wx e F) : Ok nm k tb C t :=
  okT (F := F) (G := tF F) (f := f) (g := fun N sc e => plainT e && f N sc e) hc hd he fun X sc Wx D c e h => by
    have h : (plainT e && f X.N sc e) = true := h
    rw [Bool.and_eq_true] at h
    exact et_truth (he X sc Wx D c e h.2) fun whole => plainT_of h.1 X.env whole
theorem okX {t : T} {F : Rho → AH → SR} {f : List Str → Scope → Stmt → Bool} (hc : ∀ N, chk tb N t = ckX (f N)) (hd : den C t = mkX F)
    (hx : ∀ (X : Cx) (sc : Scope) (Wx : WX), At nm k tb C X → Ctx (k + 1) sc X Wx → Sco X sc → ∀ e : Stmt, f X.N sc e = true → ES nm X Wx e F) : Ok nm k tb C t where
  e := fun X sc Wx D c e h => by rw [hc] at h; cases h
  es := fun X sc Wx D c e h => by rw [hc] at h; cases h
  t := fun X sc Wx D c e h => by rw [hc] at h; cases h
  o := fun X sc Wx D c e h => by rw [hc] at h; cases h
  s := fun X sc Wx D c tg e h => by rw [hc] at h; cases h
  x := fun X sc Wx D c i e h => by rw [hc] at h; rw [hd]; exact hx X sc Wx D c i e h
  xs := fun X sc Wx D c i e h => by rw [hc] at h; cases h
  bo := fun X sc Wx D c op l pos h => by rw [hc] at h; cases h
  bt := fun X sc Wx D c op l pos h => by rw [hc] at h; cases h
  ks := fun X sc Wx D c e h => by rw [hc] at h; cases h
  ifs := fun X sc Wx D c e h => by rw [hc] at h; cases h
theorem okS {t : T} {F : Rho → AH → Ot Sr} {f : List Str → Scope → Expr → Expr → Bool} (hc : ∀ N, chk tb N t = ckS (f N)) (hd : den C t = mkS F)
    (hs : ∀ (X : Cx) (sc : Scope) (Wx : WX), At nm k tb C X → Ctx (k + 1) sc X Wx → ∀ tg e : Expr, f X.N sc tg e = true → EI nm X Wx tg e F) : Ok nm k tb C t where
  e := fun X sc Wx D c e h => by rw [hc] at h; cases h
  es := fun X sc Wx D c e h => by rw [hc] at h; cases h
  t := fun X sc Wx D c e h => by rw [hc] at h; cases h
  o := fun X sc Wx D c e h => by rw [hc] at h; cases h
  s := fun X sc Wx D c tg e h => by rw [hc] at h; rw [hd]; exact hs X sc Wx D c tg e h
  x := fun X sc Wx D c i e h => by rw [hc] at h; cases h
  xs := fun X sc Wx D c i e h => by rw [hc] at h; cases h
  bo := fun X sc Wx D c op l pos h => by rw [hc] at h; cases h
  bt := fun X sc Wx D c op l pos h => by rw [hc] at h; cases h
  ks := fun X sc Wx D c e h => by rw [hc] at h; cases h
  ifs := fun X sc Wx D c e h => by rw [hc] at h; cases h
theorem noSet_behind {op : CmpOp} {e : Expr} (h : noSet e = true) : behindInMarks op e = false := by
  cases e <;> first | rfl | exact absurd h Bool.false_ne_true
theorem eg_len {N : List Str} {sc : Scope} : ∀ (t : List TP) (e : List Expr), ckTPs N sc t e = true → e.length = t.length
  | [], [], _ => rfl
  | t :: l, e :: es, h => by
    unfold ckTPs at h
    simp only [Bool.and_eq_true] at h
    simp [eg_len l es h.2]
  | [], _ :: _, h => by unfold ckTPs at h; cases h
  | _ :: _, [], h => by unfold ckTPs at h; cases h
mutual
theorem eg_tp {X : Cx} {sc : Scope} {Wx : WX} (c : Ctx k sc X Wx) : ∀ (t : TP) (e : Expr), ckTP X.N sc t e = true → PG X e (TrG nm X.K t)
  | .nm i, e, h => by
    cases e with
    | Name x p =>
      simp only [ckTP, Bool.and_eq_true, decide_eq_true_eq] at h
      obtain ⟨h2, h3⟩ := c.loc _ h.2
      exact eg_name c.nd h.1 h2 h3
    | _ => simp [ckTP] at h
  | .tp l, e, h => by
    cases e with
    | Tuple es kk p =>
      simp only [ckTP, Bool.and_eq_true] at h
      exact eg_tup c.calm (eg_tps c l _ h.2) h.1 (eg_len l _ h.2)
    | _ => simp [ckTP] at h
theorem eg_tps {X : Cx} {sc : Scope} {Wx : WX} (c : Ctx k sc X Wx) : ∀ (t : List TP) (e : List Expr), ckTPs X.N sc t e = true → PGs X e (TrGs nm X.K t)
  | [], [], _ => egs_nil
  | t :: l, e :: es, h => by
    unfold ckTPs at h
    simp only [Bool.and_eq_true] at h
    exact egs_cons (eg_tp c t e h.1.2) (eg_tps c l es h.2) h.1.1
  | [], _ :: _, h => by unfold ckTPs at h; cases h
  | _ :: _, [], h => by unfold ckTPs at h; cases h
end
end
end Ko

/-! Ko, part P: the tree is the text's: it does what it means (all trees). -/
namespace Ko
open PySem L2
section
variable {nm : Nm} {k : Nat} {tb : Tb} {C : Ops}
theorem o_nil : Ok nm k tb C .nil where
  e := fun X sc Wx D c e h => by cases h
  es := fun X sc Wx D c e h => by
    cases e with
    | nil => exact ea_nil
    | cons => cases h
  t := fun X sc Wx D c e h => by cases h
  o := fun X sc Wx D c e h => by
    cases e with
    | none => exact eo_none
    | some => cases h
  s := fun X sc Wx D c tg e h => by cases h
  x := fun X sc Wx D c i e h => by cases h
  xs := fun X sc Wx D c i e h => by
    cases e with
    | nil => exact es_nil
    | cons => cases h
  bo := fun X sc Wx D c op l pos h => by cases h
  bt := fun X sc Wx D c op l pos h => by cases h
  ks := fun X sc Wx D c e h => by
    cases e with
    | nil => exact ek_nil
    | cons => cases h
  ifs := fun X sc Wx D c e h => by
    cases e with
    | nil => exact ⟨fun pins s σ H Q I h => pts_nil.run pins s σ H Q I (by
        obtain ⟨W, ρ, ah, rh, rs, p⟩ := h
        exact p W H (Step.refl _ _) rh)⟩
    | cons => cases h
theorem o_cons {a b : T} (ia : Ok nm k tb C a) (ib : Ok nm k tb C b) : Ok nm k tb C (.cons a b) where
  e := fun X sc Wx D c e h => by cases h
  es := fun X sc Wx D c e h => by
    cases e with
    | nil => cases h
    | cons e es =>
      have h : (notSt e && (chk tb X.N a).e sc e && (chk tb X.N b).es sc es) = true := h
      simp only [Bool.and_eq_true, decide_eq_true_eq, Bool.not_eq_true', okNm] at h
      exact ea_cons (ia.e X sc Wx D c e h.1.2) (ib.es X sc Wx D c es h.2) (star_cons h.1.1)
  t := fun X sc Wx D c e h => by cases h
  o := fun X sc Wx D c e h => by cases h
  s := fun X sc Wx D c tg e h => by cases h
  x := fun X sc Wx D c i e h => by cases h
  xs := fun X sc Wx D c i e h => by
    cases e with
    | nil => cases h
    | cons e es =>
      have h : ((chk tb X.N a).x sc e && (chk tb X.N b).xs sc es) = true := h
      simp only [Bool.and_eq_true, decide_eq_true_eq, Bool.not_eq_true', okNm] at h
      exact es_cons (ia.x X sc Wx D c i e h.1) (ib.xs X sc Wx D c i es h.2)
  bo := fun X sc Wx D c op l pos h => by cases h
  bt := fun X sc Wx D c op l pos h => by cases h
  ks := fun X sc Wx D c e h => by
    cases e with
    | nil => cases h
    | cons e es =>
      obtain ⟨n, e, p⟩ := e
      have h : ((chk tb X.N a).e sc e && (chk tb X.N b).ks sc es) = true := h
      simp only [Bool.and_eq_true, decide_eq_true_eq, Bool.not_eq_true', okNm] at h
      exact ek_cons (ia.e X sc Wx D c e h.1) (ib.ks X sc Wx D c es h.2)
  ifs := fun X sc Wx D c e h => by cases h
theorem o_var {i : Nat} : Ok nm k tb C (.var i) := okE (fun _ => rfl) rfl fun X sc Wx D c e h => by
  split at h
  · simp only [Bool.and_eq_true, decide_eq_true_eq, Bool.not_eq_true', okNm] at h; exact ev_var h.1.1.1 (c.vis _ h.1.1.2) h.1.2 h.2
  · cases h
theorem o_cI {n : Int} : Ok nm k tb C (.cI n) := okE (fun _ => rfl) rfl fun X sc Wx D c e h => by
  split at h
  · simp only [Bool.and_eq_true, decide_eq_true_eq, Bool.not_eq_true', okNm] at h; subst h; exact ev_int
  · cases h
theorem o_cS {n : Str} : Ok nm k tb C (.cS n) := okE (fun _ => rfl) rfl fun X sc Wx D c e h => by
  split at h
  · simp only [Bool.and_eq_true, decide_eq_true_eq, Bool.not_eq_true', okNm] at h; subst h; exact ev_str
  · cases h
theorem o_cB {n : Bool} : Ok nm k tb C (.cB n) := okE (fun _ => rfl) rfl fun X sc Wx D c e h => by
  split at h
  · simp only [Bool.and_eq_true, decide_eq_true_eq, Bool.not_eq_true', okNm] at h; subst h; exact ev_bl
  · cases h
theorem o_cN : Ok nm k tb C .cN := okE (fun _ => rfl) rfl fun X sc Wx D c e h => by
  split at h
  · exact ev_non
  · cases h
theorem o_dic0 : Ok nm k tb C .dic0 := okE (fun _ => rfl) rfl fun X sc Wx D c e h => by
  split at h
  · exact ev_dic0
  · cases h
theorem o_eDead : Ok nm k tb C .eDead := okT (f := fun _ _ _ => true) (g := fun _ _ _ => true) (fun _ => rfl) rfl (fun X sc Wx D c e h => ev_dead) fun X sc Wx D c e h => et_dead
theorem o_sDead : Ok nm k tb C .sDead := okX (f := fun _ _ _ => true) (fun _ => rfl) rfl fun X sc Wx D c hi e h => es_dead
theorem o_app {a b : T} (ia : Ok nm k tb C a) (ib : Ok nm k tb C b) : Ok nm k tb C (.app a b) := okE (fun _ => rfl) rfl fun X sc Wx D c e h => by
  split at h
  · simp only [Bool.and_eq_true, decide_eq_true_eq] at h
    obtain ⟨⟨⟨⟨⟨rfl, h1⟩, h2⟩, h3⟩, h4⟩, h5⟩ := h
    exact ev_app (ia.e X sc Wx D c _ h4) (ib.e X sc Wx D c _ h5) h1 h2 h3
  · cases h
theorem o_lstC {a : T} (ia : Ok nm k tb C a) : Ok nm k tb C (.lstC a) := okE (fun _ => rfl) rfl fun X sc Wx D c e h => by
  split at h
  · simp only [Bool.and_eq_true, decide_eq_true_eq] at h
    obtain ⟨⟨⟨⟨rfl, h2⟩, h3⟩, h4⟩, h5⟩ := h
    exact ev_lstMF (c.gl _ h2) (D.bs _ h3) (ia.e X sc Wx D c _ h5) h4
  · cases h
theorem o_dicC {a : T} (ia : Ok nm k tb C a) : Ok nm k tb C (.dicC a) := okE (fun _ => rfl) rfl fun X sc Wx D c e h => by
  split at h
  · simp only [Bool.and_eq_true, decide_eq_true_eq] at h
    obtain ⟨⟨⟨⟨rfl, h2⟩, h3⟩, h4⟩, h5⟩ := h
    exact ev_dicM c.calm (c.gl _ h2) (D.bs _ h3) (ia.e X sc Wx D c _ h5) h4
  · cases h
theorem o_lrg {a : T} (ia : Ok nm k tb C a) : Ok nm k tb C (.lrg a) := okE (fun _ => rfl) rfl fun X sc Wx D c e h => by
  split at h
  · simp only [Bool.and_eq_true, decide_eq_true_eq] at h
    obtain ⟨⟨⟨⟨⟨⟨⟨rfl, rfl⟩, h1⟩, h2⟩, h3⟩, h4⟩, h5⟩, h6⟩ := h
    exact ev_lrg c.calm (c.gl _ h1) (D.bs _ h3) (c.gl _ h2) (D.bs _ h4) (ia.e X sc Wx D c _ h6) h5
  · cases h
theorem o_gl {x : Str} {v : AV} : Ok nm k tb C (.gl x v) := okE (fun _ => rfl) rfl fun X sc Wx D c e h => by
  split at h
  · simp only [Bool.and_eq_true, decide_eq_true_eq, Bool.not_eq_true'] at h
    obtain ⟨⟨⟨rfl, h2⟩, h3⟩, h4⟩ := h
    split at h4
    · rename_i u' eu
      have := AV.bq_eq h4
      subst this
      obtain ⟨u, hu, w, hw, hr⟩ := D.cs _ _ eu
      exact ev_of (pe_glob (c.gl _ h2) hu hw h3) hr
    · cases h4
  · cases h
theorem o_tup {a : T} (ia : Ok nm k tb C a) : Ok nm k tb C (.tup a) := okE (fun _ => rfl) rfl fun X sc Wx D c e h => by
  split at h
  · exact ev_tup (ia.es X sc Wx D c _ h)
  · cases h
theorem o_lst {a : T} (ia : Ok nm k tb C a) : Ok nm k tb C (.lst a) := okE (fun _ => rfl) rfl fun X sc Wx D c e h => by
  split at h
  · exact ev_lst (ia.es X sc Wx D c _ h)
  · cases h
theorem o_lstM {a : T} (ia : Ok nm k tb C a) : Ok nm k tb C (.lstM a) := okE (fun _ => rfl) rfl fun X sc Wx D c e h => by
  split at h
  · exact ev_lstM (ia.es X sc Wx D c _ h)
  · cases h
theorem o_bin {op : Operator} {a b : T} (ia : Ok nm k tb C a) (ib : Ok nm k tb C b) : Ok nm k tb C (.bin op a b) := okE (fun _ => rfl) rfl fun X sc Wx D c e h => by
  split at h
  · simp only [Bool.and_eq_true, decide_eq_true_eq, Bool.not_eq_true', okNm] at h; obtain ⟨⟨rfl, h1⟩, h2⟩ := h
    exact ev_bin (op_binF _) (ia.e X sc Wx D c _ h1) (ib.e X sc Wx D c _ h2)
  · cases h
theorem o_neg {a : T} (ia : Ok nm k tb C a) : Ok nm k tb C (.neg a) := okE (fun _ => rfl) rfl fun X sc Wx D c e h => by
  split at h
  · exact ev_un un_negF (ia.e X sc Wx D c _ h)
  · cases h
theorem o_cmp {op : CmpOp} {a b : T} (ia : Ok nm k tb C a) (ib : Ok nm k tb C b) : Ok nm k tb C (.cmp op a b) := okT (fun _ => rfl) rfl (fun X sc Wx D c e h => by
  split at h
  · simp only [Bool.and_eq_true, decide_eq_true_eq, Bool.not_eq_true', okNm] at h; obtain ⟨⟨⟨rfl, h0⟩, h1⟩, h2⟩ := h
    exact ev_cmp (op_cmpF c.sm c.room.units _) (ia.e X sc Wx D c _ h1) (ib.e X sc Wx D c _ h2) (noSet_behind h0)
  · cases h) fun X sc Wx D c e h => by
  split at h
  · simp only [Bool.and_eq_true, decide_eq_true_eq, Bool.not_eq_true', okNm] at h; obtain ⟨⟨⟨rfl, h0⟩, h1⟩, h2⟩ := h
    exact et_cmp (op_cmpF c.sm c.room.units _) (ia.e X sc Wx D c _ h1) (ib.e X sc Wx D c _ h2) (noSet_behind h0)
  · cases h
theorem o_cmp2 {o1 o2 : CmpOp} {a b d : T} (ia : Ok nm k tb C a) (ib : Ok nm k tb C b) (id : Ok nm k tb C d) : Ok nm k tb C (.cmp2 o1 o2 a b d) := okT (fun _ => rfl) rfl (fun X sc Wx D c e h => by
  split at h
  · simp only [Bool.and_eq_true, decide_eq_true_eq, Bool.not_eq_true', okNm] at h; obtain ⟨⟨⟨⟨⟨rfl, rfl⟩, h0⟩, h1⟩, h2⟩, h3⟩ := h
    exact ev_chain (op_cmpF c.sm c.room.units _) (op_cmpF c.sm c.room.units _) (ia.e X sc Wx D c _ h1) (ib.e X sc Wx D c _ h2) (id.e X sc Wx D c _ h3) (noSet_behind h0)
  · cases h) fun X sc Wx D c e h => by
  split at h
  · simp only [Bool.and_eq_true, decide_eq_true_eq, Bool.not_eq_true', okNm] at h; obtain ⟨⟨⟨⟨⟨rfl, rfl⟩, h0⟩, h1⟩, h2⟩, h3⟩ := h
    exact et_chain (op_cmpF c.sm c.room.units _) (op_cmpF c.sm c.room.units _) (ia.e X sc Wx D c _ h1) (ib.e X sc Wx D c _ h2) (id.e X sc Wx D c _ h3) (noSet_behind h0)
  · cases h
theorem o_ife {a b d : T} (id : Ok nm k tb C d) (ia : Ok nm k tb C a) (ib : Ok nm k tb C b) : Ok nm k tb C (.ife d a b) := okE (fun _ => rfl) rfl fun X sc Wx D c e h => by
  split at h
  · simp only [Bool.and_eq_true, decide_eq_true_eq, Bool.not_eq_true', okNm] at h
    exact ev_if (id.t X sc Wx D c _ h.1.1) (ia.e X sc Wx D c _ h.1.2) (ib.e X sc Wx D c _ h.2)
  · cases h
theorem o_sub {a b : T} (ia : Ok nm k tb C a) (ib : Ok nm k tb C b) : Ok nm k tb C (.sub a b) := okE (fun _ => rfl) rfl fun X sc Wx D c e h => by
  split at h
  · simp only [Bool.and_eq_true, decide_eq_true_eq, Bool.not_eq_true', okNm] at h
    exact ev_sub (ia.e X sc Wx D c _ h.1.2) (ib.e X sc Wx D c _ h.2) h.1.1
  · cases h
theorem o_slc {a b d : T} (ia : Ok nm k tb C a) (ib : Ok nm k tb C b) (id : Ok nm k tb C d) : Ok nm k tb C (.slc a b d) := okE (fun _ => rfl) rfl fun X sc Wx D c e h => by
  split at h
  · simp only [Bool.and_eq_true, decide_eq_true_eq, Bool.not_eq_true', okNm] at h
    exact ev_slc (ia.e X sc Wx D c _ h.1.1) (ib.o X sc Wx D c _ h.1.2) (id.o X sc Wx D c _ h.2)
  · cases h
theorem o_bi {b : BI} {a : T} (ia : Ok nm k tb C a) : Ok nm k tb C (.bi b a) := okE (fun _ => rfl) rfl fun X sc Wx D c e h => by
  split at h
  · simp only [Bool.and_eq_true, decide_eq_true_eq, Bool.not_eq_true', okNm] at h
    obtain ⟨⟨⟨⟨rfl, h2⟩, h3⟩, h4⟩, h5⟩ := h
    rw [List.all_cons, Bool.and_eq_true] at h4
    exact ev_bi c.cal b (c.gl _ h2) (D.bs _ h3) (ia.es X sc Wx D c _ h5) (star_cons h4.1) (star_plain _ _ h4.2)
  · cases h
theorem o_isi {ts : List Ty} {a : T} (ia : Ok nm k tb C a) : Ok nm k tb C (.isi ts a) := okE (fun _ => rfl) rfl fun X sc Wx D c e h => by
  split at h
  · split at h
    · simp only [Bool.and_eq_true, decide_eq_true_eq, Bool.not_eq_true', okNm] at h
      obtain ⟨⟨⟨⟨⟨⟨⟨rfl, rfl⟩, h1⟩, h2⟩, h3⟩, h4⟩, h5⟩, h6⟩ := h
      exact ev_isi1 (c.gl _ h1) (D.bs _ h3) (c.gl _ h2) (D.bs _ h4) (ia.e X sc Wx D c _ h6) h5
    · cases h
  · split at h
    · simp only [Bool.and_eq_true, decide_eq_true_eq, Bool.not_eq_true', okNm] at h
      obtain ⟨⟨⟨⟨⟨⟨⟨⟨⟨⟨rfl, rfl⟩, rfl⟩, h1⟩, h2⟩, h2'⟩, h3⟩, h4⟩, h4'⟩, h5⟩, h6⟩ := h
      exact ev_isi2 (c.gl _ h1) (D.bs _ h3) (c.gl _ h2) (D.bs _ h4) (c.gl _ h2') (D.bs _ h4') (ia.e X sc Wx D c _ h6) h5
    · cases h
  · cases h
theorem o_mi {m : MI} {a b : T} (ia : Ok nm k tb C a) (ib : Ok nm k tb C b) : Ok nm k tb C (.mi m a b) := okE (fun _ => rfl) rfl fun X sc Wx D c e h => by
  split at h
  · rename_i x n ap l cp
    simp only [Bool.and_eq_true, decide_eq_true_eq] at h
    obtain ⟨⟨⟨⟨⟨⟨⟨rfl, h1⟩, h2⟩, h3⟩, h4⟩, h5⟩, h6⟩, h7⟩ := h
    have h5 := beq_iff_eq.mp h5
    cases l with
    | nil =>
      have h5 : m.nullary = true := h5
      rw [if_pos h5]
      exact ev_mi0 m (ia.e X sc Wx D c _ h6) h5 h1 h2
    | cons e es =>
      have h5 : m.nullary = false := h5
      rw [if_neg (by rw [h5]; exact Bool.false_ne_true)]
      exact ev_mi1 m (ia.e X sc Wx D c _ h6) (ib.es X sc Wx D c _ h7) h5 h1 h2 h3 h4
  · cases h
theorem o_and {a b : T} (ia : Ok nm k tb C a) (ib : Ok nm k tb C b) : Ok nm k tb C (.and a b) := by
  have he : ∀ (X : Cx) (sc : Scope) (Wx : WX), At nm k tb C X → Ctx (k + 1) sc X Wx → ∀ (x y : Expr) (r : List Expr) (pos : Pos), ((chk tb X.N a).e sc x && (chk tb X.N b).bo sc .And (y :: r)) = true → EV nm X Wx (.BoolOp .And (x :: y :: r) pos) (andF (den C a).e (den C b).e) := fun X sc Wx D c x y r pos h => by
    simp only [Bool.and_eq_true, decide_eq_true_eq, Bool.not_eq_true', okNm] at h
    exact ev_and (ia.e X sc Wx D c x h.1) (ib.bo X sc Wx D c .And (y :: r) pos h.2)
  have hw : ∀ (X : Cx) (sc : Scope) (Wx : WX), At nm k tb C X → Ctx (k + 1) sc X Wx → ∀ (x y : Expr) (r : List Expr) (pos : Pos), ((chk tb X.N a).t sc x && (chk tb X.N b).bt sc .And (y :: r)) = true → EW nm X Wx (.BoolOp .And (x :: y :: r) pos) (tAndF (den C a).t (den C b).t) := fun X sc Wx D c x y r pos h => by
    simp only [Bool.and_eq_true, decide_eq_true_eq, Bool.not_eq_true', okNm] at h
    exact ew_and (ia.t X sc Wx D c x h.1) (ib.bt X sc Wx D c .And (y :: r) pos h.2)
  have base : ∀ (X : Cx) (sc : Scope) (Wx : WX), At nm k tb C X → Ctx (k + 1) sc X Wx → ∀ e : Expr, (chk tb X.N (.and a b)).e sc e = true → EV nm X Wx e (den C (.and a b)).e := fun X sc Wx D c e h => by
    have h : (match (generalizing := false) e with | .BoolOp .And (x :: y :: r) _ => (chk tb X.N a).e sc x && (chk tb X.N b).bo sc .And (y :: r) | _ => false) = true := h
    split at h
    · exact he X sc Wx D c _ _ _ _ h
    · cases h
  have baseT : ∀ (X : Cx) (sc : Scope) (Wx : WX), At nm k tb C X → Ctx (k + 1) sc X Wx → ∀ e : Expr, (chk tb X.N (.and a b)).t sc e = true → ET nm X Wx e (den C (.and a b)).t := fun X sc Wx D c e h => by
    have h : (match (generalizing := false) e with | .BoolOp .And (x :: y :: r) _ => (chk tb X.N a).t sc x && (chk tb X.N b).bt sc .And (y :: r) | _ => false) = true := h
    split at h
    · exact (hw X sc Wx D c _ _ _ _ h).pt
    · cases h
  exact {
    e := base
    es := fun X sc Wx D c e h => by cases h
    t := baseT
    o := fun X sc Wx D c e h => by
      cases e with
      | none => cases h
      | some e => exact eo_some (base X sc Wx D c e h)
    s := fun X sc Wx D c tg e h => by
      have h : (noSet e && (chk tb X.N (.and a b)).e sc e) = true := h
      rw [Bool.and_eq_true] at h
      exact ei_seq (base X sc Wx D c e h.2)
    x := fun X sc Wx D c i e h => by cases h
    xs := fun X sc Wx D c i e h => by cases h
    bo := fun X sc Wx D c op l pos h => by
      have h : (match (generalizing := false) op, l with | .And, x :: y :: r => (chk tb X.N a).e sc x && (chk tb X.N b).bo sc .And (y :: r) | _, [.BoolOp .And (x :: y :: r) _] => (chk tb X.N a).e sc x && (chk tb X.N b).bo sc .And (y :: r) | _, _ => false) = true := h
      split at h
      · exact he X sc Wx D c _ _ _ _ h
      · exact ev_one (he X sc Wx D c _ _ _ _ h)
      · cases h
    bt := fun X sc Wx D c op l pos h => by
      have h : (match (generalizing := false) op, l with | .And, x :: y :: r => (chk tb X.N a).t sc x && (chk tb X.N b).bt sc .And (y :: r) | _, [.BoolOp .And (x :: y :: r) _] => (chk tb X.N a).t sc x && (chk tb X.N b).bt sc .And (y :: r) | _, _ => false) = true := h
      split at h
      · exact hw X sc Wx D c _ _ _ _ h
      · exact ew_one (hw X sc Wx D c _ _ _ _ h).pt
      · cases h
    ks := fun X sc Wx D c e h => by cases h
    ifs := fun X sc Wx D c l h => by
      have h : one (fun sc e => (chk tb X.N (.and a b)).t sc e) sc l = true := h
      obtain ⟨x, rfl, h⟩ := one_of h
      exact pts_one (baseT X sc Wx D c x h) }
theorem o_or {a b : T} (ia : Ok nm k tb C a) (ib : Ok nm k tb C b) : Ok nm k tb C (.or a b) := by
  have he : ∀ (X : Cx) (sc : Scope) (Wx : WX), At nm k tb C X → Ctx (k + 1) sc X Wx → ∀ (x y : Expr) (r : List Expr) (pos : Pos), ((chk tb X.N a).e sc x && (chk tb X.N b).bo sc .Or (y :: r)) = true → EV nm X Wx (.BoolOp .Or (x :: y :: r) pos) (orF (den C a).e (den C b).e) := fun X sc Wx D c x y r pos h => by
    simp only [Bool.and_eq_true, decide_eq_true_eq, Bool.not_eq_true', okNm] at h
    exact ev_or (ia.e X sc Wx D c x h.1) (ib.bo X sc Wx D c .Or (y :: r) pos h.2)
  have hw : ∀ (X : Cx) (sc : Scope) (Wx : WX), At nm k tb C X → Ctx (k + 1) sc X Wx → ∀ (x y : Expr) (r : List Expr) (pos : Pos), ((chk tb X.N a).t sc x && (chk tb X.N b).bt sc .Or (y :: r)) = true → EW nm X Wx (.BoolOp .Or (x :: y :: r) pos) (tOrF (den C a).t (den C b).t) := fun X sc Wx D c x y r pos h => by
    simp only [Bool.and_eq_true, decide_eq_true_eq, Bool.not_eq_true', okNm] at h
    exact ew_or (ia.t X sc Wx D c x h.1) (ib.bt X sc Wx D c .Or (y :: r) pos h.2)
  have base : ∀ (X : Cx) (sc : Scope) (Wx : WX), At nm k tb C X → Ctx (k + 1) sc X Wx → ∀ e : Expr, (chk tb X.N (.or a b)).e sc e = true → EV nm X Wx e (den C (.or a b)).e := fun X sc Wx D c e h => by
    have h : (match (generalizing := false) e with | .BoolOp .Or (x :: y :: r) _ => (chk tb X.N a).e sc x && (chk tb X.N b).bo sc .Or (y :: r) | _ => false) = true := h
    split at h
    · exact he X sc Wx D c _ _ _ _ h
    · cases h
  have baseT : ∀ (X : Cx) (sc : Scope) (Wx : WX), At nm k tb C X → Ctx (k + 1) sc X Wx → ∀ e : Expr, (chk tb X.N (.or a b)).t sc e = true → ET nm X Wx e (den C (.or a b)).t := fun X sc Wx D c e h => by
    have h : (match (generalizing := false) e with | .BoolOp .Or (x :: y :: r) _ => (chk tb X.N a).t sc x && (chk tb X.N b).bt sc .Or (y :: r) | _ => false) = true := h
    split at h
    · exact (hw X sc Wx D c _ _ _ _ h).pt
    · cases h
  exact {
    e := base
    es := fun X sc Wx D c e h => by cases h
    t := baseT
    o := fun X sc Wx D c e h => by
      cases e with
      | none => cases h
      | some e => exact eo_some (base X sc Wx D c e h)
    s := fun X sc Wx D c tg e h => by
      have h : (noSet e && (chk tb X.N (.or a b)).e sc e) = true := h
      rw [Bool.and_eq_true] at h
      exact ei_seq (base X sc Wx D c e h.2)
    x := fun X sc Wx D c i e h => by cases h
    xs := fun X sc Wx D c i e h => by cases h
    bo := fun X sc Wx D c op l pos h => by
      have h : (match (generalizing := false) op, l with | .Or, x :: y :: r => (chk tb X.N a).e sc x && (chk tb X.N b).bo sc .Or (y :: r) | _, [.BoolOp .Or (x :: y :: r) _] => (chk tb X.N a).e sc x && (chk tb X.N b).bo sc .Or (y :: r) | _, _ => false) = true := h
      split at h
      · exact he X sc Wx D c _ _ _ _ h
      · exact ev_one (he X sc Wx D c _ _ _ _ h)
      · cases h
    bt := fun X sc Wx D c op l pos h => by
      have h : (match (generalizing := false) op, l with | .Or, x :: y :: r => (chk tb X.N a).t sc x && (chk tb X.N b).bt sc .Or (y :: r) | _, [.BoolOp .Or (x :: y :: r) _] => (chk tb X.N a).t sc x && (chk tb X.N b).bt sc .Or (y :: r) | _, _ => false) = true := h
      split at h
      · exact hw X sc Wx D c _ _ _ _ h
      · exact ew_one (hw X sc Wx D c _ _ _ _ h).pt
      · cases h
    ks := fun X sc Wx D c e h => by cases h
    ifs := fun X sc Wx D c l h => by
      have h : one (fun sc e => (chk tb X.N (.or a b)).t sc e) sc l = true := h
      obtain ⟨x, rfl, h⟩ := one_of h
      exact pts_one (baseT X sc Wx D c x h) }
theorem o_not {a : T} (ia : Ok nm k tb C a) : Ok nm k tb C (.not a) := okT (fun _ => rfl) rfl (fun X sc Wx D c e h => by
  split at h
  · exact ev_not (ia.e X sc Wx D c _ h)
  · cases h) fun X sc Wx D c e h => by
  split at h
  · exact et_not (ia.t X sc Wx D c _ h)
  · cases h
theorem o_call {f : Str} {a : T} (ia : Ok nm k tb C a) : Ok nm k tb C (.call f a) := okE (fun _ => rfl) rfl fun X sc Wx D c e h => by
  split at h
  · rename_i x p l pos
    simp only [Bool.and_eq_true, decide_eq_true_eq, Bool.not_eq_true'] at h
    obtain ⟨⟨⟨⟨⟨⟨rfl, h1⟩, h2⟩, h3⟩, h4⟩, h6⟩, h5⟩ := h
    obtain ⟨fa, fd, ps, g1, g2, g3, g4, F, _⟩ := D.fs _ h2
    rw [← g4]
    cases l with
    | nil =>
      have h6 : a.isNil = true := h6
      cases T.isNil_eq h6
      exact ev_call0 (nm := nm) c F (c.gl _ h1) g1 g2 g3 h3
    | cons e es => exact ev_call c F (c.gl _ h1) g1 g2 g3 h3 (ia.es X sc Wx D c _ h5) h4
  · cases h
theorem o_callK {f : Str} {a d : T} {np : Nat} {ks : List Str} {perm : List Nat} (ia : Ok nm k tb C a) (id : Ok nm k tb C d) : Ok nm k tb C (.callK f a np ks perm d) := okE (fun _ => rfl) rfl fun X sc Wx D c e h => by
  split at h
  · rename_i x p l kws pos
    simp only [Bool.and_eq_true, decide_eq_true_eq, Bool.not_eq_true'] at h
    obtain ⟨⟨⟨⟨⟨⟨⟨⟨⟨rfl, h1⟩, h2⟩, h3⟩, h4⟩, h5⟩, h6⟩, h7⟩, h8⟩, h9⟩ := h
    obtain ⟨fa, fd, ps, g1, g2, g3, g4, F, g5⟩ := D.fs _ h2
    rw [← g4]
    refine ev_callK c F (c.gl _ h1) g1 g2 (g5 _ _ _ h5) h3 ?_ (id.ks X sc Wx D c _ h9) h6 h4
    cases l with
    | nil =>
      have h7 : a.isNil = true := h7
      cases T.isNil_eq h7
      exact .inl ⟨rfl, rfl⟩
    | cons e es => exact .inr ⟨List.cons_ne_nil _ _, ia.es X sc Wx D c _ h8⟩
  · cases h
theorem o_rng1 {a : T} (ia : Ok nm k tb C a) : Ok nm k tb C (.rng1 a) := okS (fun _ => rfl) rfl fun X sc Wx D c tg e h => by
  split at h
  · simp only [Bool.and_eq_true, decide_eq_true_eq, Bool.not_eq_true', okNm] at h
    obtain ⟨⟨⟨⟨rfl, h2⟩, h3⟩, h4⟩, h5⟩ := h
    exact ei_rng1 (c.gl _ h2) (D.bs _ h3) (ia.e X sc Wx D c _ h5) h4
  · cases h
theorem o_rng2 {a b : T} (ia : Ok nm k tb C a) (ib : Ok nm k tb C b) : Ok nm k tb C (.rng2 a b) := okS (fun _ => rfl) rfl fun X sc Wx D c tg e h => by
  split at h
  · simp only [Bool.and_eq_true, decide_eq_true_eq, Bool.not_eq_true', okNm] at h
    obtain ⟨⟨⟨⟨⟨⟨rfl, h2⟩, h3⟩, h4⟩, h4'⟩, h5⟩, h6⟩ := h
    exact ei_rng2 (c.gl _ h2) (D.bs _ h3) (ia.e X sc Wx D c _ h5) (ib.e X sc Wx D c _ h6) h4 h4'
  · cases h
theorem o_enum {a : T} (ia : Ok nm k tb C a) : Ok nm k tb C (.enum a) := okS (fun _ => rfl) rfl fun X sc Wx D c tg e h => by
  split at h
  · simp only [Bool.and_eq_true, decide_eq_true_eq, Bool.not_eq_true', okNm] at h
    obtain ⟨⟨⟨⟨rfl, h2⟩, h3⟩, h4⟩, h5⟩ := h
    exact ei_enum (c.gl _ h2) (D.bs _ h3) (ia.e X sc Wx D c _ h5) h4
  · cases h
theorem comp_parts {X : Cx} {sc : Scope} {Wx : WX} (D : At nm k tb C X) (c : Ctx (k + 1) sc X Wx) {own : List (Str × Nat)} {t : TP} {it cc el : T} (ii : Ok nm k tb C it) (ic : Ok nm k tb C cc) (ie : Ok nm k tb C el) {e : Expr}
    (h : ckComp X.N sc own t (chk tb X.N it) (chk tb X.N cc) (chk tb X.N el) e = true) : ∃ elt tg iter ifs scope pos, e = .ListComp elt [⟨tg, iter, ifs, 0⟩] scope pos ∧ BlkOk X.N X.env.scope scope own ∧ (∀ i ∈ t.slots, i ∈ own.map (·.2)) ∧ noSet iter = true ∧ EI nm X Wx tg iter (den C it).s ∧
      (∀ (s : Shared) (H : Hp) (C : Addr) (cl : List (Str × Addr)) (fp : List Addr), PG (X.blk s H scope (compEnvC scope cl C X.env) fp) tg (TrG nm X.K t)) ∧
      (∀ (s : Shared) (H : Hp) (A : Addr) (cl : List (Str × Addr)) (fp : List Addr), PTs (X.blk s H scope (compEnvC scope cl A X.env) fp) ifs (TrT nm X.K Wx0 (den C cc).t)) ∧
      (∀ (s : Shared) (H : Hp) (A : Addr) (cl : List (Str × Addr)) (fp : List Addr), PE (X.blk s H scope (compEnvC scope cl A X.env) fp) elt (TrE nm X.K Wx0 (den C el).e)) := by
  unfold ckComp at h
  split at h
  · rename_i elt tg iter ifs scope pos
    simp only [Bool.and_eq_true, List.all_eq_true] at h
    obtain ⟨⟨⟨⟨⟨⟨h1, h2⟩, h3⟩, h4⟩, h5⟩, h6⟩, h7⟩ := h
    have ok0 := blkOk_by h1
    have ok : BlkOk X.N X.env.scope scope own := ⟨ok0.kind, ok0.uniq, ok0.ix, fun y hy e => c.up _ (ok0.free y hy e), ok0.own⟩
    refine ⟨elt, tg, iter, ifs, scope, pos, rfl, ok, fun i hi => by simpa using h2 i hi, h3, ii.s X sc Wx D c _ _ h4, fun s H C cl fp => ?_, fun s H A cl fp => ?_, fun s H A cl fp => ?_⟩
    · exact eg_tp (c.blk ok.kind s H C cl fp) t tg h5
    · exact ic.ifs (X.blk s H scope (compEnvC scope cl A X.env) fp) scope Wx0 D (c.blk ok.kind s H A cl fp) _ h6
    · exact ie.e (X.blk s H scope (compEnvC scope cl A X.env) fp) scope Wx0 D (c.blk ok.kind s H A cl fp) _ h7
  · cases h
theorem o_comp {own : List (Str × Nat)} {t : TP} {it cc el : T} (ii : Ok nm k tb C it) (ic : Ok nm k tb C cc) (ie : Ok nm k tb C el) : Ok nm k tb C (.comp own t it cc el) := okE (f := fun N sc x => ckComp N sc own t (chk tb N it) (chk tb N cc) (chk tb N el) x) (fun _ => rfl) rfl fun X sc Wx D c e h => by
  obtain ⟨elt, tg, iter, ifs, scope, pos, rfl, ok, h2, h3, h4, h5, h6, h7⟩ := comp_parts D c ii ic ie h
  exact ev_comp c.calm c.nd h4 ok h2 h5 h6 h7 fun x => noSet_of h3 X.env x
theorem o_sComp {i : Nat} {own : List (Str × Nat)} {t : TP} {it cc el : T} (ii : Ok nm k tb C it) (ic : Ok nm k tb C cc) (ie : Ok nm k tb C el) : Ok nm k tb C (.sComp i own t it cc el) := okX (fun _ => rfl) rfl fun X sc Wx D c hi e h => by
  split at h
  · simp only [Bool.and_eq_true, decide_eq_true_eq, Bool.not_eq_true'] at h
    obtain ⟨⟨⟨⟨h1, h2⟩, h3⟩, h4⟩, h5⟩ := h
    obtain ⟨elt, tg, iter, ifs, scope, pos, he, ok, g2, g3, g4, g5, g6, g7⟩ := comp_parts D c ii ic ie h5
    cases he
    exact es_comp c.calm c.nd h1 (c.lo _ h2) c.kind h3 h4 g4 ok g2 g5 g6 g7 fun x => noSet_of g3 X.env x
  · cases h
theorem o_sAsg {t : TP} {a : T} (ia : Ok nm k tb C a) : Ok nm k tb C (.sAsg t a) := okX (fun _ => rfl) rfl fun X sc Wx D c hi e h => by
  split at h
  · simp only [Bool.and_eq_true, decide_eq_true_eq, Bool.not_eq_true', okNm] at h
    obtain ⟨⟨⟨⟨h1, h2⟩, h3⟩, h4⟩, h5⟩ := h
    exact es_asg (ia.e X sc Wx D c _ h5) (eg_tp c t _ h4) h1 h2 (swaps_none c.kind (by rw [hi.sc]; exact h3))
  · cases h
theorem o_sPar2 {i j : Nat} {a : T} (ia : Ok nm k tb C a) : Ok nm k tb C (.sPar2 i j a) := okX (fun _ => rfl) rfl fun X sc Wx D c hi e h => by
  split at h
  · simp only [Bool.and_eq_true, decide_eq_true_eq] at h
    obtain ⟨⟨⟨⟨⟨⟨h1, h2⟩, h3⟩, h4⟩, h5⟩, h6⟩, h7⟩ := h
    exact es_par2 c.calm c.nd h1 h2 h3 (c.lo _ h4) (c.lo _ h5) (ia.es X sc Wx D c _ h7) c.kind (by rw [hi.sc]; exact h6)
  · cases h
theorem o_sPar3 {i j l : Nat} {a : T} (ia : Ok nm k tb C a) : Ok nm k tb C (.sPar3 i j l a) := okX (fun _ => rfl) rfl fun X sc Wx D c hi e h => by
  split at h
  · simp only [Bool.and_eq_true, decide_eq_true_eq] at h
    obtain ⟨⟨⟨⟨⟨⟨⟨⟨⟨⟨h1, h2⟩, h3⟩, h4⟩, h5⟩, h6⟩, h7⟩, h8⟩, h9⟩, h10⟩, h11⟩ := h
    exact es_par3 c.calm c.nd h1 h2 h3 h4 h5 h6 (c.lo _ h7) (c.lo _ h8) (c.lo _ h9) (ia.es X sc Wx D c _ h11) c.kind (by rw [hi.sc]; exact h10)
  · cases h
theorem o_sSub {a b d : T} (ia : Ok nm k tb C a) (ib : Ok nm k tb C b) (id : Ok nm k tb C d) : Ok nm k tb C (.sSub a b d) := okX (fun _ => rfl) rfl fun X sc Wx D c hi e h => by
  split at h
  · simp only [Bool.and_eq_true, decide_eq_true_eq, Bool.not_eq_true', okNm] at h
    obtain ⟨⟨⟨⟨h1, h2⟩, h3⟩, h4⟩, h5⟩ := h
    exact es_sub (ia.e X sc Wx D c _ h3) (ib.e X sc Wx D c _ h4) (id.e X sc Wx D c _ h5) h1 h2
  · cases h
theorem o_sPutD {a b d : T} (ia : Ok nm k tb C a) (ib : Ok nm k tb C b) (id : Ok nm k tb C d) : Ok nm k tb C (.sPutD a b d) := okX (fun _ => rfl) rfl fun X sc Wx D c hi e h => by
  split at h
  · simp only [Bool.and_eq_true, decide_eq_true_eq, Bool.not_eq_true', okNm] at h
    obtain ⟨⟨⟨⟨h1, h2⟩, h3⟩, h4⟩, h5⟩ := h
    exact es_putD (by have := c.room.units; omega) (ia.e X sc Wx D c _ h3) (ib.e X sc Wx D c _ h4) (id.e X sc Wx D c _ h5) h1 h2
  · cases h
theorem o_sAug {i : Nat} {op : Operator} {a : T} (ia : Ok nm k tb C a) : Ok nm k tb C (.sAug i op a) := okX (fun _ => rfl) rfl fun X sc Wx D c hi e h => by
  split at h
  · simp only [Bool.and_eq_true, decide_eq_true_eq, Bool.not_eq_true', okNm] at h
    obtain ⟨⟨⟨rfl, h2⟩, h3⟩, h4⟩ := h
    exact es_aug c.nd h2 (c.loc _ h3).1 (c.loc _ h3).2 (ia.e X sc Wx D c _ h4)
  · cases h
theorem o_sIf {a b d : T} (id : Ok nm k tb C d) (ia : Ok nm k tb C a) (ib : Ok nm k tb C b) : Ok nm k tb C (.sIf d a b) := okX (fun _ => rfl) rfl fun X sc Wx D c hi e h => by
  split at h
  · simp only [Bool.and_eq_true, decide_eq_true_eq, Bool.not_eq_true', okNm] at h
    exact es_if (id.t X sc Wx D c _ h.1.1) (ia.xs X sc Wx D c hi _ h.1.2) (ib.xs X sc Wx D c hi _ h.2)
  · cases h
theorem o_sFor {t : TP} {a b : T} (ia : Ok nm k tb C a) (ib : Ok nm k tb C b) : Ok nm k tb C (.sFor t a b) := okX (fun _ => rfl) rfl fun X sc Wx D c hi e h => by
  split at h
  · simp only [Bool.and_eq_true, decide_eq_true_eq, Bool.not_eq_true', okNm] at h
    exact es_for c.po c.calm (ia.s X sc Wx D c _ _ h.1.2) (eg_tp c t _ h.1.1.2) (ib.xs X sc Wx D c hi _ h.2) fun x => noSet_of h.1.1.1 X.env x
  · cases h
theorem o_sWh {n : Nat} {a b : T} (ia : Ok nm k tb C a) (ib : Ok nm k tb C b) : Ok nm k tb C (.sWh n a b) := okX (fun _ => rfl) rfl fun X sc Wx D c hi e h => by
  split at h
  · simp only [Bool.and_eq_true, decide_eq_true_eq, Bool.not_eq_true', okNm] at h
    exact es_while c.po (ia.t X sc Wx D c _ h.1) (ib.xs X sc Wx D c hi _ h.2)
  · cases h
theorem o_sRet {a : T} (ia : Ok nm k tb C a) : Ok nm k tb C (.sRet a) := okX (fun _ => rfl) rfl fun X sc Wx D c hi e h => by
  split at h
  · exact es_ret (ia.e X sc Wx D c _ h)
  · cases h
theorem o_sRetN : Ok nm k tb C .sRetN := okX (fun _ => rfl) rfl fun X sc Wx D c hi e h => by
  split at h
  · exact es_retN
  · cases h
theorem o_sExp {a : T} (ia : Ok nm k tb C a) : Ok nm k tb C (.sExp a) := okX (fun _ => rfl) rfl fun X sc Wx D c hi e h => by
  split at h
  · simp only [Bool.and_eq_true, decide_eq_true_eq, Bool.not_eq_true', okNm] at h
    exact es_exp (ia.e X sc Wx D c _ h.2) h.1
  · cases h
theorem o_sPass : Ok nm k tb C .sPass := okX (fun _ => rfl) rfl fun X sc Wx D c hi e h => by
  split at h
  · exact es_pass
  · cases h
theorem o_sBrk : Ok nm k tb C .sBrk := okX (fun _ => rfl) rfl fun X sc Wx D c hi e h => by
  split at h
  · exact es_brk
  · cases h
theorem o_sCnt : Ok nm k tb C .sCnt := okX (fun _ => rfl) rfl fun X sc Wx D c hi e h => by
  split at h
  · exact es_cnt
  · cases h
theorem o_sRaise {c : Str} {fl : List Str} {es : T} (ia : Ok nm k tb C es) : Ok nm k tb C (.sRaise c fl es) := okX (fun _ => rfl) rfl fun X sc Wx D q hi e h => by
  split at h
  · simp only [Bool.and_eq_true, decide_eq_true_eq, Bool.not_eq_true'] at h
    obtain ⟨⟨⟨⟨⟨rfl, h2⟩, h3⟩, h4⟩, h5⟩, h6⟩ := h
    exact es_raise (D.xs _ _ h5).1 q.calm q.tk (q.room.mono (by unfold rm; omega)) (q.gl _ h2) h3 (ia.es X sc Wx D q _ h6) h4
  · cases h
theorem er_of {X : Cx} {sc : Scope} {Wx : WX} {i : Option Nat} {n : Str} (q : Ctx (k + 1) sc X Wx) (h : okEr X.N sc i n = true) : ∃ j, i = some j ∧ X.N[j]? = some n ∧ Vis X.env.scope n ∧ (n == ("__debug__" : Str)) = false ∧ (n == ("__classdict__" : Str)) = false := by
  unfold okEr at h
  split at h
  · rename_i j
    simp only [okNm, Bool.and_eq_true, decide_eq_true_eq, Bool.not_eq_true'] at h
    exact ⟨j, rfl, h.1.1.1, q.vis _ h.1.1.2, h.1.2, h.2⟩
  · cases h
theorem it_of {X : Cx} {sc : Scope} {Wx : WX} {i : Option Nat} (D : At nm k tb C X) (q : Ctx (k + 1) sc X Wx) {a : Addr} {oe : Obj} {cls : Value} {d : Option Addr} {pn : List (Addr × Obj)} (hz : Zc cls d oe) (hf : ∃ vs, oe.data = .fields vs) :
    ∀ (it : SI) (e : Expr), ckIt tb X.N sc i it e = true → PE (X.suite a ((a, oe) :: pn)) e (tIt X.K nm i a cls d it) := fun it e h => by
  unfold ckIt at h
  split at h
  · cases of_decide_eq_true h
    exact it_str (X := X.suite a ((a, oe) :: pn))
  · exact PE.weak pe_non fun σ H Q ⟨W, ah, x, v, _, _, _, e, k⟩ => by cases e; exact k _ .non
  · cases of_decide_eq_true h
    exact PE.weak pe_bl fun σ H Q ⟨W, ah, x, v, _, _, _, e, k⟩ => by cases e; exact k _ (.bl _)
  · cases of_decide_eq_true h
    exact PE.weak pe_int fun σ H Q ⟨W, ah, x, v, _, _, _, e, k⟩ => by cases e; exact k _ (.int _)
  · rename_i f cs n _ g _
    simp only [Bool.and_eq_true, decide_eq_true_eq, List.all_eq_true] at h
    obtain ⟨⟨rfl, h2⟩, h3⟩ := h
    obtain ⟨j, rfl, h4, h5, h6, h7⟩ := er_of q h2
    refine it_fld h4 h5 h6 h7 hz hf fun c hc => ?_
    have := h3 c hc
    split at this
    · rename_i fl e
      exact ⟨fl, (D.xs _ _ e).2, List.contains_iff_mem.mp this⟩
    · cases this
  · simp only [Bool.and_eq_true, decide_eq_true_eq, List.all_eq_true, Bool.not_eq_true', List.mem_append] at h
    obtain ⟨⟨⟨⟨⟨⟨⟨⟨⟨rfl, rfl⟩, h3⟩, h4⟩, h5⟩, h6⟩, h7⟩, h8⟩, h9⟩, h10⟩ := h
    obtain ⟨j, rfl, e4, e5, e6, e7⟩ := er_of q h7
    refine it_isx e4 e5 e6 e7 hz hf (q.gl _ h3) (D.bs _ h5) (q.gl _ h4) h6 (fun y hy => ?_) (fun y hy => D.xm _ _ _ (h9 y hy)) fun y hy => D.xm _ _ _ (h10 y hy)
    obtain ⟨fl, e⟩ := Option.isSome_iff_exists.mp (h8 y hy)
    exact ⟨fl, (D.xs _ _ e).2⟩
  · cases h
theorem its_of {X : Cx} {sc : Scope} {Wx : WX} {i : Option Nat} (D : At nm k tb C X) (q : Ctx (k + 1) sc X Wx) {a : Addr} {oe : Obj} {cls : Value} {d : Option Addr} {pn : List (Addr × Obj)} (hz : Zc cls d oe) (hf : ∃ vs, oe.data = .fields vs) :
    ∀ (its : List SI) (es : List Expr), ckIts tb X.N sc i its es = true → PA (X.suite a ((a, oe) :: pn)) es (tIts X.K nm i a cls d its)
  | [], [], _ => its_nil
  | it :: l, e :: es, h => by
    unfold ckIts at h
    simp only [Bool.and_eq_true] at h
    exact its_cons (it_of D q hz hf it e h.1.2) (its_of D q hz hf l es h.2) h.1.1
  | [], _ :: _, h => by unfold ckIts at h; cases h
  | _ :: _, [], h => by unfold ckIts at h; cases h
theorem hds_of {X : Cx} {sc : Scope} {Wx : WX} (D : At nm k tb C X) (q : Ctx (k + 1) sc X Wx) : ∀ (hs : List Hd) (r : List ExceptHandler), ckHds tb X.N sc hs r = true → HdOk nm X hs r
  | [], [], _ => .nil
  | h :: hs, r, g => by
    unfold ckHds at g
    split at g
    · cases ‹_ :: _ = []›
    · rename_i h' hs' x _ o e _ _ r' eq1
      cases eq1
      simp only [Bool.and_eq_true, decide_eq_true_eq, Bool.not_eq_true', List.all_eq_true] at g
      obtain ⟨⟨⟨⟨⟨⟨⟨⟨rfl, g2⟩, g3⟩, g4⟩, g5⟩, g6⟩, g7⟩, g8⟩, g9⟩ := g
      obtain ⟨E, hE⟩ := D.xc _ g4
      refine .cons (q.gl _ g2) g3 hE ?_ (fun y hy => D.xm _ _ _ (g6 y hy)) (fun y hy => D.xm _ _ _ (g7 y hy)) ?_ (hds_of D q hs r' g9)
      · unfold ckCn at g5
        split at g5
        · rename_i e1; rw [e1]; trivial
        · rename_i n i e1
          simp only [Bool.and_eq_true, decide_eq_true_eq] at g5
          rw [e1]
          exact ⟨g5.1, q.lo _ g5.2⟩
        · cases g5
      · unfold ckSf at g8
        split at g8
        · rename_i m l es _ e1
          rw [e1]
          exact sf_list fun a oe cls d pn hz hf => its_of D q hz hf l es g8
        · rename_i it e1
          rw [e1]
          exact fun a oe cls d pn hz hf => it_of D q hz hf it _ g8
        · rename_i f cs j l _ y _ _ e1
          rw [e1]
          simp only [okNm, Bool.and_eq_true, decide_eq_true_eq, Bool.not_eq_true'] at g8
          obtain ⟨⟨g9, ⟨⟨⟨g10, g11⟩, g12⟩, g13⟩⟩, g14⟩ := g8
          exact sf_eq (fun a oe cls d pn hz hf => it_of D q hz hf _ _ g9) g10 (q.vis _ g11) g12 g13 g14
        · cases g8
    · cases g
  | [], _ :: _, g => by unfold ckHds at g; cases g
theorem o_sTry {b : T} {hs : List Hd} (ib : Ok nm k tb C b) : Ok nm k tb C (.sTry b hs) := okX (fun _ => rfl) rfl fun X sc Wx D q hi e h => by
  split at h
  · simp only [Bool.and_eq_true] at h
    refine es_try hi.stk hi.fr q.nd q.tk (fun W pn xe tk po => ib.xs (X.tr pn xe) sc W D ?_ ⟨hi.sc, hi.stk, hi.fr⟩ _ h.1) (hds_of D q hs _ h.2)
    exact ⟨q.sm, q.gd, q.room, q.calm, q.nd, po, tk, q.vis, q.loc, q.lo, q.gl, q.up, q.kind⟩
  · cases h
theorem cls_all {X : Cx} (D : At nm k tb C X) {cs : List Str} {f : Str} (h : cs.all (fun c => match tb.cl.lookup c with | some fl => fl.contains f | none => false) = true) : ∀ c ∈ cs, ClsK X.K nm c [f] := fun c hc => by
  have q := List.all_eq_true.mp h c hc
  split at q
  · rename_i fl e
    obtain ⟨A, h1, h2, h3⟩ := (D.cl _ _ e).ex
    exact ⟨A, h1, h2, fun g hg => by rw [List.mem_singleton.mp hg]; exact h3 f (List.contains_iff_mem.mp q)⟩
  · cases q
theorem o_att {cs : List Str} {f : Str} {a : T} (ia : Ok nm k tb C a) : Ok nm k tb C (.att cs f a) := okE (fun _ => rfl) rfl fun X sc Wx D c e h => by
  split at h
  · simp only [Bool.and_eq_true, decide_eq_true_eq] at h
    obtain ⟨⟨⟨rfl, h2⟩, h3⟩, h4⟩ := h
    exact ev_att (cls_all D h3) (ia.e X sc Wx D c _ h4) h2
  · cases h
theorem o_mcall {cs : List (Str × Str)} {m : Str} {a b : T} (ia : Ok nm k tb C a) (ib : Ok nm k tb C b) : Ok nm k tb C (.mcall cs m a b) := okE (fun _ => rfl) rfl fun X sc Wx D c e h => by
  split at h
  · rename_i x n ap l cp
    simp only [Bool.and_eq_true, decide_eq_true_eq] at h
    obtain ⟨⟨⟨⟨⟨⟨⟨⟨rfl, h2⟩, h3⟩, h4⟩, h5⟩, h6⟩, h7⟩, h8⟩, h9⟩ := h
    refine ev_mcall c (fun p hp => ?_) (ia.e X sc Wx D c _ h8) h2 h3 ?_ h4 h5
    · obtain ⟨A, fa, fd, ps, g1, g2, g3, g4, g5, F, _⟩ := (D.ms _ _ _ (List.all_eq_true.mp h6 p hp)).ex
      exact ⟨A, fa, fd, ps, g1, g2, g3, g4, g5, F, fun e he => absurd he List.not_mem_nil⟩
    cases l with
    | nil =>
      have h7 : b.isNil = true := h7
      cases T.isNil_eq h7
      exact .inl ⟨rfl, rfl⟩
    | cons e es => exact .inr ⟨List.cons_ne_nil _ _, ib.es X sc Wx D c _ h9⟩
  · cases h
theorem o_mcallK {cs : List (Str × Str)} {m : Str} {a b d : T} {np : Nat} {ks : List Str} {perm : List Nat} (ia : Ok nm k tb C a) (ib : Ok nm k tb C b) (id : Ok nm k tb C d) : Ok nm k tb C (.mcallK cs m a b np ks perm d) := okE (fun _ => rfl) rfl fun X sc Wx D c e h => by
  split at h
  · rename_i x n ap l kws cp
    simp only [Bool.and_eq_true, decide_eq_true_eq] at h
    obtain ⟨⟨⟨⟨⟨⟨⟨⟨⟨⟨rfl, h2⟩, h3⟩, h4⟩, h5⟩, h6⟩, hn⟩, h7⟩, h8⟩, h9⟩, h10⟩ := h
    refine ev_mcallK c (fun p hp => ?_) (ia.e X sc Wx D c _ h8) h2 h3 ?_ (id.ks X sc Wx D c _ h10) hn h4 h5
    · have q := List.all_eq_true.mp h6 p hp
      rw [Bool.and_eq_true] at q
      obtain ⟨A, fa, fd, ps, g1, g2, g3, g4, g5, F, gk⟩ := (D.ms _ _ _ q.1).ex
      exact ⟨A, fa, fd, ps, g1, g2, g3, g4, g5, F, fun e he => by rw [List.mem_singleton.mp he]; exact gk _ (List.contains_iff_mem.mp q.2)⟩
    cases l with
    | nil =>
      have h7 : b.isNil = true := h7
      cases T.isNil_eq h7
      exact .inl ⟨rfl, rfl⟩
    | cons e es => exact .inr ⟨List.cons_ne_nil _ _, ib.es X sc Wx D c _ h9⟩
  · cases h
theorem o_new {x f : Str} {a : T} (ia : Ok nm k tb C a) : Ok nm k tb C (.new x f a) := okE (fun _ => rfl) rfl fun X sc Wx D c e h => by
  split at h
  · rename_i y p l pos
    simp only [Bool.and_eq_true, decide_eq_true_eq, Bool.not_eq_true'] at h
    obtain ⟨⟨⟨⟨⟨⟨rfl, h1⟩, h2⟩, h3⟩, h4⟩, h6⟩, h5⟩ := h
    refine ev_new c (D.nw _ _ h2) (c.gl _ h1) h3 ?_ h4
    cases l with
    | nil =>
      have h6 : a.isNil = true := h6
      cases T.isNil_eq h6
      exact .inl ⟨rfl, rfl⟩
    | cons e es => exact .inr ⟨List.cons_ne_nil _ _, ia.es X sc Wx D c _ h5⟩
  · cases h
theorem o_dsub {a b : T} (ia : Ok nm k tb C a) (ib : Ok nm k tb C b) : Ok nm k tb C (.dsub a b) := okE (fun _ => rfl) rfl fun X sc Wx D c e h => by
  split at h
  · simp only [Bool.and_eq_true] at h
    exact ev_dsub (by have := c.room.units; omega) (ia.e X sc Wx D c _ h.1.2) (ib.e X sc Wx D c _ h.2) h.1.1
  · cases h
theorem o_din {a b : T} (ia : Ok nm k tb C a) (ib : Ok nm k tb C b) : Ok nm k tb C (.din a b) := okT (fun _ => rfl) rfl (fun X sc Wx D c e h => by
  split at h
  · simp only [Bool.and_eq_true] at h
    exact ev_cmp (op_dinA (by have := c.room.units; omega)) (ia.e X sc Wx D c _ h.1.2) (ib.e X sc Wx D c _ h.2) (noSet_behind h.1.1)
  · cases h) fun X sc Wx D c e h => by
  split at h
  · simp only [Bool.and_eq_true] at h
    exact et_cmp (op_dinA (by have := c.room.units; omega)) (ia.e X sc Wx D c _ h.1.2) (ib.e X sc Wx D c _ h.2) (noSet_behind h.1.1)
  · cases h
theorem o_catM {a b : T} (ia : Ok nm k tb C a) (ib : Ok nm k tb C b) : Ok nm k tb C (.catM a b) := okE (fun _ => rfl) rfl fun X sc Wx D c e h => by
  split at h
  · simp only [Bool.and_eq_true] at h
    exact ev_catM (ia.e X sc Wx D c _ h.1) (ib.e X sc Wx D c _ h.2)
  · cases h
theorem o_deq {b : Bool} {x y : T} (ia : Ok nm k tb C x) (ib : Ok nm k tb C y) : Ok nm k tb C (.deq b x y) := by
  have op : ∀ X sc Wx, Ctx (k + 1) sc X Wx → OpR X (compareOp (if b = true then .Eq else .NotEq)) (r2 nm X.K (if b = true then deqA else dneA)) := fun X sc Wx c => by
    cases b with
    | true => exact op_deqA c.sm (by have := c.room.un; unfold rm at this; omega)
    | false => exact op_dneA c.sm (by have := c.room.un; unfold rm at this; omega)
  refine okT (fun _ => rfl) rfl (fun X sc Wx D c e h => ?_) fun X sc Wx D c e h => ?_
  · split at h
    · simp only [Bool.and_eq_true, decide_eq_true_eq] at h
      obtain ⟨⟨⟨rfl, h1⟩, h2⟩, h3⟩ := h
      exact ev_cmp (op X sc Wx c) (ia.e X sc Wx D c _ h2) (ib.e X sc Wx D c _ h3) (noSet_behind h1)
    · cases h
  · split at h
    · simp only [Bool.and_eq_true, decide_eq_true_eq] at h
      obtain ⟨⟨⟨rfl, h1⟩, h2⟩, h3⟩ := h
      exact et_cmp (op X sc Wx c) (ia.e X sc Wx D c _ h2) (ib.e X sc Wx D c _ h3) (noSet_behind h1)
    · cases h
theorem o_dni {a b : T} (ia : Ok nm k tb C a) (ib : Ok nm k tb C b) : Ok nm k tb C (.dni a b) := okT (fun _ => rfl) rfl (fun X sc Wx D c e h => by
  split at h
  · simp only [Bool.and_eq_true] at h
    exact ev_cmp (op_dniA (by have := c.room.units; omega)) (ia.e X sc Wx D c _ h.1.2) (ib.e X sc Wx D c _ h.2) (noSet_behind h.1.1)
  · cases h) fun X sc Wx D c e h => by
  split at h
  · simp only [Bool.and_eq_true] at h
    exact et_cmp (op_dniA (by have := c.room.units; omega)) (ia.e X sc Wx D c _ h.1.2) (ib.e X sc Wx D c _ h.2) (noSet_behind h.1.1)
  · cases h
theorem o_dget {a b d : T} (ia : Ok nm k tb C a) (ib : Ok nm k tb C b) (id : Ok nm k tb C d) : Ok nm k tb C (.dget a b d) := okE (fun _ => rfl) rfl fun X sc Wx D c e h => by
  split at h
  · simp only [Bool.and_eq_true, decide_eq_true_eq] at h
    obtain ⟨⟨⟨⟨⟨⟨⟨rfl, h1⟩, h2⟩, h3⟩, h4⟩, h5⟩, h6⟩, h7⟩ := h
    exact ev_dget (by have := c.room.units; omega) (ia.e X sc Wx D c _ h5) (ib.e X sc Wx D c _ h6) (id.e X sc Wx D c _ h7) h1 h2 h3 h4
  · cases h
theorem o_dpop {a b : T} (ia : Ok nm k tb C a) (ib : Ok nm k tb C b) : Ok nm k tb C (.dpop a b) := okE (fun _ => rfl) rfl fun X sc Wx D c e h => by
  split at h
  · simp only [Bool.and_eq_true, decide_eq_true_eq] at h
    obtain ⟨⟨⟨⟨⟨rfl, h1⟩, h2⟩, h3⟩, h4⟩, h5⟩ := h
    exact ev_dpop (ia.e X sc Wx D c _ h4) (ib.e X sc Wx D c _ h5) h1 h2 h3
  · cases h
theorem o_dicN : Ok nm k tb C .dicN := okE (fun _ => rfl) rfl fun X sc Wx D c e h => by
  split at h
  · exact ev_dicN
  · cases h
theorem o_srt {a : T} (ia : Ok nm k tb C a) : Ok nm k tb C (.srt a) := okE (fun _ => rfl) rfl fun X sc Wx D c e h => by
  split at h
  · simp only [Bool.and_eq_true, decide_eq_true_eq] at h
    obtain ⟨⟨⟨⟨rfl, h2⟩, h3⟩, h4⟩, h5⟩ := h
    exact ev_srt (c.gl _ h2) (D.bs _ h3) (ia.e X sc Wx D c _ h5) h4
  · cases h
theorem o_srtM {a : T} (ia : Ok nm k tb C a) : Ok nm k tb C (.srtM a) := okE (fun _ => rfl) rfl fun X sc Wx D c e h => by
  split at h
  · simp only [Bool.and_eq_true, decide_eq_true_eq] at h
    obtain ⟨⟨⟨⟨rfl, h2⟩, h3⟩, h4⟩, h5⟩ := h
    exact ev_srtM (c.gl _ h2) (D.bs _ h3) (ia.e X sc Wx D c _ h5) h4
  · cases h
theorem o_rev {a : T} (ia : Ok nm k tb C a) : Ok nm k tb C (.rev a) := okE (fun _ => rfl) rfl fun X sc Wx D c e h => by
  split at h
  · exact ev_rev (ia.e X sc Wx D c _ h)
  · cases h
theorem o_sAtt {cs : List Str} {f : Str} {a b : T} (ia : Ok nm k tb C a) (ib : Ok nm k tb C b) : Ok nm k tb C (.sAtt cs f a b) := okX (fun _ => rfl) rfl fun X sc Wx D c hi e h => by
  split at h
  · simp only [Bool.and_eq_true, decide_eq_true_eq] at h
    obtain ⟨⟨⟨⟨h1, rfl⟩, h3⟩, h4⟩, h5⟩ := h
    exact es_att (cls_all D h3) (ia.e X sc Wx D c _ h4) (ib.e X sc Wx D c _ h5) h1
  · cases h
theorem o_sAttA {cs : List Str} {f : Str} {op : Operator} {a b : T} (ia : Ok nm k tb C a) (ib : Ok nm k tb C b) : Ok nm k tb C (.sAttA cs f op a b) := okX (fun _ => rfl) rfl fun X sc Wx D c hi e h => by
  split at h
  · simp only [Bool.and_eq_true, decide_eq_true_eq] at h
    obtain ⟨⟨⟨⟨rfl, rfl⟩, h3⟩, h4⟩, h5⟩ := h
    exact es_attAug (cls_all D h3) (ia.e X sc Wx D c _ h4) (ib.e X sc Wx D c _ h5)
  · cases h
theorem o_sDel {a b : T} (ia : Ok nm k tb C a) (ib : Ok nm k tb C b) : Ok nm k tb C (.sDel a b) := okX (fun _ => rfl) rfl fun X sc Wx D c hi e h => by
  split at h
  · simp only [Bool.and_eq_true] at h
    exact es_ddel (ia.e X sc Wx D c _ h.1) (ib.e X sc Wx D c _ h.2)
  · cases h
theorem ok_all : ∀ t : T, Ok nm k tb C t
  | .nil => o_nil
  | .cons a b => o_cons (ok_all a) (ok_all b)
  | .var i => o_var
  | .cI n => o_cI
  | .cS z => o_cS
  | .cB b => o_cB
  | .cN => o_cN
  | .gl _ v => o_gl
  | .tup es => o_tup (ok_all es)
  | .lst es => o_lst (ok_all es)
  | .lstM es => o_lstM (ok_all es)
  | .bin op a b => o_bin (ok_all a) (ok_all b)
  | .neg a => o_neg (ok_all a)
  | .cmp op a b => o_cmp (ok_all a) (ok_all b)
  | .cmp2 o1 o2 a b c => o_cmp2 (ok_all a) (ok_all b) (ok_all c)
  | .and a b => o_and (ok_all a) (ok_all b)
  | .or a b => o_or (ok_all a) (ok_all b)
  | .not a => o_not (ok_all a)
  | .ife c a b => o_ife (ok_all c) (ok_all a) (ok_all b)
  | .sub a i => o_sub (ok_all a) (ok_all i)
  | .slc a lo hi => o_slc (ok_all a) (ok_all lo) (ok_all hi)
  | .call f es => o_call (ok_all es)
  | .callK f es np ks perm kes => o_callK (ok_all es) (ok_all kes)
  | .bi b es => o_bi (ok_all es)
  | .isi ts a => o_isi (ok_all a)
  | .mi m o es => o_mi (ok_all o) (ok_all es)
  | .comp own t it c e => o_comp (ok_all it) (ok_all c) (ok_all e)
  | .rng1 a => o_rng1 (ok_all a)
  | .rng2 a b => o_rng2 (ok_all a) (ok_all b)
  | .enum a => o_enum (ok_all a)
  | .eDead => o_eDead
  | .sDead => o_sDead
  | .app o e => o_app (ok_all o) (ok_all e)
  | .lstC a => o_lstC (ok_all a)
  | .lrg a => o_lrg (ok_all a)
  | .dicC a => o_dicC (ok_all a)
  | .dic0 => o_dic0
  | .sPar2 i j es => o_sPar2 (ok_all es)
  | .sPar3 i j l es => o_sPar3 (ok_all es)
  | .sAsg t e => o_sAsg (ok_all e)
  | .sComp i own t it c e => o_sComp (ok_all it) (ok_all c) (ok_all e)
  | .sSub o i e => o_sSub (ok_all o) (ok_all i) (ok_all e)
  | .sAug i op e => o_sAug (ok_all e)
  | .sIf c a b => o_sIf (ok_all c) (ok_all a) (ok_all b)
  | .sFor t it body => o_sFor (ok_all it) (ok_all body)
  | .sWh n c body => o_sWh (ok_all c) (ok_all body)
  | .sRet e => o_sRet (ok_all e)
  | .sRetN => o_sRetN
  | .sExp e => o_sExp (ok_all e)
  | .sPass => o_sPass
  | .sBrk => o_sBrk
  | .sCnt => o_sCnt
  | .sRaise c fl es => o_sRaise (ok_all es)
  | .sTry b hs => o_sTry (ok_all b)
  | .sPutD o i e => o_sPutD (ok_all o) (ok_all i) (ok_all e)
  | .att cs f o => o_att (ok_all o)
  | .mcall cs m o es => o_mcall (ok_all o) (ok_all es)
  | .mcallK cs m o es np ks perm kes => o_mcallK (ok_all o) (ok_all es) (ok_all kes)
  | .new c f es => o_new (ok_all es)
  | .dsub a i => o_dsub (ok_all a) (ok_all i)
  | .din a b => o_din (ok_all a) (ok_all b)
  | .dni a b => o_dni (ok_all a) (ok_all b)
  | .dget o k d => o_dget (ok_all o) (ok_all k) (ok_all d)
  | .dpop o k => o_dpop (ok_all o) (ok_all k)
  | .dicN => o_dicN
  | .catM a b => o_catM (ok_all a) (ok_all b)
  | .deq b x y => o_deq (ok_all x) (ok_all y)
  | .srt a => o_srt (ok_all a)
  | .srtM a => o_srtM (ok_all a)
  | .rev a => o_rev (ok_all a)
  | .sAtt cs f o e => o_sAtt (ok_all o) (ok_all e)
  | .sAttA cs f op o e => o_sAttA (ok_all o) (ok_all e)
  | .sDel o i => o_sDel (ok_all o) (ok_all i)
end
end Ko

/-! Ko, part Q: all defs of a text, by depth; the law's call. -/
namespace Ko
open PySem L2
/-- a def of the text: its name, where it stands, its slots, its parameters, its tree -/
structure Df where
  x : Str
  st : Stmt
  N : List Str
  ps : List Str
  t : T
  kw : List (Nat × List Str × List Nat) := []
def findD (ds : List Df) (f : Str) : Option Df := ds.find? fun d => d.x == f
def arD (ds : List Df) (f : Str) : Nat := match findD ds f with | some d => d.ps.length | none => 0
def semD (C : Ops) (d : Df) : List AV → AH → Ot AV := fun xs ah => ((den C d.t).x (startA d.N xs) ah).fin
def ops (ds : List Df) : Nat → Ops
  | 0 => { call := fun _ _ _ => .st, ar := arD ds }
  | k + 1 => { call := fun f xs ah => match findD ds f with | some d => semD (ops ds k) d xs ah | none => .st, ar := arD ds }
def scOk (N ps : List Str) (sc : Scope) : Bool :=
  (match sc.kind with | .function => true | _ => false) && !sc.isCoroutine && !sc.isGenerator && decide N.Nodup && decide (N.take ps.length = ps) &&
    ps.all (fun x => match sc.names.lookup x with | some .local => true | some .cell => true | _ => false) && sc.names.all (fun y => match y.2 with | .free => false | _ => true)
theorem scOk_of {N ps : List Str} {sc : Scope} (h : scOk N ps sc = true) : FnScope N ps sc := by
  unfold scOk at h
  simp only [Bool.and_eq_true, decide_eq_true_eq, Bool.not_eq_true', List.all_eq_true] at h
  obtain ⟨⟨⟨⟨⟨⟨h1, h2⟩, h3⟩, h4⟩, h5⟩, h6⟩, h7⟩ := h
  refine ⟨?_, h2, h3, h4, h5, fun x hx => ?_, fun y hy e => ?_⟩
  · split at h1
    · assumption
    · cases h1
  · have q := h6 x hx
    split at q
    · rename_i e; exact .inl e
    · rename_i e; exact .inr e
    · cases q
  · have q := h7 y hy
    rw [e] at q
    cases q
def dfOk (tb : Tb) (d : Df) : Bool := scOk d.N d.ps (defScope d.st) && (chk tb d.N d.t).xs (defScope d.st) (defBody d.st)
def kwOk (tb : Tb) (d : Df) : Bool := tb.kw.all fun e => !(e.1 == d.x) || d.kw.contains e.2
/-- what the top has written of a def -/
def DfF (K : PySem.W.Frag) (mg : Str → Option Value) (d : Df) : Prop := ∃ fa fd, mg d.x = some (.ref fa) ∧ PySem.W.keepIn K (.ref fa) = true ∧ (∀ us : List Value, us.length = d.ps.length → bindArgs fd ⟨us, []⟩ = pure (d.ps.zip us)) ∧ Fun K d.x d.x d.st fa fd ∧
  ∀ e ∈ d.kw, KwB K fd d.ps e.2.1 e.1 e.2.2
theorem dff_mk {K : PySem.W.Frag} {h : Heap} {mg : Str → Option Value} (X : K.In h) (G : h.Ns mainGlobals mg) {x : Str} {st : Stmt} {N ps : List Str} {t : T} {kw : List (Nat × List Str × List Nat)} {f : Addr} {oc : Value} {od an : Option Addr} {osl : Array (Option Value)} {kV doc pm cdv ct : Value}
    (a : PySem.W.nsIn K mainGlobals x = some (some (.ref f))) (l : K.lookup f = some ⟨oc, od, .func (PySem.W.fnOf x x (defArgs st) (defBody st) (defScope st) .none kV doc pm an cdv ct), osl⟩) (c : PySem.W.codeIn K cdv x = true) (k : PySem.W.keepIn K (.ref f) = true)
    (hb : ∀ (kV doc pm : Value) (an : Option Addr) (cdv ct : Value) (us : List Value), us.length = ps.length → bindArgs (PySem.W.fnOf x x (defArgs st) (defBody st) (defScope st) .none kV doc pm an cdv ct) ⟨us, []⟩ = pure (ps.zip us))
    (hk : ∀ (kV doc pm : Value) (an : Option Addr) (cdv ct : Value), ∀ e ∈ kw, ∀ us ws : List Value, us.length = e.1 → ws.length = e.2.1.length → bindArgs (PySem.W.fnOf x x (defArgs st) (defBody st) (defScope st) .none kV doc pm an cdv ct) ⟨us, e.2.1.zip ws⟩ = pure (ps.zip (us ++ e.2.2.map fun i => ws.getD i .none))) :
    DfF K mg ⟨x, st, N, ps, t, kw⟩ :=
  ⟨f, _, PySem.W.mg_of X G a, k, fun us hl => hb kV doc pm an cdv ct us hl, fun_mk (st := st) l c k, fun e he s us ws _ h1 h2 => .of_eq (hk kV doc pm an cdv ct e he us ws h1 h2)⟩
/-- a method within its class -/
def metSt (j : Nat) : Stmt → Stmt
  | .ClassDef _ _ _ body _ _ _ _ _ _ _ => body.getD j (.Pass ⟨0, 0, 0, 0⟩)
  | s => s
/-- what the top has written of a method -/
def MdF (K : PySem.W.Frag) (nm : Nm) (c m : Str) (d : Df) : Prop := ∃ C fa fd qual, nm.cls c = some C ∧ Cls K C ∧ Meth K C m fa ∧ (∀ us : List Value, us.length = d.ps.length → bindArgs fd ⟨us, []⟩ = pure (d.ps.zip us)) ∧ Fun K m qual d.st fa fd ∧ ∀ e ∈ d.kw, KwB K fd d.ps e.2.1 e.1 e.2.2
/-- of a class that is made -/
def NwF (K : PySem.W.Frag) (nm : Nm) (mg : Str → Option Value) (c : Str) (d : Df) : Prop := ∃ C fa fd qual, nm.cls c = some C ∧ mg c = some (.ref C) ∧ Mk K C fa ∧ (∀ us : List Value, us.length = d.ps.length → bindArgs fd ⟨us, []⟩ = pure (d.ps.zip us)) ∧ Fun K "__init__" qual d.st fa fd
def mkwOk (tb : Tb) (d : Df) : Bool := (tb.kwOf d.x).all fun e => d.kw.contains e
/-- what the head tells of the classes -/
structure CsOk (K : PySem.W.Frag) (nm : Nm) (mg : Str → Option Value) (tb : Tb) (ds : List Df) : Prop where
  cl : ∀ c fl, tb.cl.lookup c = some fl → ClsK K nm c fl
  ms : ∀ c m f, tb.ms.contains (c, m, f) = true → ∃ d, findD ds f = some d ∧ MdF K nm c m d
  nw : ∀ c f, tb.nw.contains (c, f) = true → ∃ d, findD ds f = some d ∧ NwF K nm mg c d
  kw : ds.all (mkwOk tb) = true
theorem findD_in {ds : List Df} {f : Str} {d : Df} (h : findD ds f = some d) : d ∈ ds ∧ d.x = f := ⟨List.mem_of_find?_eq_some h, by have := List.find?_some h; simpa using this⟩
theorem findD_of {ds : List Df} {f : Str} (h : (ds.map (·.x)).contains f = true) : ∃ d, findD ds f = some d ∧ d ∈ ds ∧ d.x = f := by
  simp only [List.contains_iff_mem, List.mem_map] at h
  obtain ⟨d, hd, rfl⟩ := h
  unfold findD
  cases q : ds.find? (fun e => e.x == d.x) with
  | none =>
    have := List.find?_eq_none.mp q d hd
    simp at this
  | some e => exact ⟨e, rfl, List.mem_of_find?_eq_some q, by have := List.find?_some q; simpa using this⟩
section
variable {P : Program} {w : World} {K : PySem.W.Frag} {mg : Str → Option Value} {base : Heap} {nm : Nm}
theorem fn_st {k : Nat} {fa : Addr} {fd : FuncData} {ps : List Str} : FnG P w K mg base nm k fa fd ps fun _ _ => .st := ⟨fun A outer s H args us vs W xs ah Q E _ _ _ _ _ _ _ _ p => False.elim p⟩
theorem ops_ok {ds : List Df} {tb : Tb} (hf : tb.fs.all (fun f => (ds.map (·.x)).contains f) = true) (hF : ∀ d ∈ ds, tb.fs.contains d.x = true → DfF K mg d) (hc : ds.all (dfOk tb) = true) (hkw : ds.all (kwOk tb) = true) (hbs : ∀ x, tb.bs.contains x = true → mg x = none) (hcs : ∀ x v, tb.cs.lookup x = some v → glV K mg x v)
    (hsm : ∃ o es ep, base.get? sysModules = some o ∧ o.data = .dict es ep)
    (hxs : ∀ c fl, tb.xs.lookup c = some fl → XMk P w K mg base nm c fl ∧ XRd K nm c fl) (hxm : ∀ y c b, tb.xm.contains (y, c, b) = true → XIn K nm mg y c b) (hxc : ∀ c, tb.xc.contains c = true → ∃ D, mg c = some (.ref D)) (hcl : CsOk K nm mg tb ds) : ∀ k, TbOk P w K mg base nm k tb (ops ds k) := by
  have arD_ok : ∀ (k : Nat) (f : Str) (d : Df), findD ds f = some d → d.ps.length = (ops ds k).ar f := fun k f d e => by
    have : (ops ds k).ar = arD ds := by cases k <;> rfl
    rw [this]
    unfold arD
    rw [e]
  have shape : ∀ (k : Nat) (hS : ∀ d ∈ ds, findD ds d.x = some d → ∀ x qual fa fd, Fun K x qual d.st fa fd → FnG P w K mg base nm k fa fd d.ps ((ops ds k).call d.x)), TbOk P w K mg base nm k tb (ops ds k) := fun k hS => by
    refine ⟨fun f h => ?_, hbs, hcs, hxs, hxm, hxc, hcl.cl, fun c m f h => ?_, fun c f h => ?_⟩
    · have h' := List.all_eq_true.mp hf f (List.contains_iff_mem.mp h)
      obtain ⟨d, e, hd, rfl⟩ := findD_of h'
      obtain ⟨fa, fd, h1, h2, h3, h4, h5⟩ := hF d hd h
      refine ⟨fa, fd, d.ps, h1, h2, .all h3, arD_ok k _ d e, hS d hd e _ _ fa fd h4, fun np ks perm hm => ?_⟩
      have q := List.all_eq_true.mp hkw d hd
      unfold kwOk at q
      have q2 := List.all_eq_true.mp q (d.x, np, ks, perm) (by simpa using hm)
      simp only [Bool.or_eq_true, Bool.not_eq_true', beq_eq_false_iff_ne, ne_eq, not_true_eq_false, false_or] at q2
      exact h5 (np, ks, perm) (List.contains_iff_mem.mp q2)
    · obtain ⟨d, e, C, fa, fd, qual, h1, h2, h3, h4, h5, h6⟩ := hcl.ms c m f h
      obtain ⟨hd, rfl⟩ := findD_in e
      refine ⟨C, fa, fd, d.ps, h1, h2, h3, .all h4, arD_ok k _ d e, hS d hd e _ _ fa fd h5, fun g hg => h6 g ?_⟩
      have q := List.all_eq_true.mp hcl.kw d hd
      unfold mkwOk at q
      exact List.contains_iff_mem.mp (List.all_eq_true.mp q g hg)
    · obtain ⟨d, e, C, fa, fd, qual, h1, h2, h3, h4, h5⟩ := hcl.nw c f h
      obtain ⟨hd, rfl⟩ := findD_in e
      exact ⟨C, fa, fd, d.ps, h1, h2, h3, .all h4, arD_ok k _ d e, hS d hd e _ _ fa fd h5⟩
  intro k
  induction k with
  | zero => exact shape 0 fun d hd e x qual fa fd F => fn_st
  | succ k ih =>
    refine shape (k + 1) fun d hd e x qual fa fd F => ?_
    have q := List.all_eq_true.mp hc d hd
    unfold dfOk at q
    rw [Bool.and_eq_true] at q
    have ec : (ops ds (k + 1)).call d.x = fun xs ah => ((den (ops ds k) d.t).x (startA d.N xs) ah).fin := by
      funext xs ah
      show (match findD ds d.x with | some d => semD (ops ds k) d xs ah | none => .st) = _
      rw [e]; rfl
    rw [ec]
    refine FnG.by F (scOk_of q.1) hsm fun cdv A outer s H E c => ?_
    exact (ok_all (nm := nm) (k := k) (tb := tb) (C := ops ds k) d.t).xs _ _ _ ih c ⟨rfl, rfl, rfl⟩ _ q.2
/-- the law's def keeps what it means -/
theorem law_F {ds : List Df} {tb : Tb} {x y : Str} {dl : Df} {fa : Addr} {k : Nat} (hf : tb.fs.all (fun f => (ds.map (·.x)).contains f) = true) (hF : ∀ d ∈ ds, tb.fs.contains d.x = true → DfF K mg d) (hc : ds.all (dfOk tb) = true) (hkw : ds.all (kwOk tb) = true) (hbs : ∀ x, tb.bs.contains x = true → mg x = none) (hcs : ∀ x v, tb.cs.lookup x = some v → glV K mg x v)
    (hxs : ∀ (base : Heap) (c : Str) (fl : List Str), tb.xs.lookup c = some fl → XMk P w K mg base nm c fl ∧ XRd K nm c fl) (hxm : ∀ y c b, tb.xm.contains (y, c, b) = true → XIn K nm mg y c b) (hxc : ∀ c, tb.xc.contains c = true → ∃ D, mg c = some (.ref D)) (hcl : CsOk K nm mg tb ds)
    (hl : findD ds y = some dl) (hp : dl.ps = [x]) (hy : dl.x = y) (hm : dl ∈ ds) (hyf : tb.fs.contains dl.x = true) (hfa : mg y = some (.ref fa)) : ∃ fd : FuncData, (∀ (s : Shared) (u : Value), BindsTo s fd ⟨[u], []⟩ [(x, u)]) ∧
        ∀ base : Heap, K.In base → base.Ns mainGlobals mg → (∃ o es ep, base.get? sysModules = some o ∧ o.data = .dict es ep) → FnG P w K mg base nm (k + 1) fa fd [x] ((ops ds (k + 1)).call y) := by
  obtain ⟨fb, fd, h1, h2, h3, h4, h5⟩ := hF dl hm hyf
  rw [hy, hfa] at h1
  cases h1
  refine ⟨fd, fun s u => .of_eq ?_, fun base _ _ hsm => ?_⟩
  · have := h3 [u] (by rw [hp]; rfl)
    rw [hp] at this
    exact this
  · have ih := ops_ok (P := P) (w := w) (base := base) (nm := nm) hf hF hc hkw hbs hcs hsm (hxs base) hxm hxc hcl k
    have q := List.all_eq_true.mp hc dl hm
    unfold dfOk at q
    rw [Bool.and_eq_true] at q
    have ec : (ops ds (k + 1)).call y = fun xs ah => ((den (ops ds k) dl.t).x (startA dl.N xs) ah).fin := by
      funext xs ah
      show (match findD ds y with | some d => semD (ops ds k) d xs ah | none => .st) = _
      rw [hl]; rfl
    rw [ec, ← hp]
    refine FnG.by h4 (scOk_of q.1) hsm fun cdv A outer s H E c => ?_
    exact (ok_all (nm := nm) (k := k) (tb := tb) (C := ops ds k) dl.t).xs _ _ _ ih c ⟨rfl, rfl, rfl⟩ _ q.2
theorem xs_nil {base : Heap} : ∀ c fl, ([] : List (Str × List Str)).lookup c = some fl → XMk P w K mg base nm c fl ∧ XRd K nm c fl := fun c fl e => by cases e
theorem xs_cons {base : Heap} {y : Str} {u : List Str} {l : List (Str × List Str)} (h : XMk P w K mg base nm y u ∧ XRd K nm y u) (t : ∀ c fl, l.lookup c = some fl → XMk P w K mg base nm c fl ∧ XRd K nm c fl) : ∀ c fl, ((y, u) :: l).lookup c = some fl → XMk P w K mg base nm c fl ∧ XRd K nm c fl := fun c fl e => by
  simp only [List.lookup] at e
  split at e
  · rename_i q
    cases e
    have := beq_iff_eq.mp q
    subst this
    exact h
  · exact t c fl e
theorem xm_of {l : List (Str × Str × Bool)} (h : ∀ q ∈ l, XIn K nm mg q.1 q.2.1 q.2.2) : ∀ y c b, l.contains (y, c, b) = true → XIn K nm mg y c b := fun y c b hq => h _ (List.contains_iff_mem.mp hq)
theorem xc_of {l : List Str} (h : ∀ q ∈ l, ∃ D, mg q = some (.ref D)) : ∀ c, l.contains c = true → ∃ D, mg c = some (.ref D) := fun c hq => h _ (List.contains_iff_mem.mp hq)
/-- class names by the text's own names -/
def nmOf (K : PySem.W.Frag) : Nm := ⟨fun c => match PySem.W.nsIn K mainGlobals c with | some (some (.ref C)) => some C | _ => none⟩
theorem nm_of {c : Str} {C : Addr} (a : PySem.W.nsIn K mainGlobals c = some (some (.ref C))) : (nmOf K).cls c = some C := by
  unfold nmOf
  dsimp only
  rw [a]
def initSt : Stmt → Stmt
  | .ClassDef _ _ _ body _ _ _ _ _ _ _ => body.getD 0 (.Pass ⟨0, 0, 0, 0⟩)
  | s => s
def xparB (K : PySem.W.Frag) (B : Addr) : Bool := PySem.W.readsIn K B (.type "type") && decide (PySem.W.specialIn K (.ref B) "__getattribute__" = some (some (.builtin "type.__getattribute__"))) && (match PySem.W.findCls K (.ref B) (.type "type") "__init__" with | some (.val (.builtin n)) => n == "Exception.__init__" | _ => false)
theorem xpar_of {K : PySem.W.Frag} {B : Addr} (h : xparB K B = true) : XPar K B := by
  unfold xparB at h
  simp only [Bool.and_eq_true, decide_eq_true_eq] at h
  obtain ⟨⟨h1, h2⟩, h3⟩ := h
  refine ⟨h1, h2, ?_⟩
  split at h3
  · rename_i n e
    rw [e, beq_iff_eq.mp h3]
  · cases h3
/-- an error's facts, by its own parts -/
def xAllB (K : PySem.W.Frag) (C B fI : Addr) (fl : List Str) : Bool := xclsB K C && xfB K C && xisB K C && xparB K B && fl.all (fun f => decide (PySem.W.findIn K (.ref C) f = some none)) && decide (PySem.W.typeIn K (.ref fI) = some (.type "function"))
theorem xs_mk {h : Heap} (X : K.In h) (G : h.Ns mainGlobals mg) {c B qual : Str} {fl N : List Str} {C BA fI : Addr} {st : Stmt} {oc : Value} {od an : Option Addr} {osl : Array (Option Value)} {kV doc pm cdv ct : Value}
    (a : PySem.W.nsIn K mainGlobals c = some (some (.ref C))) (b : PySem.W.nsIn K mainGlobals B = some (some (.ref BA))) (i : PySem.W.findIn K (.ref C) "__init__" = some (some (.ref fI)))
    (l : K.lookup fI = some ⟨oc, od, .func (PySem.W.fnOf "__init__" qual (defArgs st) (defBody st) (defScope st) .none kV doc pm an cdv ct), osl⟩) (cc : PySem.W.codeIn K cdv qual = true) (kk : PySem.W.keepIn K (.ref fI) = true) (q : xAllB K C BA fI fl = true)
    (hb : ∀ (kV doc pm : Value) (an : Option Addr) (cdv ct : Value) (us : List Value), us.length = N.length → bindArgs (PySem.W.fnOf "__init__" qual (defArgs st) (defBody st) (defScope st) .none kV doc pm an cdv ct) ⟨us, []⟩ = pure (N.zip us))
    (sc : scOk N N (defScope st) = true) (xb : xBody B N fl (defBody st) = true) (xs : xScope B N (defScope st) = true) (P : Program) (w : World) (base : Heap) : XMk P w K mg base (nmOf K) c fl ∧ XRd K (nmOf K) c fl := by
  unfold xAllB at q
  simp only [Bool.and_eq_true, decide_eq_true_eq, List.all_eq_true] at q
  obtain ⟨⟨⟨⟨⟨q1, q2⟩, q3⟩, q4⟩, q5⟩, q6⟩ := q
  exact ⟨⟨C, nm_of a, PySem.W.mg_of X G a, xcls_of q1, q5, fI, _, N, i, q6, .all fun us hl => hb kV doc pm an cdv ct us hl, x_init (fun_mk (st := st) l cc kk) (scOk_of sc) xb xs (xpar_of q4) (PySem.W.mg_of X G b)⟩, C, nm_of a, xfB_ok q2, xis_of q3, q5⟩
theorem xm_mk {h : Heap} (X : K.In h) (G : h.Ns mainGlobals mg) {y c : Str} {C D : Addr} {b : Bool} (a : PySem.W.nsIn K mainGlobals y = some (some (.ref C))) (d : PySem.W.nsIn K mainGlobals c = some (some (.ref D))) (e : PySem.W.exmOne K (.ref C) (.ref D) = some b) (f : PySem.W.kitOne K (.ref C) (.ref D) = some b) : XIn K (nmOf K) mg y c b :=
  ⟨C, D, nm_of a, PySem.W.mg_of X G d, e, f⟩
def clsB (K : PySem.W.Frag) (C : Addr) (fl : List Str) : Bool := PySem.W.plainGet K C Str.empty && PySem.W.hasDictIn K C && PySem.W.plainOver K C && decide (PySem.W.findIn K (.ref C) "__setattr__" = some (some (.builtin "object.__setattr__"))) && fl.all (fun f => decide (PySem.W.findIn K (.ref C) f = some none))
theorem clsB_ok {C : Addr} {fl : List Str} (q : clsB K C fl = true) : Cls K C ∧ ∀ f ∈ fl, NoAttr K C f := by
  unfold clsB at q
  simp only [Bool.and_eq_true, decide_eq_true_eq, List.all_eq_true] at q
  obtain ⟨⟨⟨⟨q1, q2⟩, q3⟩, q4⟩, q5⟩ := q
  exact ⟨⟨q1, q2, q3, q4⟩, q5⟩
theorem cls_mk {c : Str} {C : Addr} {fl : List Str} (a : PySem.W.nsIn K mainGlobals c = some (some (.ref C))) (q : clsB K C fl = true) : ClsK K (nmOf K) c fl := ⟨C, nm_of a, (clsB_ok q).1, (clsB_ok q).2⟩
theorem md_mk {c m x qual : Str} {st : Stmt} {N ps : List Str} {t : T} {kw : List (Nat × List Str × List Nat)} {C f : Addr} {oc : Value} {od an : Option Addr} {osl : Array (Option Value)} {kV doc pm cdv ct : Value}
    (a : PySem.W.nsIn K mainGlobals c = some (some (.ref C))) (q : clsB K C [] = true) (i : PySem.W.findIn K (.ref C) m = some (some (.ref f))) (fn : PySem.W.isFn K (.ref f) = true)
    (l : K.lookup f = some ⟨oc, od, .func (PySem.W.fnOf m qual (defArgs st) (defBody st) (defScope st) .none kV doc pm an cdv ct), osl⟩) (cc : PySem.W.codeIn K cdv qual = true) (kk : PySem.W.keepIn K (.ref f) = true)
    (hb : ∀ (kV doc pm : Value) (an : Option Addr) (cdv ct : Value) (us : List Value), us.length = ps.length → bindArgs (PySem.W.fnOf m qual (defArgs st) (defBody st) (defScope st) .none kV doc pm an cdv ct) ⟨us, []⟩ = pure (ps.zip us))
    (hk : ∀ (kV doc pm : Value) (an : Option Addr) (cdv ct : Value), ∀ e ∈ kw, ∀ us ws : List Value, us.length = e.1 → ws.length = e.2.1.length → bindArgs (PySem.W.fnOf m qual (defArgs st) (defBody st) (defScope st) .none kV doc pm an cdv ct) ⟨us, e.2.1.zip ws⟩ = pure (ps.zip (us ++ e.2.2.map fun i => ws.getD i .none))) :
    MdF K (nmOf K) c m ⟨x, st, N, ps, t, kw⟩ :=
  ⟨C, f, _, qual, nm_of a, (clsB_ok q).1, ⟨i, fn, kk⟩, fun us hl => hb kV doc pm an cdv ct us hl, fun_mk (st := st) l cc kk, fun e he s us ws _ h1 h2 => .of_eq (hk kV doc pm an cdv ct e he us ws h1 h2)⟩
theorem nw_mk {h : Heap} (X : K.In h) (G : h.Ns mainGlobals mg) {c x qual : Str} {st : Stmt} {N ps : List Str} {t : T} {kw : List (Nat × List Str × List Nat)} {C f : Addr} {oc : Value} {od an : Option Addr} {osl : Array (Option Value)} {kV doc pm cdv ct : Value}
    (a : PySem.W.nsIn K mainGlobals c = some (some (.ref C))) (mk : PySem.W.makesIn K C = true) (i : PySem.W.findIn K (.ref C) "__init__" = some (some (.ref f))) (fn : PySem.W.isFn K (.ref f) = true) (kc : PySem.W.keepIn K (.ref C) = true)
    (l : K.lookup f = some ⟨oc, od, .func (PySem.W.fnOf "__init__" qual (defArgs st) (defBody st) (defScope st) .none kV doc pm an cdv ct), osl⟩) (cc : PySem.W.codeIn K cdv qual = true) (kk : PySem.W.keepIn K (.ref f) = true)
    (hb : ∀ (kV doc pm : Value) (an : Option Addr) (cdv ct : Value) (us : List Value), us.length = ps.length → bindArgs (PySem.W.fnOf "__init__" qual (defArgs st) (defBody st) (defScope st) .none kV doc pm an cdv ct) ⟨us, []⟩ = pure (ps.zip us)) :
    NwF K (nmOf K) mg c ⟨x, st, N, ps, t, kw⟩ :=
  ⟨C, f, _, qual, nm_of a, PySem.W.mg_of X G a, ⟨mk, i, fn, kc⟩, fun us hl => hb kV doc pm an cdv ct us hl, fun_mk (st := st) l cc kk⟩
theorem cl_nil : ∀ c fl, ([] : List (Str × List Str)).lookup c = some fl → ClsK K nm c fl := fun c fl e => by cases e
theorem cl_cons {y : Str} {u : List Str} {l : List (Str × List Str)} (h : ClsK K nm y u) (t : ∀ c fl, l.lookup c = some fl → ClsK K nm c fl) : ∀ c fl, ((y, u) :: l).lookup c = some fl → ClsK K nm c fl := fun c fl e => by
  simp only [List.lookup] at e
  split at e
  · rename_i q
    cases e
    have := beq_iff_eq.mp q
    subst this
    exact h
  · exact t c fl e
theorem ms_of {ds : List Df} {l : List (Str × Str × Str)} (h : ∀ q ∈ l, ∃ d, findD ds q.2.2 = some d ∧ MdF K nm q.1 q.2.1 d) : ∀ c m f, l.contains (c, m, f) = true → ∃ d, findD ds f = some d ∧ MdF K nm c m d := fun c m f hq => h _ (List.contains_iff_mem.mp hq)
theorem nw_of {ds : List Df} {l : List (Str × Str)} (h : ∀ q ∈ l, ∃ d, findD ds q.2 = some d ∧ NwF K nm mg q.1 d) : ∀ c f, l.contains (c, f) = true → ∃ d, findD ds f = some d ∧ NwF K nm mg c d := fun c f hq => h _ (List.contains_iff_mem.mp hq)
theorem xc_mk {h : Heap} (X : K.In h) (G : h.Ns mainGlobals mg) {c : Str} {D : Addr} (d : PySem.W.nsIn K mainGlobals c = some (some (.ref D))) : ∃ D, mg c = some (.ref D) := ⟨D, PySem.W.mg_of X G d⟩
theorem bs_of {l : List Str} (h : ∀ x ∈ l, mg x = none) : ∀ x, l.contains x = true → mg x = none := fun x hx => h x (List.contains_iff_mem.mp hx)
theorem gl_int {x : Str} {n : Int} {t : Nat} {h : Heap} (X : K.In h) (G : h.Ns mainGlobals mg) (e : PySem.W.nsIn K mainGlobals x = some (some (.int n t))) : glV K mg x (.int n) := ⟨_, PySem.W.mg_of X G e, .int n, ⟨_, rfl⟩, fun _ => .int n⟩
theorem gl_str {x : Str} {n : Str} {t : Nat} {h : Heap} (X : K.In h) (G : h.Ns mainGlobals mg) (e : PySem.W.nsIn K mainGlobals x = some (some (.str n t))) : glV K mg x (.str n) := ⟨_, PySem.W.mg_of X G e, .str n, ⟨_, rfl⟩, fun _ => .str n⟩
theorem cs_nil : ∀ x v, ([] : List (Str × AV)).lookup x = some v → glV K mg x v := fun x v e => by cases e
theorem cs_cons {y : Str} {u : AV} {l : List (Str × AV)} (h : glV K mg y u) (t : ∀ x v, l.lookup x = some v → glV K mg x v) : ∀ x v, ((y, u) :: l).lookup x = some v → glV K mg x v := fun x v e => by
  simp only [List.lookup] at e
  split at e
  · rename_i q
    cases e
    have := beq_iff_eq.mp q
    subst this
    exact h
  · exact t x v e
/-! ### the law's call -/
def noLists (K : PySem.W.Frag) : Bool := K.all fun p => match p.2.cls with | .type c => c != "list" | _ => true
theorem noLists_of {a : Addr} {o : Obj} : ∀ {K : PySem.W.Frag}, noLists K = true → K.lookup a = some o → o.cls ≠ .type "list"
  | [], _, e => by cases e
  | (b, u) :: r, h, e => by
    unfold noLists at h
    rw [List.all_cons, Bool.and_eq_true] at h
    simp only [List.lookup] at e
    split at e
    · cases e
      intro z
      have h := h.1
      simp only [z] at h
      exact absurd h (by decide)
    · exact noLists_of (K := r) h.2 e
theorem rvs_ints {W : Wd} : ∀ ns : List Int, W.RVs K (ns.map AV.int) (ns.map V.int)
  | [] => .nil
  | n :: r => .cons (.int n) (rvs_ints r)
open PySem.Spec PyProof.Rows in
theorem law_callG {mb : Str → Option Value} {k : Nat} {fa a : Addr} {fd : FuncData} {x : Str} {sem : List AV → AH → Ot AV} {s₁ : Shared} {vs : List Value} {ns : List Int}
    (KX : K.In s₁.heap) (nl : noLists K = true) (sy : ∃ o es ep, s₁.heap.get? sysModules = some o ∧ o.data = .dict es ep) (hns : s₁.heap.Ns mainGlobals mg) (hb : s₁.heap.Ns builtinsNs mb) (hbb : ∀ x : Str, x ≠ "__name__" → mb x = bootBuiltins x) (hlim : s₁.heap.NoLimit) (hg : s₁.gens = #[])
    (ha : s₁.heap.get? a = some { cls := .type "list", data := .seq vs.toArray }) (hi : IntsAre vs ns) (hl : ns.length ≤ sizeLine) (hr : Room (rm k + 1) callerA)
    (F : ∀ base : Heap, K.In base → base.Ns mainGlobals mg → (∃ o es ep, base.get? sysModules = some o ∧ o.data = .dict es ep) → FnG P w K mg base nm k fa fd [x] sem) (hbind : ∀ (s : Shared) (u : Value), BindsTo s fd ⟨[u], []⟩ [(x, u)])
    (hsem : ∃ ah', sem [.lst (ns.map .int)] [] = .ok (.bl true) ah') :
    codeAny (model P w) callerA (.call (.ref fa) ⟨[.ref a], []⟩) (fun r s' => r = .ok (.ret (.bool true)) ∧ OldK s₁.heap s'.heap ∧ s'.os = s₁.os ∧ AllBare s'.gens) s₁ := by
  have rv := vals_ints hi
  have lenV := hi.length
  have hk : K.lookup a = none := by
    cases e : K.lookup a with
    | none => rfl
    | some o =>
      have := KX a o e
      rw [ha] at this
      cases this
      exact absurd rfl (noLists_of nl e)
  obtain ⟨H, hH⟩ : ∃ H : Hp, H = fun b => if b = a then some (.frz { cls := .type "list", data := .seq vs.toArray } (.lst (ns.map V.int))) else none := ⟨_, rfl⟩
  have Ha : H a = some (.frz { cls := .type "list", data := .seq vs.toArray } (.lst (ns.map V.int))) := by rw [hH]; exact if_pos rfl
  have Hn : ∀ b, b ≠ a → H b = none := fun b hb => by rw [hH]; exact if_neg hb
  have Ho : ∀ b, H b ≠ none → b = a := fun b z => Decidable.byContradiction fun n => z (Hn b n)
  have hok : HOk P w H s₁.heap := fun b u z => by
    have e := Ho b (by rw [z]; simp)
    subst e
    rw [Ha] at z
    cases z
    exact ⟨ha, by rw [List.length_map]; exact hl, vs, _, rv, ha⟩
  have base_of : ∀ {b : Addr} {o : Obj}, s₁.heap.get? b = some o → H b = none → (hidT s₁.heap H).get? b = some o := fun e n => hidT_get e n
  have noA : ∀ {b : Addr} {o : Obj} {es : Array DictEntry} {ep : Nat}, s₁.heap.get? b = some o → o.data = .dict es ep → H b = none := fun {b o es ep} e d => by
    refine Hn b fun z => ?_
    subst z
    rw [ha] at e
    cases e
    cases d
  have nsK : ∀ {b : Addr} {m : Str → Option Value}, s₁.heap.Ns b m → (hidT s₁.heap H).Ns b m := fun {b m} ⟨o, es, ep, e, d, r⟩ => ⟨o, es, ep, base_of e (noA e d), d, r⟩
  have hKb : K.In (hidT s₁.heap H) := fun b o e => base_of (KX b o e) (Hn b fun z => by subst z; rw [hk] at e; cases e)
  have hM : Mod K mg (hidT s₁.heap H) := ⟨hKb, nsK hns, ⟨mb, nsK hb, hbb⟩, let ⟨mc, h1, h2⟩ := hlim; ⟨mc, nsK h1, h2⟩⟩
  have e0 : Env0 P w K mg (hidT s₁.heap H) callerA [] s₁ H := ⟨rfl, hM, fun b o e => of_hidT e, Nat.le_of_eq (hidT_size _ _), trivial, fun b hb => absurd (show b ∈ ([] : List Addr) from hb) (by simp), hok, .of_eq hg⟩
  have sy' : ∃ o es ep, (hidT s₁.heap H).get? sysModules = some o ∧ o.data = .dict es ep := let ⟨o, es, ep, e, d⟩ := sy; ⟨o, es, ep, base_of e (noA e d), d⟩
  have G := F _ hKb (nsK hns) sy'
  have R : RelH K nm ⟨H, []⟩ [] H := ⟨fun b o e => e, rfl, List.nodup_nil, fun b m => absurd m (by simp), fun i b o e => by simp at e⟩
  have rl : Wd.RV ⟨H, []⟩ K (.lst (ns.map .int)) (.ref a) := .lst (.inr ⟨_, Ha⟩) (rvs_ints (W := ⟨H, []⟩) ns)
  obtain ⟨ah', es⟩ := hsem
  refine codeAny_mono (G.run callerA [] s₁ H ⟨[.ref a], []⟩ [.ref a] [.ref a] ⟨H, []⟩ [.lst (ns.map .int)] [] (fun v _ => v = .bl true) (fun _ _ _ => False) hr rfl e0 (hbind s₁ (.ref a)) (.cons rfl .nil) R (.cons rl .nil) rfl (by
    rw [es]
    intro W' H' st R' w r
    cases r
    rfl)) fun r s' h => ?_
  cases r with
  | error e =>
    obtain ⟨_, _, _, _, _, _, _, _, _, _, _, _, z⟩ := (show L2.CX P w [] H s₁ (fun _ _ _ => False) e s' from h)
    exact z.elim
  | ok fl =>
    cases fl with
    | next => exact False.elim h
    | brk => exact False.elim h
    | cont => exact False.elim h
    | ret u =>
      obtain ⟨v, H', os, bare, un, hok', r', q⟩ := h
      have q' : v = .bl true := q
      subst q'
      obtain rfl : u = Value.bool true := r'
      refine ⟨rfl, OldK.of_keep fun b o e => ?_, os, bare⟩
      by_cases hb : b = a
      · subst hb
        have z2 := un.frzs b _ _ Ha
        obtain ⟨e2, _⟩ := hok' b _ z2
        rw [ha] at e
        cases e
        exact e2
      · exact un.keep b o e (Hn b hb) (by intro z; exact absurd (show b ∈ ([] : List Addr) from z) (by simp)) (by simp)
end
open PySem.Spec PyProof.Rows in
/-- the goal that the head leaves, from the law's meaning -/
theorem walkG {l : PySem.W.OpenLaw} {n k : Nat} {q : Program} {loose : List Str} {XP : (Str → Option Value) → Heap → Prop} {YP : World → Heap → Prop} {d : DefRec} {K : Params → PySem.W.Frag} {x : Str} {sem : List AV → AH → Ot AV}
    (hn : l.most = some n) (hn2 : n ≤ sizeLine) (hdf : d.params.defaults = []) (hr : Room (rm k + 1) callerA) (hq : importsNone q = true)
    (hY : ∀ (w : World) (h : Heap), YP w h → (K w.params).In h) (nl : ∀ w : World, noLists (K w.params) = true)
    (F : ∀ (w : World) (mg : Str → Option Value) (fa : Addr) (h : Heap), (K w.params).In h → h.Ns mainGlobals mg → mg d.name = some (.ref fa) →
      ∃ fd : FuncData, (∀ (s : Shared) (u : Value), BindsTo s fd ⟨[u], []⟩ [(x, u)]) ∧
        ∀ base : Heap, (K w.params).In base → base.Ns mainGlobals mg → (∃ o es ep, base.get? sysModules = some o ∧ o.data = .dict es ep) → FnG l.prog w (K w.params) mg base (nmOf (K w.params)) k fa fd [x] sem)
    (hsem : ∀ ns : List Int, ns.length ≤ n → ∃ ah', sem [.lst (ns.map .int)] [] = .ok (.bl true) ah') :
    PySem.W.WalkO q loose XP YP l.row.toRowW d [] (fun f vs => PySem.call f vs) := by
  refine Att.attach_call hn hdf fun w s₀ s₁ mg mb fa o pm cd doc a vs ns G Y ho hd hcd hmg hobj hints hlen hg => ?_
  have KX := hY w _ Y
  obtain ⟨fd, hb, hF⟩ := F w mg fa _ KX G.T.g hmg
  obtain ⟨mm, ⟨o, es, ep, e1, e2, _⟩, _⟩ := (G.T.seer hq).mods
  exact law_callG KX (nl w) ⟨o, es, ep, e1, e2⟩ G.T.g G.T.b G.T.builtins G.T.nolimit hg hobj hints (Nat.le_trans hlen hn2) hr hF hb (hsem ns hlen)
end Ko

/-! Ko, part R: plain words: what an outcome must be. -/
namespace Ko
open PySem L2
def Yes {α : Type} (r : Ot α) (P : α → AH → Prop) : Prop := match r with | .ok a ah => P a ah | _ => False
theorem Yes.imp {α : Type} {r : Ot α} {P Q : α → AH → Prop} (h : Yes r P) (f : ∀ a ah, P a ah → Q a ah) : Yes r Q := by
  cases r with
  | ok a ah => exact f a ah h
  | _ => exact h
@[simp] theorem Yes.ok {α : Type} {a : α} {ah : AH} {P : α → AH → Prop} : Yes (.ok a ah) P ↔ P a ah := Iff.rfl
theorem Yes.bind {α β : Type} {r : Ot α} {f : α → AH → Ot β} {P : β → AH → Prop} : Yes (r.bind f) P ↔ Yes r fun a ah => Yes (f a ah) P := by
  cases r <;> exact Iff.rfl
theorem Yes.eq {α : Type} {r : Ot α} {P : α → AH → Prop} (h : Yes r P) : ∃ a ah, r = .ok a ah ∧ P a ah := by
  cases r with
  | ok a ah => exact ⟨a, ah, rfl, h⟩
  | ex => exact False.elim h
  | st => exact False.elim h
/-- a body's end -/
def YesS (r : SR) (N : Rho → AH → Prop) (R : AV → AH → Prop) : Prop := match r with | .nx ρ ah => N ρ ah | .rt v ah => R v ah | _ => False
theorem YesS.imp {r : SR} {N N' : Rho → AH → Prop} {R R' : AV → AH → Prop} (h : YesS r N R) (n : ∀ ρ ah, N ρ ah → N' ρ ah) (f : ∀ a ah, R a ah → R' a ah) : YesS r N' R' := by
  cases r with
  | nx a ah => exact n a ah h
  | rt a ah => exact f a ah h
  | _ => exact h
theorem YesS.to {α : Type} {r : Ot α} {ρ : Rho} {k : α → AH → SR} {N : Rho → AH → Prop} {R : AV → AH → Prop} : YesS (r.to ρ k) N R ↔ Yes r fun a ah => YesS (k a ah) N R := by
  cases r <;> exact Iff.rfl
theorem YesS.seq {f g : Rho → AH → SR} {ρ : Rho} {ah : AH} {N : Rho → AH → Prop} {R : AV → AH → Prop} : YesS (seqF f g ρ ah) N R ↔ YesS (f ρ ah) (fun ρ ah => YesS (g ρ ah) N R) R := by
  unfold seqF
  cases f ρ ah <;> exact Iff.rfl
theorem YesS.nil {ρ : Rho} {ah : AH} {N : Rho → AH → Prop} {R : AV → AH → Prop} : YesS (nilF ρ ah) N R ↔ N ρ ah := Iff.rfl
theorem YesS.ret {a : Rho → AH → Ot AV} {ρ : Rho} {ah : AH} {N : Rho → AH → Prop} {R : AV → AH → Prop} : YesS (retF a ρ ah) N R ↔ Yes (a ρ ah) R := by
  unfold retF; cases a ρ ah <;> exact Iff.rfl
theorem YesS.ifS {c : Rho → AH → Ot Bool} {f g : Rho → AH → SR} {ρ : Rho} {ah : AH} {N : Rho → AH → Prop} {R : AV → AH → Prop} : YesS (ifS c f g ρ ah) N R ↔ Yes (c ρ ah) fun b ah => YesS (if b = true then f ρ ah else g ρ ah) N R := YesS.to
theorem YesS.asg {t : TP} {a : Rho → AH → Ot AV} {ρ : Rho} {ah : AH} {N : Rho → AH → Prop} {R : AV → AH → Prop} : YesS (asgF t a ρ ah) N R ↔ Yes (a ρ ah) fun v ah => match t.put v ah ρ with | some ρ1 => N ρ1 ah | none => False := by
  unfold asgF
  cases a ρ ah with
  | ok v ah =>
    show YesS (match t.put v ah ρ with | some ρ1 => SR.nx ρ1 ah | none => SR.st) N R ↔ (match t.put v ah ρ with | some ρ1 => N ρ1 ah | none => False)
    cases t.put v ah ρ <;> exact Iff.rfl
  | _ => exact Iff.rfl
theorem YesS.fin {r : SR} {P : AV → AH → Prop} : Yes r.fin P ↔ YesS r (fun _ ah => P .non ah) P := by cases r <;> exact Iff.rfl
theorem yes_of {α : Type} {o : Option α} {ah : AH} {P : α → AH → Prop} : Yes (Ot.of o ah) P ↔ ∃ a, o = some a ∧ P a ah := by
  cases o with
  | none => exact ⟨False.elim, fun ⟨_, e, _⟩ => by cases e⟩
  | some a => exact ⟨fun h => ⟨a, rfl, h⟩, fun ⟨_, e, h⟩ => by cases e; exact h⟩
theorem yes_ite {α : Type} {c : Prop} [Decidable c] {a b : Ot α} {P : α → AH → Prop} : Yes (if c then a else b) P ↔ (c → Yes a P) ∧ (¬ c → Yes b P) := by
  by_cases h : c
  · rw [if_pos h]; exact ⟨fun x => ⟨fun _ => x, fun n => absurd h n⟩, fun x => x.1 h⟩
  · rw [if_neg h]; exact ⟨fun x => ⟨fun n => absurd n h, fun _ => x⟩, fun x => x.2 h⟩
/-! loops -/
theorem forV_ok {t : TP} {body : Rho → AH → SR} {R : AV → AH → Prop} {N : Rho → AH → Prop} (I : List AV → Rho → AH → Prop) : ∀ (xs : List AV) (ρ : Rho) (ah : AH), I xs ρ ah → (∀ ρ ah, I [] ρ ah → N ρ ah) →
    (∀ x xs ρ ah, I (x :: xs) ρ ah → ∃ ρ1, t.put x ah ρ = some ρ1 ∧ match body ρ1 ah with | .nx ρ ah => I xs ρ ah | .ct ρ ah => I xs ρ ah | .bk ρ ah => N ρ ah | .rt v ah => R v ah | _ => False) → YesS (forV always t body xs ρ ah) N R
  | [], ρ, ah, h, hn, _ => hn ρ ah h
  | x :: xs, ρ, ah, h, hn, hs => by
    obtain ⟨ρ1, e, q⟩ := hs x xs ρ ah h
    unfold forV
    rw [if_pos (show always ah = true from rfl), e]
    dsimp only
    cases eb : body ρ1 ah with
    | nx ρ2 ah2 => rw [eb] at q; exact forV_ok I xs ρ2 ah2 q hn hs
    | ct ρ2 ah2 => rw [eb] at q; exact forV_ok I xs ρ2 ah2 q hn hs
    | bk ρ2 ah2 => rw [eb] at q; exact q
    | rt v ah2 => rw [eb] at q; exact q
    | ex x ρ2 ah2 => rw [eb] at q; exact q
    | st => rw [eb] at q; exact q
theorem forV_ok' {t : TP} {body : Rho → AH → SR} {R : AV → AH → Prop} {N : Rho → AH → Prop} (I : List AV → Rho → AH → Prop) (xs : List AV) (ρ : Rho) (ah : AH) (h : I xs ρ ah) (hn : ∀ ρ ah, I [] ρ ah → N ρ ah)
    (hs : ∀ x xs ρ ah, I (x :: xs) ρ ah → ∃ ρ1, t.put x ah ρ = some ρ1 ∧ YesS (body ρ1 ah) (fun ρ ah => I xs ρ ah) R) : YesS (forV always t body xs ρ ah) N R :=
  forV_ok I xs ρ ah h hn fun x xs ρ ah h => by
    obtain ⟨ρ1, e, q⟩ := hs x xs ρ ah h
    refine ⟨ρ1, e, ?_⟩
    cases eb : body ρ1 ah with
    | nx ρ2 ah2 => rw [eb] at q; exact q
    | rt v ah2 => rw [eb] at q; exact q
    | ct ρ2 ah2 => rw [eb] at q; exact q.elim
    | bk ρ2 ah2 => rw [eb] at q; exact q.elim
    | ex x ρ2 ah2 => rw [eb] at q; exact q.elim
    | st => rw [eb] at q; exact q.elim
theorem compV_ok {t : TP} {vs : List Nat} {c : Rho → AH → Ot Bool} {e : Rho → AH → Ot AV} {ρ : Rho} {P : AV → AH → Prop} (I : List AV → List AV → AH → Prop) : ∀ (xs acc : List AV) (ah : AH), I xs acc ah → (∀ acc ah, I [] acc ah → P (.lst acc) ah) →
    (∀ x xs acc ah, I (x :: xs) acc ah → ∃ ρ1, t.put x ah (wipeA ρ vs) = some ρ1 ∧ Yes (c ρ1 ah) fun b ah1 => if b = true then Yes (e ρ1 ah1) fun y ah2 => acc.length < sizeLine ∧ I xs (acc ++ [y]) ah2 else I xs acc ah1) → Yes (compV always t vs c e ρ acc xs ah) P
  | [], acc, ah, h, hn, _ => by
    unfold compV
    rw [if_pos (show always ah = true from rfl)]
    exact hn acc ah h
  | x :: xs, acc, ah, h, hn, hs => by
    obtain ⟨ρ1, e1, q⟩ := hs x xs acc ah h
    unfold compV
    rw [if_pos (show always ah = true from rfl), e1]
    obtain ⟨b, ah1, e2, q⟩ := q.eq
    show Yes (((c ρ1 ah).calm).bind _) P
    rw [e2]
    show Yes (if b = true then _ else _) P
    cases b with
    | false => rw [if_neg Bool.false_ne_true]; rw [if_neg Bool.false_ne_true] at q; exact compV_ok I xs acc ah1 q hn hs
    | true =>
      rw [if_pos rfl]; rw [if_pos rfl] at q
      obtain ⟨y, ah2, e3, q1, q2⟩ := q.eq
      rw [e3]
      show Yes (if acc.length < sizeLine then _ else _) P
      rw [if_pos q1]
      exact compV_ok I xs (acc ++ [y]) ah2 q2 hn hs
/-- a call -/
def cl (ds : List Df) (k : Nat) (f : Str) : List AV → AH → Ot AV := (ops ds k).call f
theorem cl_eq {ds : List Df} {k : Nat} {f : Str} {d : Df} (h : findD ds f = some d) : cl ds (k + 1) f = semD (ops ds k) d := by
  funext xs ah
  show (match findD ds f with | some d => semD (ops ds k) d xs ah | none => .st) = _
  rw [h]
end Ko

/-! Ko, part S: what each tree must do, in plain words. -/
namespace Ko
open PySem L2
section
variable {α : Type} {ρ : Rho} {ah : AH} {P : AV → AH → Prop}
abbrev TA' := Rho → AH → Ot AV
theorem y_c {v : AV} : Yes (cF v ρ ah) P ↔ P v ah := Iff.rfl
theorem y_v {i : Nat} : Yes (vF i ρ ah) P ↔ match ρ[i]? with | some (some v) => P v ah | _ => False := by
  unfold vF
  cases h : ρ[i]? with
  | none => exact Iff.rfl
  | some o => cases o <;> exact Iff.rfl
theorem y_f2 {g : AH → AV → AV → Option AV} {a b : Rho → AH → Ot AV} : Yes (f2 g a b ρ ah) P ↔ Yes (a ρ ah) fun x ah1 => Yes (b ρ ah1) fun y ah2 => ∃ c, g ah2 x y = some c ∧ P c ah2 := by
  unfold f2; simp only [Yes.bind, yes_of]
theorem y_f1 {g : AH → AV → Option AV} {a : Rho → AH → Ot AV} : Yes (f1 g a ρ ah) P ↔ Yes (a ρ ah) fun x ah1 => ∃ c, g ah1 x = some c ∧ P c ah1 := by
  unfold f1; simp only [Yes.bind, yes_of]
theorem y_fA {g : AH → List AV → Option AV} {a : Rho → AH → Ot (List AV)} : Yes (fA g a ρ ah) P ↔ Yes (a ρ ah) fun x ah1 => ∃ c, g ah1 x = some c ∧ P c ah1 := by
  unfold fA; simp only [Yes.bind, yes_of]
theorem y_nil {P : List AV → AH → Prop} : Yes (aNil ρ ah) P ↔ P [] ah := Iff.rfl
theorem y_cons {P : List AV → AH → Prop} {a : Rho → AH → Ot AV} {b : Rho → AH → Ot (List AV)} : Yes (aCons a b ρ ah) P ↔ Yes (a ρ ah) fun x ah1 => Yes (b ρ ah1) fun xs ah2 => P (x :: xs) ah2 := by
  unfold aCons; simp only [Yes.bind, Yes.ok]
theorem y_tup {a : Rho → AH → Ot (List AV)} : Yes (tupF a ρ ah) P ↔ Yes (a ρ ah) fun xs ah1 => xs.length ≤ sizeLine ∧ P (.tup xs) ah1 := by
  unfold tupF; simp only [Yes.bind]
  constructor <;> intro h <;> refine h.imp fun xs ah q => ?_
  · split at q
    · rename_i z; exact ⟨z, q⟩
    · exact q.elim
  · rw [if_pos q.1]; exact q.2
theorem y_lst {a : Rho → AH → Ot (List AV)} : Yes (lstF a ρ ah) P ↔ Yes (a ρ ah) fun xs ah1 => xs.length ≤ sizeLine ∧ P (.lst xs) ah1 := by
  unfold lstF; simp only [Yes.bind]
  constructor <;> intro h <;> refine h.imp fun xs ah q => ?_
  · split at q
    · rename_i z; exact ⟨z, q⟩
    · exact q.elim
  · rw [if_pos q.1]; exact q.2
theorem y_lstM {a : Rho → AH → Ot (List AV)} : Yes (lstM a ρ ah) P ↔ Yes (a ρ ah) fun xs ah1 => xs.length ≤ sizeLine ∧ P (.ref ah1.length) (ah1 ++ [.lst xs]) := by
  unfold lstM; simp only [Yes.bind]
  constructor <;> intro h <;> refine h.imp fun xs ah q => ?_
  · split at q
    · rename_i z; exact ⟨z, q⟩
    · exact q.elim
  · rw [if_pos q.1]; exact q.2
theorem y_dic0 : Yes (dic0F ρ ah) P ↔ P (.dct []) ah := Iff.rfl
theorem y_tF {P : Bool → AH → Prop} {a : Rho → AH → Ot AV} : Yes (tF a ρ ah) P ↔ Yes (a ρ ah) fun x ah1 => ∃ c, truF ah1 x = some c ∧ P c ah1 := by
  unfold tF; simp only [Yes.bind, yes_of]
theorem y_bF {P : Bool → AH → Prop} {a : Rho → AH → Ot AV} : Yes (bF a ρ ah) P ↔ Yes (a ρ ah) fun x ah1 => ∃ c, asB (some x) = some c ∧ P c ah1 := by
  unfold bF; simp only [Yes.bind, yes_of]
theorem y_tAnd {P : Bool → AH → Prop} {a b : Rho → AH → Ot Bool} : Yes (tAndF a b ρ ah) P ↔ Yes (a ρ ah) fun x ah1 => if x = true then Yes (b ρ ah1) P else P false ah1 := by
  unfold tAndF; simp only [Yes.bind]
  constructor <;> intro h <;> refine h.imp fun x ah q => ?_ <;> cases x <;> exact q
theorem y_tOr {P : Bool → AH → Prop} {a b : Rho → AH → Ot Bool} : Yes (tOrF a b ρ ah) P ↔ Yes (a ρ ah) fun x ah1 => if x = true then P true ah1 else Yes (b ρ ah1) P := by
  unfold tOrF; simp only [Yes.bind]
  constructor <;> intro h <;> refine h.imp fun x ah q => ?_ <;> cases x <;> exact q
theorem y_tNot {P : Bool → AH → Prop} {a : Rho → AH → Ot Bool} : Yes (tNotF a ρ ah) P ↔ Yes (a ρ ah) fun x ah1 => P (!x) ah1 := by
  unfold tNotF; simp only [Yes.bind, Yes.ok]
theorem y_not {a : Rho → AH → Ot AV} : Yes (notF a ρ ah) P ↔ Yes (a ρ ah) fun x ah1 => ∃ c, truF ah1 x = some c ∧ P (.bl !c) ah1 := by
  unfold notF; rw [y_f1]
  constructor <;> intro h <;> refine h.imp fun x ah q => ?_
  · obtain ⟨c, e, q⟩ := q
    simp only [Option.map_eq_some_iff] at e
    obtain ⟨b, e1, rfl⟩ := e
    exact ⟨b, e1, q⟩
  · obtain ⟨c, e, q⟩ := q
    exact ⟨_, by rw [e]; rfl, q⟩
theorem y_and {a b : Rho → AH → Ot AV} : Yes (andF a b ρ ah) P ↔ Yes (a ρ ah) fun x ah1 => ∃ c, truF ah1 x = some c ∧ if c = true then Yes (b ρ ah1) P else P x ah1 := by
  unfold andF; simp only [Yes.bind]
  constructor <;> intro h <;> refine h.imp fun x ah q => ?_
  · cases e : truF ah x with
    | none => rw [e] at q; exact q.elim
    | some c => rw [e] at q; cases c <;> exact ⟨_, rfl, q⟩
  · obtain ⟨c, e, q⟩ := q
    rw [e]; cases c <;> exact q
theorem y_or {a b : Rho → AH → Ot AV} : Yes (orF a b ρ ah) P ↔ Yes (a ρ ah) fun x ah1 => ∃ c, truF ah1 x = some c ∧ if c = true then P x ah1 else Yes (b ρ ah1) P := by
  unfold orF; simp only [Yes.bind]
  constructor <;> intro h <;> refine h.imp fun x ah q => ?_
  · cases e : truF ah x with
    | none => rw [e] at q; exact q.elim
    | some c => rw [e] at q; cases c <;> exact ⟨_, rfl, q⟩
  · obtain ⟨c, e, q⟩ := q
    rw [e]; cases c <;> exact q
theorem y_if {t : Rho → AH → Ot Bool} {a b : Rho → AH → Ot AV} : Yes (ifF t a b ρ ah) P ↔ Yes (t ρ ah) fun x ah1 => if x = true then Yes (a ρ ah1) P else Yes (b ρ ah1) P := by
  unfold ifF; simp only [Yes.bind]
  constructor <;> intro h <;> refine h.imp fun x ah q => ?_ <;> cases x <;> exact q
theorem y_call {sem : List AV → AH → Ot AV} {n : Nat} {a : Rho → AH → Ot (List AV)} : Yes (callF sem n a ρ ah) P ↔ Yes (a ρ ah) fun xs ah1 => xs.length = n ∧ Yes (sem xs ah1) P := by
  unfold callF; simp only [Yes.bind]
  constructor <;> intro h <;> refine h.imp fun x ah q => ?_
  · split at q
    · rename_i z; exact ⟨z, q⟩
    · exact q.elim
  · rw [if_pos q.1]; exact q.2
theorem y_kw {P : List AV → AH → Prop} {a b : Rho → AH → Ot (List AV)} {np nk : Nat} {perm : List Nat} : Yes (kwF a b np nk perm ρ ah) P ↔ Yes (a ρ ah) fun xs ah1 => Yes (b ρ ah1) fun ys ah2 => (xs.length = np ∧ ys.length = nk) ∧ P (xs ++ perm.map fun i => ys.getD i .non) ah2 := by
  unfold kwF; simp only [Yes.bind]
  constructor <;> intro h <;> refine h.imp fun x ah q => q.imp fun y ah q => ?_
  · split at q
    · rename_i z; exact ⟨z, q⟩
    · exact q.elim
  · rw [if_pos q.1]; exact q.2
theorem y_chain {g g' : AH → AV → AV → Option AV} {a b c : Rho → AH → Ot AV} : Yes (fChain g g' a b c ρ ah) P ↔ Yes (a ρ ah) fun x ah1 => Yes (b ρ ah1) fun y ah2 => ∃ d, asB (g ah2 x y) = some d ∧ if d = true then Yes (c ρ ah2) fun z ah3 => ∃ r, g' ah3 y z = some r ∧ P r ah3 else P (.bl false) ah2 := by
  unfold fChain; simp only [Yes.bind]
  constructor <;> intro h <;> refine h.imp fun x ah q => q.imp fun y ah q => ?_
  · cases e : asB (g ah x y) with
    | none => rw [e] at q; exact q.elim
    | some d =>
      rw [e] at q
      cases d
      · exact ⟨_, rfl, q⟩
      · refine ⟨_, rfl, ?_⟩
        simp only [Yes.bind, yes_of] at q
        exact q
  · obtain ⟨d, e, q⟩ := q
    rw [e]
    cases d
    · exact q
    · simp only [Yes.bind, yes_of]; exact q
theorem y_slc {a : Rho → AH → Ot AV} {lo hi : Rho → AH → Ot (Option Int)} : Yes (slcF a lo hi ρ ah) P ↔ Yes (a ρ ah) fun x ah1 => Yes (lo ρ ah1) fun l ah2 => Yes (hi ρ ah2) fun h ah3 => ∃ c, slF ah3 x l h = some c ∧ P c ah3 := by
  unfold slcF; simp only [Yes.bind, yes_of]
theorem y_pN {P : Option Int → AH → Prop} : Yes (pNone ρ ah) P ↔ P none ah := Iff.rfl
theorem y_pS {P : Option Int → AH → Prop} {a : Rho → AH → Ot AV} : Yes (pSome a ρ ah) P ↔ Yes (a ρ ah) fun x ah1 => ∃ i, asI x = some i ∧ P (some i) ah1 := by
  unfold pSome; simp only [Yes.bind]
  constructor <;> intro h <;> refine h.imp fun x ah q => ?_
  · cases e : asI x with
    | none => rw [e] at q; exact q.elim
    | some d => rw [e] at q; exact ⟨_, rfl, q⟩
  · obtain ⟨d, e, q⟩ := q
    rw [e]; exact q
theorem y_isi {ts : List Ty} {a : Rho → AH → Ot AV} : Yes (isiF ts a ρ ah) P ↔ Yes (a ρ ah) fun x ah1 => ∃ t, tyA ah1 x = some t ∧ P (.bl (ts.any (isTy t))) ah1 := by
  unfold isiF; rw [y_f1]
  constructor <;> intro h <;> refine h.imp fun x ah q => ?_
  · obtain ⟨c, e, q⟩ := q
    simp only [Option.map_eq_some_iff] at e
    obtain ⟨b, e1, rfl⟩ := e
    exact ⟨b, e1, q⟩
  · obtain ⟨c, e, q⟩ := q
    exact ⟨_, by rw [e]; rfl, q⟩
theorem y_ms {m : MI} {o : Rho → AH → Ot AV} {a : Rho → AH → Ot (List AV)} : Yes (msF m o a ρ ah) P ↔ Yes (o ρ ah) fun x ah1 => isStr x = true ∧ Yes (a ρ ah1) fun xs ah2 => ∃ c, miF m ah2 x xs = some c ∧ P c ah2 := by
  unfold msF; simp only [Yes.bind]
  constructor <;> intro h <;> refine h.imp fun x ah q => ?_
  · split at q
    · rename_i z; simp only [Yes.bind, yes_of] at q; exact ⟨z, q⟩
    · exact q.elim
  · rw [if_pos q.1]; simp only [Yes.bind, yes_of]; exact q.2
theorem y_src {P : Sr → AH → Prop} {a : Rho → AH → Ot AV} : Yes (srcF a ρ ah) P ↔ Yes (a ρ ah) fun x ah1 => ∃ c, seqSrc ah1 x = some c ∧ P c ah1 := by
  unfold srcF; simp only [Yes.bind, yes_of]
theorem y_rng1 {P : Sr → AH → Prop} {a : Rho → AH → Ot AV} : Yes (rngF1 a ρ ah) P ↔ Yes (a ρ ah) fun x ah1 => ∃ c, rngSrc1 x = some c ∧ P c ah1 := by
  unfold rngF1; simp only [Yes.bind, yes_of]
theorem y_comp {src : Rho → AH → Ot Sr} {t : TP} {vs : List Nat} {c : Rho → AH → Ot Bool} {e : Rho → AH → Ot AV} : Yes (compF src t vs c e ρ ah) P ↔ Yes (src ρ ah) fun sr ah1 => Yes (compV sr.g t vs c e ρ [] sr.xs ah1) P := by
  unfold compF; simp only [Yes.bind]
theorem y_yes {P : Bool → AH → Prop} : Yes (yesF ρ ah) P ↔ P true ah := Iff.rfl
variable {N : Rho → AH → Prop}
theorem s_exp {a : Rho → AH → Ot AV} : YesS (expF a ρ ah) N P ↔ Yes (a ρ ah) fun _ ah1 => N ρ ah1 := by
  unfold expF; rw [YesS.to]; exact Iff.rfl
theorem s_par2 {i j : Nat} {a : Rho → AH → Ot (List AV)} : YesS (parF2 i j a ρ ah) N P ↔ Yes (a ρ ah) fun xs ah1 => match xs with | [x, y] => N ((ρ.set i (some x)).set j (some y)) ah1 | _ => False := by
  unfold parF2; rw [YesS.to]
  constructor <;> intro h <;> refine h.imp fun xs ah q => ?_
  · split at q
    · exact q
    · exact q.elim
  · split at q
    · exact q
    · exact q.elim
theorem s_sub {o i a : Rho → AH → Ot AV} : YesS (subF' o i a ρ ah) N P ↔ Yes (a ρ ah) fun v ah1 => Yes (o ρ ah1) fun x ah2 => Yes (i ρ ah2) fun y ah3 => ∃ ah4, lstPut ah3 x y v = some ah4 ∧ N ρ ah4 := by
  unfold subF'; simp only [YesS.to]
  constructor <;> intro h <;> refine h.imp fun v ah q => q.imp fun x ah q => q.imp fun y ah q => ?_
  · cases e : lstPut ah x y v with
    | none => rw [e] at q; exact q.elim
    | some d => rw [e] at q; exact ⟨_, rfl, q⟩
  · obtain ⟨d, e, q⟩ := q
    rw [e]; exact q
theorem s_for {t : TP} {src : Rho → AH → Ot Sr} {body : Rho → AH → SR} : YesS (forF t src body ρ ah) N P ↔ Yes (src ρ ah) fun sr ah1 => YesS (forV sr.g t body sr.xs ρ ah1) N P := by
  unfold forF; rw [YesS.to]
theorem ex_some {β : Type} {a : β} {P : β → Prop} : (∃ c, some a = some c ∧ P c) ↔ P a := ⟨fun ⟨c, e, h⟩ => (Option.some.inj e) ▸ h, fun h => ⟨a, rfl, h⟩⟩
theorem ex_ite {β : Type} {a : β} {p : Prop} [Decidable p] {P : β → Prop} : (∃ c, (if p then some a else none) = some c ∧ P c) ↔ p ∧ P a := by
  by_cases h : p
  · rw [if_pos h, ex_some]; exact ⟨fun q => ⟨h, q⟩, fun q => q.2⟩
  · rw [if_neg h]
    constructor
    · rintro ⟨c, e, q⟩; cases e
    · intro q; exact absurd q.1 h
theorem ex_map {β γ : Type} {o : Option β} {f : β → γ} {P : γ → Prop} : (∃ c, o.map f = some c ∧ P c) ↔ ∃ b, o = some b ∧ P (f b) := by
  cases o with
  | none => constructor <;> (rintro ⟨c, e, q⟩; cases e)
  | some b => rw [Option.map_some, ex_some, ex_some]
theorem ex_bind {β γ : Type} {o : Option β} {f : β → Option γ} {P : γ → Prop} : (∃ c, o.bind f = some c ∧ P c) ↔ ∃ b, o = some b ∧ ∃ c, f b = some c ∧ P c := by
  cases o with
  | none => constructor <;> (rintro ⟨c, e, q⟩; cases e)
  | some b => rw [ex_some]; exact Iff.rfl
theorem bin_add : binF .Add = addF := rfl
theorem bin_sub : binF .Sub = subF := rfl
theorem bin_mul : binF .Mult = mulF := rfl
theorem bin_div : binF .FloorDiv = divF := rfl
theorem bin_mod : binF .Mod = modF := rfl
theorem bin_pow : binF .Pow = powF := rfl
theorem add_ii {i j : Int} : addF ah (.int i) (.int j) = some (.int (i + j)) := rfl
theorem sub_ii {i j : Int} : subF ah (.int i) (.int j) = some (.int (i - j)) := rfl
theorem mul_ii {i j : Int} : mulF ah (.int i) (.int j) = if i.natAbs.log2 + j.natAbs.log2 < 1000000 then some (.int (i * j)) else none := rfl
theorem div_ii {i j : Int} : divF ah (.int i) (.int j) = if 0 < j ∧ j.natAbs.log2 < 9000 then some (.int (i / j)) else none := rfl
theorem mod_ii {i j : Int} : modF ah (.int i) (.int j) = if 0 < j then some (.int (i % j)) else none := rfl
theorem pow_ii {i j : Int} : powF ah (.int i) (.int j) = if 0 ≤ j ∧ j ≤ 1000000 ∧ i.natAbs < 2 ^ 64 then some (.int (i ^ j.toNat)) else none := rfl
theorem neg_i {i : Int} : negF ah (.int i) = some (.int (-i)) := rfl
theorem cmp_eq : cmpF .Eq = eqF := rfl
theorem cmp_ne : cmpF .NotEq = neF := rfl
theorem cmp_lt : cmpF .Lt = ltF := rfl
theorem cmp_le : cmpF .LtE = leF := rfl
theorem cmp_gt : cmpF .Gt = gtF := rfl
theorem cmp_ge : cmpF .GtE = geF := rfl
theorem cmp_is : cmpF .Is = isF := rfl
theorem cmp_isn : cmpF .IsNot = isNotF := rfl
theorem cmp_in : cmpF .In = inF := rfl
theorem cmp_nin : cmpF .NotIn = notInF := rfl
theorem lt_ii {i j : Int} : ltF ah (.int i) (.int j) = some (.bl (decide (i < j))) := rfl
theorem le_ii {i j : Int} : leF ah (.int i) (.int j) = some (.bl (decide (i ≤ j))) := rfl
theorem gt_ii {i j : Int} : gtF ah (.int i) (.int j) = some (.bl (decide (j < i))) := rfl
theorem ge_ii {i j : Int} : geF ah (.int i) (.int j) = some (.bl (decide (j ≤ i))) := rfl
theorem eq_ii {i j : Int} : eqF ah (.int i) (.int j) = some (.bl (decide (i = j))) := rfl
theorem ne_ii {i j : Int} : neF ah (.int i) (.int j) = some (.bl (!decide (i = j))) := rfl
theorem tru_b {b : Bool} : truF ah (.bl b) = some b := rfl
theorem tru_i {i : Int} : truF ah (.int i) = some (i != 0) := rfl
theorem as_b {b : Bool} : asB (some (.bl b)) = some b := rfl
theorem ix_ref {n : Nat} {xs : List AV} {k : Int} (h : ah[n]? = some (.lst xs)) : ixF ah (.ref n) (.int k) = atI xs k := by
  show (asL ah (.ref n)).bind (fun xs => atI xs k) = _
  show (match ah[n]? with | some (.lst xs) => some xs | _ => none).bind (fun xs => atI xs k) = _
  rw [h]; rfl
theorem ix_tup {xs : List AV} {k : Int} : ixF ah (.tup xs) (.int k) = atI xs k := rfl
theorem ix_lst {xs : List AV} {k : Int} : ixF ah (.lst xs) (.int k) = atI xs k := rfl
theorem put_ref {n : Nat} {xs : List AV} {k : Int} {v : AV} (h : ah[n]? = some (.lst xs)) : lstPut ah (.ref n) (.int k) v = (ixN xs.length k).map fun j => ah.set n (.lst (xs.set j v)) := by
  show (match ah[n]? with | some (.lst xs) => (ixN xs.length k).map fun j => ah.set n (.lst (xs.set j v)) | _ => none) = _
  rw [h]
theorem ix_set {n : Nat} {xs : List AV} {k : Int} (h : n < ah.length) : ixF (ah.set n (.lst xs)) (.ref n) (.int k) = atI xs k := ix_ref (List.getElem?_set_self h)
theorem put_set {n : Nat} {xs : List AV} {k : Int} {v : AV} (h : n < ah.length) : lstPut (ah.set n (.lst xs)) (.ref n) (.int k) v = (ixN xs.length k).map fun j => (ah.set n (.lst xs)).set n (.lst (xs.set j v)) := put_ref (List.getElem?_set_self h)
theorem int_i {i : Int} : biF .int ah [.int i] = some (.int i) := rfl
theorem abs_i {i : Int} : biF .abs ah [.int i] = some (.int (if i < 0 then -i else i)) := rfl
theorem nu_isascii {β : Type} {a b : β} : (if MI.isascii.nullary = true then a else b) = a := rfl
theorem nu_isprintable {β : Type} {a b : β} : (if MI.isprintable.nullary = true then a else b) = a := rfl
theorem nu_isalpha {β : Type} {a b : β} : (if MI.isalpha.nullary = true then a else b) = a := rfl
theorem nu_islower {β : Type} {a b : β} : (if MI.islower.nullary = true then a else b) = a := rfl
theorem nu_isdigit {β : Type} {a b : β} : (if MI.isdigit.nullary = true then a else b) = a := rfl
theorem nu_join {β : Type} {a b : β} : (if MI.join.nullary = true then a else b) = b := rfl
theorem nu_count {β : Type} {a b : β} : (if MI.count.nullary = true then a else b) = b := rfl
theorem nu_startswith {β : Type} {a b : β} : (if MI.startswith.nullary = true then a else b) = b := rfl
theorem nu_endswith {β : Type} {a b : β} : (if MI.endswith.nullary = true then a else b) = b := rfl
theorem nu_zfill {β : Type} {a b : β} : (if MI.zfill.nullary = true then a else b) = b := rfl
theorem nu_stripC {β : Type} {a b : β} : (if MI.stripC.nullary = true then a else b) = b := rfl
theorem put_nm {i : Nat} {v : AV} : (TP.nm i).put v ah ρ = some (ρ.set i (some v)) := rfl
theorem put_tup {l : List TP} {xs : List AV} : (TP.tp l).put (.tup xs) ah ρ = putL l xs ah ρ := rfl
theorem put_lst {l : List TP} {xs : List AV} : (TP.tp l).put (.lst xs) ah ρ = putL l xs ah ρ := rfl
theorem putl_nil : putL [] [] ah ρ = some ρ := rfl
theorem putl_cons {t : TP} {l : List TP} {x : AV} {xs : List AV} : putL (t :: l) (x :: xs) ah ρ = (t.put x ah ρ).bind fun ρ1 => putL l xs ah ρ1 := rfl
theorem len_l {xs : List AV} : biF .len ah [.lst xs] = some (.int xs.length) := rfl
theorem len_t {xs : List AV} : biF .len ah [.tup xs] = some (.int xs.length) := rfl
theorem len_s {z : Str} : biF .len ah [.str z] = if z.length ≤ sizeLine then some (.int z.length) else none := rfl
theorem log_lt {i : Int} {k : Nat} (hk : k ≠ 0) (h : i.natAbs < 2 ^ k) : i.natAbs.log2 < k := by
  by_cases h0 : i.natAbs = 0
  · rw [h0]; simp; omega
  · exact (Nat.log2_lt h0).mpr h
theorem mulc {i j : Int} (h : i.natAbs < 2 ^ 200) (h' : j.natAbs < 2 ^ 200) : i.natAbs.log2 + j.natAbs.log2 < 1000000 := by
  have a := log_lt (k := 200) (by decide) h
  have b := log_lt (k := 200) (by decide) h'
  omega
theorem divc {j : Int} (h0 : 0 < j) (h : j < 2 ^ 200) : 0 < j ∧ j.natAbs.log2 < 9000 := by
  refine ⟨h0, ?_⟩
  have a := log_lt (i := j) (k := 200) (by decide) (by omega)
  omega
theorem den_cons {C : Ops} {a b : T} : (den C (.cons a b)).x = seqF (den C a).x (den C b).x := rfl
theorem den_if {C : Ops} {a b c : T} : (den C (.sIf c a b)).x = ifS (den C c).t (den C a).x (den C b).x := rfl
theorem ops_call {ds : List Df} {k : Nat} {f : Str} : (ops ds k).call f = cl ds k f := rfl
theorem ops_ar {ds : List Df} {k : Nat} {f : Str} : (ops ds k).ar f = arD ds f := by cases k <;> rfl
end
end Ko

/-! Ko, part U: texts, places, data that can be shown. -/
namespace Ko
open PySem L2
theorem atI_in {α : Type} {xs : List α} {k : Int} (h0 : 0 ≤ k) (h1 : k < xs.length) : ∃ x ∈ xs, atI xs k = some x := by
  have e : ixN xs.length k = some k.toNat := by
    unfold ixN; rw [if_pos h0, if_pos (by omega)]
  have hl : k.toNat < xs.length := by omega
  exact ⟨xs[k.toNat], List.getElem_mem hl, by unfold atI; rw [e]; exact List.getElem?_eq_getElem hl⟩
theorem atI_nat {α : Type} {xs : List α} {k : Nat} (h1 : k < xs.length) : atI xs (k : Int) = some xs[k] := by
  have e : ixN xs.length (k : Int) = some k := by
    unfold ixN; rw [if_pos (by omega), if_pos (by omega)]; rfl
  unfold atI; rw [e]; exact List.getElem?_eq_getElem h1
/-- every sign of z is one of p -/
def Chs (p : Nat → Prop) (z : Str) : Prop := ∀ c ∈ z.cps.toList, p c
theorem chs_one {p : Nat → Prop} {c : Nat} (h : p c) : Chs p ⟨#[c]⟩ := fun d hd => by
  simp at hd; subst hd; exact h
theorem mem_reps {c : Nat} {x : Array Nat} : ∀ (n : Nat) (acc : Array Nat), c ∈ ((List.replicate n x).foldl (· ++ ·) acc).toList → c ∈ acc.toList ∨ c ∈ x.toList
  | 0, acc, h => .inl h
  | n + 1, acc, h => by
    rw [List.replicate_succ, List.foldl_cons] at h
    rcases mem_reps n (acc ++ x) h with q | q
    · simp only [Array.toList_append, List.mem_append] at q; exact q
    · exact .inr q
theorem chs_mul {p : Nat → Prop} {z : Str} {n : Int} (h : Chs p z) : Chs p (Txt.mul z n) := fun c hc => by
  unfold Txt.mul at hc
  split at hc
  · simp [Str.empty] at hc
  · split at hc
    · exact h c hc
    · rcases mem_reps _ _ hc with q | q
      · simp at q
      · exact h c q
theorem len_mul1 {z : Str} {n : Int} (hz : z.length = 1) (h0 : 0 ≤ n) : ((Txt.mul z n).length : Int) = n := by
  have e := PyProof.Rows.len_mul z n
  rw [hz] at e
  have : decide (n < 0) = false := decide_eq_false (by omega)
  rw [this] at e
  simpa using e
/-- texts of one sign each -/
inductive Ones (p : Nat → Prop) : List AV → Prop
  | nil : Ones p []
  | cons {c : Nat} {xs : List AV} : p c → Ones p xs → Ones p (.str ⟨#[c]⟩ :: xs)
theorem Ones.snoc {p : Nat → Prop} : ∀ {xs : List AV} {c : Nat}, Ones p xs → p c → Ones p (xs ++ [.str ⟨#[c]⟩])
  | _, _, .nil, h => .cons h .nil
  | _, _, .cons q r, h => .cons q (r.snoc h)
theorem Ones.strs {p : Nat → Prop} : ∀ {xs : List AV}, Ones p xs → ∃ ys : List Str, asStrs xs = some ys ∧ (ys.map (·.length)).sum = xs.length ∧ ys.length = xs.length ∧ ∀ y ∈ ys, Chs p y
  | _, .nil => ⟨[], rfl, rfl, rfl, fun _ h => absurd h List.not_mem_nil⟩
  | _, .cons (c := c) q r => by
    obtain ⟨ys, e, h1, h2, h3⟩ := r.strs
    refine ⟨⟨#[c]⟩ :: ys, by simp only [asStrs, e, Option.map_some], ?_, by simp [h2], fun y hy => ?_⟩
    · rw [List.map_cons, List.sum_cons, h1, List.length_cons]
      show 1 + _ = _
      omega
    · rcases List.mem_cons.mp hy with rfl | hy
      · exact chs_one q
      · exact h3 y hy
theorem join_ones {p : Nat → Prop} {xs : List AV} {ah : AH} (h : Ones p xs) (hl : xs.length ≤ 1000) : ∃ z, miF .join ah (.str "") [.lst xs] = some (.str z) ∧ Chs p z ∧ z.length = xs.length := by
  obtain ⟨ys, e, h1, h2, h3⟩ := h.strs
  have el : ("" : Str).length = 0 := rfl
  refine ⟨Txt.join "" ys, ?_, fun c hc => ?_, ?_⟩
  · show (some xs).bind (fun xs => (asStrs xs).bind fun ys => if (ys.map (·.length)).sum + ys.length * ("" : Str).length ≤ 16777216 then some (AV.str (Txt.join "" ys)) else none) = _
    rw [Option.bind_some, e, Option.bind_some, if_pos (by rw [h1, el]; omega)]
  · have hc' : c ∈ (Str.join "" ys).cps.toList := by rw [← show Txt.join "" ys = Str.join "" ys from StrLaws.glued_eq_join _ _]; exact hc
    rcases (PyProof.Rows.mem_join "" c ys).mp hc' with ⟨t, ht, q⟩ | ⟨_, q⟩
    · exact h3 t ht c q
    · exact absurd q (by simp [show ("" : Str).cps.toList = [] from rfl])
  · have a := PyProof.Rows.len_join_ge_sum "" ys
    have b : (Txt.join "" ys).length ≤ (ys.map (·.length)).sum + ys.length * ("" : Str).length := by
      rw [show Txt.join "" ys = Str.join "" ys from StrLaws.glued_eq_join _ _]; exact StrLaws.join_length_le "" ys
    rw [el] at b
    omega
/-! data that can be shown -/
theorem all_lt {z : Str} (h : (z.cps.toList.all fun c => decide (c < 1114112)) = true) : (z.cps.toList.all fun c => decide (c < 16 ^ 8)) = true := by
  simp only [List.all_eq_true, decide_eq_true_eq] at h ⊢
  exact fun c hc => Nat.lt_trans (h c hc) (by decide)
def keyOk : Key → Bool
  | .inl i => decide (i.natAbs < 10 ^ 18)
  | .inr z => z.cps.toList.all fun c => decide (c < 1114112)
def keyB : Key → Nat
  | .inl _ => 0
  | .inr z => z.cps.size
mutual
def okA : AV → Bool
  | .non => true
  | .bl _ => true
  | .int i => decide (i.natAbs < 10 ^ 18)
  | .str z => z.cps.toList.all fun c => decide (c < 1114112)
  | .tup xs => okL xs
  | .lst xs => okL xs
  | .dct kvs => okK kvs
  | .ref _ => false
def okL : List AV → Bool
  | [] => true
  | x :: xs => okA x && okL xs
def okK : List (Key × AV) → Bool
  | [] => true
  | (k, x) :: xs => keyOk k && okA x && okK xs
end
mutual
def bkA : AV → Nat
  | .str z => z.cps.size
  | .tup xs => bkL xs
  | .lst xs => bkL xs
  | .dct kvs => bkK kvs
  | _ => 0
def bkL : List AV → Nat
  | [] => 0
  | x :: xs => bkA x + 1 + bkL xs
def bkK : List (Key × AV) → Nat
  | [] => 0
  | (k, x) :: xs => keyB k + bkA x + 2 + bkK xs
end
mutual
def dpA : AV → Nat
  | .tup xs => dpL xs + 1
  | .lst xs => dpL xs + 1
  | .dct kvs => dpK kvs + 1
  | _ => 0
def dpL : List AV → Nat
  | [] => 0
  | x :: xs => max (dpA x) (dpL xs)
def dpK : List (Key × AV) → Nat
  | [] => 0
  | (k, x) :: xs => max (max 0 (dpA x)) (dpK xs)
end
theorem int_short {i : Int} (h : i.natAbs < 10 ^ 18) : i.natAbs.log2 < 1920 ∧ (PyData.shown (.int i)).length ≤ 20 := by
  refine ⟨?_, ?_⟩
  · have := log_lt (i := i) (k := 200) (by decide) (Nat.lt_trans h (by decide))
    omega
  · have a := int_text_length_le10 (a := i) (k := 18) (by decide) h
    have e : (PyData.shown (.int i)).length = (toString i).length := by
      show (Str.ofString (toString i)).length = _
      exact ofString_length _
    rw [e]; omega
theorem key_ok (k : Key) (h : keyOk k = true) : (kdat k).showable = true ∧ (kdat k).leavesShort 20 = true ∧ (kdat k).bulk = keyB k ∧ (kdat k).depth = 0 := by
  cases k with
  | inl i =>
    obtain ⟨a, b⟩ := int_short (of_decide_eq_true h)
    exact ⟨by simp only [kdat, PyData.showable]; exact decide_eq_true a, by simp only [kdat, PyData.leavesShort]; exact decide_eq_true b, by simp only [kdat, PyData.bulk, keyB], by simp only [kdat, PyData.depth]⟩
  | inr z => exact ⟨by simp only [kdat, PyData.showable], by simp only [kdat, PyData.leavesShort]; exact all_lt h, by simp only [kdat, PyData.bulk, keyB], by simp only [kdat, PyData.depth]⟩
mutual
theorem okA_dat : ∀ {a : AV}, okA a = true → ∃ d, dat a = some d ∧ d.showable = true ∧ d.leavesShort 20 = true ∧ d.bulk = bkA a ∧ d.depth = dpA a
  | .non, _ => ⟨.none, rfl, by simp only [PyData.showable], by simp only [PyData.leavesShort], by simp only [PyData.bulk, bkA], by simp only [PyData.depth, dpA]⟩
  | .bl b, _ => ⟨.bool b, rfl, by simp only [PyData.showable], by simp only [PyData.leavesShort], by simp only [PyData.bulk, bkA], by simp only [PyData.depth, dpA]⟩
  | .int i, h => by
    obtain ⟨a, b⟩ := int_short (of_decide_eq_true (by simpa only [okA] using h))
    exact ⟨.int i, rfl, by simp only [PyData.showable]; exact decide_eq_true a, by simp only [PyData.leavesShort]; exact decide_eq_true b, by simp only [PyData.bulk, bkA], by simp only [PyData.depth, dpA]⟩
  | .str z, h => ⟨.str z, rfl, by simp only [PyData.showable], by simp only [PyData.leavesShort]; exact all_lt (by simpa only [okA] using h), by simp only [PyData.bulk, bkA], by simp only [PyData.depth, dpA]⟩
  | .tup xs, h => by
    obtain ⟨ds, e, h1, h2, h3, h4⟩ := okL_dat (xs := xs) (by simpa only [okA] using h)
    exact ⟨.tuple ds, by simp only [dat, e, Option.map_some], by simp only [PyData.showable]; exact h1, by simp only [PyData.leavesShort]; exact h2, by simp only [PyData.bulk, bkA]; exact h3, by simp only [PyData.depth, dpA]; rw [h4]⟩
  | .lst xs, h => by
    obtain ⟨ds, e, h1, h2, h3, h4⟩ := okL_dat (xs := xs) (by simpa only [okA] using h)
    exact ⟨.list ds, by simp only [dat, e, Option.map_some], by simp only [PyData.showable]; exact h1, by simp only [PyData.leavesShort]; exact h2, by simp only [PyData.bulk, bkA]; exact h3, by simp only [PyData.depth, dpA]; rw [h4]⟩
  | .dct xs, h => by
    obtain ⟨ds, e, h1, h2, h3, h4⟩ := okK_dat (xs := xs) (by simpa only [okA] using h)
    exact ⟨.dict ds, by simp only [dat, e, Option.map_some], by simp only [PyData.showable]; exact h1, by simp only [PyData.leavesShort]; exact h2, by simp only [PyData.bulk, bkA]; exact h3, by simp only [PyData.depth, dpA]; rw [h4]⟩
  | .ref _, h => by simp [okA] at h
theorem okL_dat : ∀ {xs : List AV}, okL xs = true → ∃ ds, datL xs = some ds ∧ PyData.showableAll ds = true ∧ PyData.leavesShortAll 20 ds = true ∧ PyData.bulkAll ds = bkL xs ∧ PyData.depthAll ds = dpL xs
  | [], _ => ⟨[], rfl, by simp only [PyData.showableAll], by simp only [PyData.leavesShortAll], by simp only [PyData.bulkAll, bkL], by simp only [PyData.depthAll, dpL]⟩
  | x :: xs, h => by
    simp only [okL, Bool.and_eq_true] at h
    obtain ⟨d, e, h1, h2, h3, h4⟩ := okA_dat h.1
    obtain ⟨ds, e', g1, g2, g3, g4⟩ := okL_dat h.2
    exact ⟨d :: ds, by simp only [datL, e, e', Option.bind_some, Option.map_some], by simp only [PyData.showableAll, h1, g1, Bool.and_self], by simp only [PyData.leavesShortAll, h2, g2, Bool.and_self], by simp only [PyData.bulkAll, bkL, h3, g3], by simp only [PyData.depthAll, dpL, h4, g4]⟩
theorem okK_dat : ∀ {xs : List (Key × AV)}, okK xs = true → ∃ ds, datK xs = some ds ∧ PyData.showableKv ds = true ∧ PyData.leavesShortKv 20 ds = true ∧ PyData.bulkKv ds = bkK xs ∧ PyData.depthKv ds = dpK xs
  | [], _ => ⟨[], rfl, by simp only [PyData.showableKv], by simp only [PyData.leavesShortKv], by simp only [PyData.bulkKv, bkK], by simp only [PyData.depthKv, dpK]⟩
  | (k, x) :: xs, h => by
    simp only [okK, Bool.and_eq_true] at h
    obtain ⟨d, e, h1, h2, h3, h4⟩ := okA_dat h.1.2
    obtain ⟨ds, e', g1, g2, g3, g4⟩ := okK_dat h.2
    obtain ⟨k1, k2, k3, k4⟩ := key_ok k h.1.1
    exact ⟨(kdat k, d) :: ds, by simp only [datK, e, e', Option.bind_some, Option.map_some], by simp only [PyData.showableKv, k1, h1, g1, Bool.and_self], by simp only [PyData.leavesShortKv, k2, h2, g2, Bool.and_self], by simp only [PyData.bulkKv, bkK, k3, h3, g3], by simp only [PyData.depthKv, dpK, k4, h4, g4]⟩
end
/-- it can be shown, whatever the heap -/
theorem repr_ok {a : AV} (h : okA a = true) (hb : bkA a ≤ 10000) (hd : dpA a ≤ 60) : ∃ z, ∀ ah, reprF ah a = some (.str z) := by
  obtain ⟨d, e, h1, h2, h3, h4⟩ := okA_dat h
  refine ⟨d.shown, fun ah => ?_⟩
  have eh : datH ah a = some d := dat_H e
  unfold reprF
  rw [eh, Option.bind_some, if_pos]
  refine ⟨h1, ?_, by omega⟩
  have := PyData.shown_le_bulk 20 (by decide) d h2
  have hs : sizeLine = 16777216 := by decide
  omega
theorem okL_app : ∀ (xs ys : List AV), okL (xs ++ ys) = (okL xs && okL ys)
  | [], ys => by simp [okL]
  | x :: xs, ys => by simp only [List.cons_append, okL, okL_app xs ys, Bool.and_assoc]
theorem bkL_app : ∀ (xs ys : List AV), bkL (xs ++ ys) = bkL xs + bkL ys
  | [], ys => by simp [bkL]
  | x :: xs, ys => by simp only [List.cons_append, bkL, bkL_app xs ys]; omega
theorem dpL_app : ∀ (xs ys : List AV), dpL (xs ++ ys) = max (dpL xs) (dpL ys)
  | [], ys => by simp [dpL]
  | x :: xs, ys => by simp only [List.cons_append, dpL, dpL_app xs ys]; omega
theorem ok_take (xs : List AV) (n : Nat) (h : okL xs = true) : okL (xs.take n) = true ∧ bkL (xs.take n) ≤ bkL xs ∧ dpL (xs.take n) ≤ dpL xs := by
  have e := List.take_append_drop n xs
  have a := okL_app (xs.take n) (xs.drop n)
  have b := bkL_app (xs.take n) (xs.drop n)
  have c := dpL_app (xs.take n) (xs.drop n)
  rw [e] at a b c
  rw [h] at a
  have a' := a.symm
  rw [Bool.and_eq_true] at a'
  exact ⟨a'.1, by omega, by omega⟩
theorem ok_drop (xs : List AV) (n : Nat) (h : okL xs = true) : okL (xs.drop n) = true ∧ bkL (xs.drop n) ≤ bkL xs ∧ dpL (xs.drop n) ≤ dpL xs := by
  have e := List.take_append_drop n xs
  have a := okL_app (xs.take n) (xs.drop n)
  have b := bkL_app (xs.take n) (xs.drop n)
  have c := dpL_app (xs.take n) (xs.drop n)
  rw [e] at a b c
  rw [h] at a
  have a' := a.symm
  rw [Bool.and_eq_true] at a'
  exact ⟨a'.2, by omega, by omega⟩
theorem ok_mem : ∀ {xs : List AV} {x : AV}, x ∈ xs → okL xs = true → okA x = true ∧ bkA x ≤ bkL xs ∧ dpA x ≤ dpL xs
  | y :: ys, x, hm, h => by
    simp only [okL, Bool.and_eq_true] at h
    rcases List.mem_cons.mp hm with rfl | hm
    · exact ⟨h.1, by simp only [bkL]; omega, by simp only [dpL]; omega⟩
    · obtain ⟨a, b, c⟩ := ok_mem hm h.2
      exact ⟨a, by simp only [bkL]; omega, by simp only [dpL]; omega⟩
end Ko

/-! Ko, part V: the laws' draws. -/
namespace Ko
open PySem L2
local macro_rules | `(tactic| walk_at "ko_ev_KoV") => `(tactic| simp only [YesS.fin, semD, den, mkE, mkT, mkX, mkS, YesS.seq, YesS.nil, YesS.ret, YesS.ifS, YesS.asg, y_c, y_v, y_f2, y_f1, y_fA, y_nil, y_cons, y_tup, y_lst, y_lstM, y_dic0, y_tF, y_bF, y_tAnd, y_tOr, y_tNot, y_not, y_and, y_or, y_if, y_call, y_kw, y_chain, y_slc, y_pN, y_pS, y_isi, y_ms, y_src, y_rng1, y_comp, y_yes, s_exp, s_par2, s_sub, s_for, ops_call, ops_ar, Yes.ok, nu_isascii, nu_isprintable, nu_isalpha, nu_islower, nu_isdigit, nu_join, nu_count, nu_startswith, nu_endswith, nu_zfill, nu_stripC])
local macro_rules | `(tactic| walk_at "ko_ar_KoV") => `(tactic| simp only [ex_some, ex_ite, bin_add, bin_sub, bin_mul, bin_div, bin_mod, bin_pow, add_ii, sub_ii, mul_ii, div_ii, mod_ii, pow_ii, neg_i, cmp_eq, cmp_ne, cmp_lt, cmp_le, cmp_gt, cmp_ge, cmp_is, cmp_isn, lt_ii, le_ii, gt_ii, ge_ii, eq_ii, ne_ii, tru_b, tru_i, as_b, int_i, abs_i, put_nm, put_tup, put_lst])
local macro_rules | `(tactic| walk_at "ko_li_KoV") => `(tactic| simp only [List.getElem?_cons_zero, List.getElem?_cons_succ, List.set_cons_succ, List.set_cons_zero, putl_nil, putl_cons, put_nm, put_tup, put_lst, Option.bind_some])

def tTake (p q : Int) : T := (.cons (.sIf (.and (.sub (.var 0) (.cI 1)) (.cmp .Gt (.sub (.var 0) (.cI 0)) (.cI 0))) (.cons (.sAsg (.nm 2) (.bin .Mod (.bi .int (.cons (.sub (.var 0) (.cI 0)) .nil)) (.var 1))) (.cons (.sSub (.var 0) (.cI 0) (.bin .FloorDiv (.sub (.var 0) (.cI 0)) (.var 1))) (.cons (.sRet (.var 2)) .nil))) .nil) (.cons (.sSub (.var 0) (.cI 3) (.bin .Add (.sub (.var 0) (.cI 3)) (.cI 1))) (.cons (.sAsg (.nm 3) (.bin .Mod (.bi .int (.cons (.bin .Pow (.bin .Add (.bin .Add (.sub (.var 0) (.cI 2)) (.bin .Mult (.cI p) (.sub (.var 0) (.cI 3)))) (.cI q)) (.cI 5)) .nil)) (.cI 2147483647))) (.cons (.sRet (.bin .Mod (.bin .FloorDiv (.bin .Mod (.bi .int (.cons (.bin .Pow (.bin .Add (.bin .Mult (.var 3) (.cI 48271)) (.bin .Mult (.cI 104723) (.sub (.var 0) (.cI 3)))) (.cI 3)) .nil)) (.cI 2147483587)) (.cI 64)) (.var 1))) .nil))))
def tBox : T := (.cons (.sRet (.lstM (.cons (.bi .abs (.cons (.var 0) .nil)) (.cons (.cmp .GtE (.bi .abs (.cons (.var 0) .nil)) (.bin .Pow (.cI 10) (.cI 18))) (.cons (.bin .Mod (.bi .int (.cons (.bi .abs (.cons (.var 0) .nil)) .nil)) (.cI 2147483629)) (.cons (.cI 0) .nil)))))) .nil)
def tCell : T := (.cons (.sRet (.ife (.cmp .Lt (.var 1) (.bi .len (.cons (.var 0) .nil))) (.sub (.var 0) (.var 1)) (.bin .Add (.bin .Mult (.cI 5003) (.var 1)) (.bin .Mod (.bi .sum (.cons (.slc (.var 0) .nil (.cI 1)) .nil)) (.cI 1000081))))) .nil)
/-- the text's draws are these -/
structure Drw (ds : List Df) : Prop where
  tk : ∃ d p q, findD ds "_law_take" = some d ∧ d.N = (["box", "many", "digit", "mixed"] : List Str) ∧ d.t = tTake p q ∧ (0 ≤ p ∧ p ≤ 1000000000 ∧ 0 ≤ q ∧ q ≤ 1000000000)
  bx : ∃ d, findD ds "_law_box" = some d ∧ d.N = (["great"] : List Str) ∧ d.t = tBox
  ce : ∃ d, findD ds "_law_cell" = some d ∧ d.N = (["script", "k"] : List Str) ∧ d.t = tCell
  arity : arD ds "_law_take" = 2
/-- the box at n: at most c mixed draws so far -/
def Box (F ah : AH) (n : Nat) (c : Int) : Prop := ∃ a b x d, ah[n]? = some (.lst [.int a, .bl b, .int x, .int d]) ∧ 0 ≤ a ∧ 0 ≤ x ∧ x < 2147483629 ∧ 0 ≤ d ∧ d ≤ c ∧ ∀ (m : Nat) (o : AO), m ≠ n → F[m]? = some o → ah[m]? = some o
theorem at4 {a b c d : AV} : atI [a, b, c, d] 0 = some a ∧ atI [a, b, c, d] 1 = some b ∧ atI [a, b, c, d] 2 = some c ∧ atI [a, b, c, d] 3 = some d := ⟨rfl, rfl, rfl, rfl⟩
theorem st_take {n : Nat} {m : Int} : startA ["box", "many", "digit", "mixed"] [.ref n, .int m] = [some (.ref n), some (.int m), none, none] := rfl
theorem ix3 : ixN 4 3 = some 3 ∧ ixN 4 0 = some 0 := ⟨rfl, rfl⟩
theorem take_ok {ds : List Df} (D : Drw ds) {k n : Nat} {F ah : AH} {c many : Int} (h : Box F ah n c) (hc : c ≤ 100000) (h0 : 1 ≤ many) (hm : many ≤ 1000000000) : Yes (cl ds (k + 1) "_law_take" [.ref n, .int many] ah) fun v ah' => ∃ m, v = .int m ∧ 0 ≤ m ∧ m < many ∧ Box F ah' n (c + 1) := by
  obtain ⟨dt, p, q, ft, hN, ht, p0, p1, q0, q1⟩ := D.tk
  rw [cl_eq ft]
  obtain ⟨a, b, x, d, h1, h2, h3, h4, h5, h6, hF⟩ := h
  have hlt : n < ah.length := (List.getElem?_eq_some_iff.mp h1).1
  simp only [semD, hN, ht]
  rw [YesS.fin, show startA ["box", "many", "digit", "mixed"] [.ref n, .int many] = [some (.ref n), some (.int many), none, none] from rfl]
  unfold tTake
  rw [den_cons, YesS.seq, den_if, YesS.ifS]
  refine Yes.imp (P := fun b' ah' => ah' = ah ∧ (b' = true → 0 < a)) ?_ fun b' ah' ⟨e, hb⟩ => ?_
  · walk_at "ko_ev_KoV"
    simp only [List.getElem?_cons_zero, ix_ref h1, at4, ex_some, tru_b, cmp_gt, gt_ii, as_b]
    cases b <;> simp
  subst e
  cases b' with
  | true =>
    have ha := hb rfl
    rw [if_pos rfl]
    walk_at "ko_ev_KoV"
    walk_at "ko_ar_KoV"
    simp only [List.getElem?_cons_zero, List.getElem?_cons_succ, ix_ref h1, put_ref h1, at4, ex_map, List.length_cons, List.length_nil, Nat.reduceAdd, ix3, ex_some, List.set_cons_succ, List.set_cons_zero, ix_set hlt]
    walk_at "ko_ar_KoV"
    have hpos : (0 : Int) < many := by omega
    refine ⟨hpos, divc hpos (by omega), _, rfl, Int.emod_nonneg _ (by omega), Int.emod_lt_of_pos _ hpos, a / many, b, x, d, List.getElem?_set_self hlt, Int.ediv_nonneg h2 (by omega), h3, h4, h5, by omega, fun m o hm e => by rw [List.getElem?_set_ne (Ne.symm hm)]; exact hF m o hm e⟩
  | false =>
    rw [if_neg Bool.false_ne_true]
    walk_at "ko_ev_KoV"
    walk_at "ko_ar_KoV"
    simp only [List.getElem?_cons_zero, List.getElem?_cons_succ, ix_ref h1, put_ref h1, at4, ex_map, List.length_cons, List.length_nil, Nat.reduceAdd, ix3, ex_some, List.set_cons_succ, List.set_cons_zero, ix_set hlt]
    walk_at "ko_ar_KoV"
    have P0 : 0 ≤ p * (d + 1) := Int.mul_nonneg p0 (by omega)
    have P1 : p * (d + 1) ≤ 1000000000 * 200000 := Int.mul_le_mul p1 (by omega) (by omega) (by decide)
    have hmul := mulc (i := p) (j := d + 1) (by omega) (by omega)
    generalize p * (d + 1) = P at P0 P1 ⊢
    have m0 : 0 ≤ (x + P + q) ^ Int.toNat 5 % 2147483647 := Int.emod_nonneg _ (by decide)
    have m1 : (x + P + q) ^ Int.toNat 5 % 2147483647 < 2147483647 := Int.emod_lt_of_pos _ (by decide)
    generalize (x + P + q) ^ Int.toNat 5 % 2147483647 = M at m0 m1 ⊢
    have hpos : (0 : Int) < many := by omega
    refine ⟨hmul, ⟨by decide, by decide, by omega⟩, by decide, mulc (by omega) (by decide), mulc (by decide) (by omega), ⟨by decide, by decide, by omega⟩, by decide, divc (by decide) (by decide), hpos, _, rfl, Int.emod_nonneg _ (by omega), Int.emod_lt_of_pos _ hpos, a, b, x, d + 1, List.getElem?_set_self hlt, h2, h3, h4, by omega, by omega, fun m o hm e => by rw [List.getElem?_set_ne (Ne.symm hm)]; exact hF m o hm e⟩
theorem Box.mono {F ah : AH} {n : Nat} {c d : Int} (h : Box F ah n c) (q : c ≤ d) : Box F ah n d := by
  obtain ⟨a, b, x, e, h1, h2, h3, h4, h5, h6, hF⟩ := h
  exact ⟨a, b, x, e, h1, h2, h3, h4, h5, by omega, hF⟩
theorem box_ok {ds : List Df} (D : Drw ds) {k : Nat} {ah : AH} {g : Int} : Yes (cl ds (k + 1) "_law_box" [.int g] ah) fun v ah' => v = .ref ah.length ∧ Box ah ah' ah.length 0 := by
  obtain ⟨dt, ft, hN, ht⟩ := D.bx
  rw [cl_eq ft]
  simp only [semD, hN, ht, tBox]
  walk_at "ko_ev_KoV"
  simp only [show startA (["great"] : List Str) [.int g] = [some (.int g)] from rfl, List.getElem?_cons_zero]
  walk_at "ko_ar_KoV"
  refine ⟨⟨by decide, by decide, by decide⟩, by decide, by show 4 ≤ sizeLine; decide, trivial, _, _, _, 0, List.getElem?_concat_length, ?_, Int.emod_nonneg _ (by decide), Int.emod_lt_of_pos _ (by decide), by decide, by decide, fun m o hm e => by rw [List.getElem?_append_left (List.getElem?_eq_some_iff.mp e).1]; exact e⟩
  split <;> omega
theorem asInts_map : ∀ ns : List Int, asInts (ns.map .int) = some ns
  | [] => rfl
  | n :: r => by simp only [List.map_cons, asInts, asInts_map r, Option.map_some]
theorem cut_map (ns : List Int) (lo hi : Option Int) : ∃ ms : List Int, cutA (ns.map .int) lo hi = ms.map .int := by
  unfold cutA
  rw [List.length_map, ← List.map_drop, ← List.map_take]
  exact ⟨_, rfl⟩
theorem cell_ok {ds : List Df} (D : Drw ds) {k : Nat} {F ah : AH} {ns : List Int} {i : Nat} (hi : i < 100) : Yes (cl ds (k + 1) "_law_cell" [.lst (ns.map .int), .int i] ah) fun v ah' => ah' = ah ∧ ∃ g, v = .int g := by
  obtain ⟨dt, ft, hN, ht⟩ := D.ce
  rw [cl_eq ft]
  simp only [semD, hN, ht, tCell]
  walk_at "ko_ev_KoV"
  simp only [show startA ["script", "k"] [.lst (ns.map .int), .int i] = [some (.lst (ns.map .int)), some (.int i)] from rfl, List.getElem?_cons_zero, List.getElem?_cons_succ]
  walk_at "ko_ar_KoV"
  have hl : biF BI.len ah [.lst (ns.map .int)] = some (.int ns.length) := by rw [len_l, List.length_map]
  rw [hl]
  walk_at "ko_ar_KoV"
  split
  · rename_i h
    obtain ⟨x, hx, e⟩ := atI_in (xs := ns.map AV.int) (k := (i : Int)) (by omega) (by rw [List.length_map]; have := of_decide_eq_true h; omega)
    obtain ⟨g, _, rfl⟩ := List.mem_map.mp hx
    exact ⟨_, (ix_lst (ah := ah)).trans e, trivial, g, rfl⟩
  · obtain ⟨ms, e⟩ := cut_map ns none (some 1)
    refine ⟨mulc (by decide) (by omega), 1, rfl, .lst (ms.map .int), ?_, .int ms.sum, ?_, ?_⟩
    · show (some (ns.map AV.int)).map (fun xs => AV.lst (cutA xs none (some 1))) = _
      rw [Option.map_some, e]
    · show (some (ms.map AV.int)).bind (fun xs => (asInts xs).map fun ns => AV.int ns.sum) = _
      rw [Option.bind_some, asInts_map, Option.map_some]
    · walk_at "ko_ar_KoV"
      exact ⟨by decide, trivial, _, rfl⟩
/-- [letters[_law_take(box, M)] for k in ..] -/
theorem comp_draw {ds : List Df} (D : Drw ds) {k n i j : Nat} {M : Int} {ρ : Rho} {letters : Str} {p : Nat → Prop} (hl : (letters.length : Int) = M) (hp : Chs p letters) (h0 : ρ[0]? = some (some (.ref n))) (hi : ρ[i]? = some (some (.str letters))) (hj : j ≠ 0) (hji : j ≠ i) (hM : 1 ≤ M) (hM2 : M ≤ 1000000) {xs : List AV} (hx : xs.length ≤ 1000) {F ah : AH} {c : Int} (hb : Box F ah n c) (hc : c ≤ 90000) :
    Yes (compV always (.nm j) [j] yesF (f2 ixF (vF i) (callF (cl ds (k + 1) "_law_take") (arD ds "_law_take") (aCons (vF 0) (aCons (cF (.int M)) aNil)))) ρ [] xs ah) fun v ah' => ∃ ys, v = .lst ys ∧ Ones p ys ∧ ys.length = xs.length ∧ Box F ah' n (c + xs.length) := by
  refine compV_ok (fun r acc ah => Ones p acc ∧ acc.length + r.length = xs.length ∧ Box F ah n (c + acc.length)) xs [] ah ⟨.nil, by simp, by simpa using hb⟩ (fun acc ah ⟨h1, h2, h3⟩ => ⟨acc, rfl, h1, by simpa using h2, by rw [← h2]; simpa using h3⟩) fun x r acc ah ⟨h1, h2, h3⟩ => ?_
  have g0 : ((wipeA ρ [j]).set j (some x))[0]? = some (some (.ref n)) := by
    show ((ρ.set j none).set j (some x))[0]? = _
    rw [List.getElem?_set_ne hj, List.getElem?_set_ne hj]; exact h0
  have gi : ((wipeA ρ [j]).set j (some x))[i]? = some (some (.str letters)) := by
    show ((ρ.set j none).set j (some x))[i]? = _
    rw [List.getElem?_set_ne hji, List.getElem?_set_ne hji]; exact hi
  refine ⟨_, rfl, ?_⟩
  rw [y_yes, if_pos rfl, y_f2, y_v, gi]
  dsimp only
  rw [y_call, y_cons, y_v, g0]
  dsimp only
  rw [y_cons, y_c, y_nil]
  rw [List.length_cons] at h2
  refine ⟨D.arity.symm, (take_ok D h3 (by omega) hM (by omega)).imp fun y ah2 ⟨m, e, m0, m1, h4⟩ => ?_⟩
  subst e
  obtain ⟨ch, hm, e⟩ := atI_in (xs := letters.cps.toList) m0 (by rw [← hl] at m1; simpa [Str.length] using m1)
  have hs : sizeLine = 16777216 := by decide
  refine ⟨.str ⟨#[ch]⟩, ?_, by omega, h1.snoc (hp ch hm), by rw [List.length_append, List.length_singleton]; omega, h4.mono (by rw [List.length_append, List.length_singleton]; omega)⟩
  show (if letters.length ≤ sizeLine then (atI letters.cps.toList m).map fun c => AV.str ⟨#[c]⟩ else none) = _
  rw [if_pos (by omega), e]; rfl
theorem az_ok : Chs (fun c => 97 ≤ c ∧ c ≤ 122) "abcdefghijklmnopqrstuvwxyz" := by
  have h : ("abcdefghijklmnopqrstuvwxyz" : Str).cps.toList.all (fun c => decide (97 ≤ c ∧ c ≤ 122)) = true := by decide +kernel
  exact fun c hc => of_decide_eq_true (List.all_eq_true.mp h c hc)
theorem az_len : ("abcdefghijklmnopqrstuvwxyz" : Str).length = 26 := by decide +kernel
theorem ix_str {F ah : AH} {z : Str} {m : Int} (h0 : 0 ≤ m) (h1 : m < z.length) (hz : z.length ≤ 1000) : ∃ ch ∈ z.cps.toList, ixF ah (.str z) (.int m) = some (.str ⟨#[ch]⟩) := by
  obtain ⟨ch, hm, e⟩ := atI_in (xs := z.cps.toList) h0 (by simpa [Str.length] using h1)
  have hs : sizeLine = 16777216 := by decide
  refine ⟨ch, hm, ?_⟩
  show (if z.length ≤ sizeLine then (atI z.cps.toList m).map fun c => AV.str ⟨#[c]⟩ else none) = _
  rw [if_pos (by omega), e]; rfl
theorem Box.here {F ah : AH} {n : Nat} {c : Int} (h : Box F ah n c) : Box ah ah n c := by
  obtain ⟨a, b, x, e, h1, h2, h3, h4, h5, h6, hF⟩ := h
  exact ⟨a, b, x, e, h1, h2, h3, h4, h5, h6, fun m o _ q => q⟩
theorem Box.app {F ah tl : AH} {n : Nat} {c : Int} (h : Box F ah n c) : Box (ah ++ tl) (ah ++ tl) n c := by
  obtain ⟨a, b, x, e, h1, h2, h3, h4, h5, h6, hF⟩ := h
  exact ⟨a, b, x, e, by rw [List.getElem?_append_left (List.getElem?_eq_some_iff.mp h1).1]; exact h1, h2, h3, h4, h5, h6, fun m o _ q => q⟩
theorem Box.keeps {F ah : AH} {n m : Nat} {c : Int} {o : AO} (h : Box F ah n c) (hm : m ≠ n) (e : F[m]? = some o) : ah[m]? = some o := by
  obtain ⟨_, _, _, _, _, _, _, _, _, _, hF⟩ := h
  exact hF m o hm e
/-- another object is written -/
theorem Box.put {F ah : AH} {n m : Nat} {c : Int} {o : AO} (h : Box F ah n c) (hm : m ≠ n) : Box (ah.set m o) (ah.set m o) n c := by
  obtain ⟨a, b, x, e, h1, h2, h3, h4, h5, h6, hF⟩ := h
  exact ⟨a, b, x, e, by rw [List.getElem?_set_ne hm]; exact h1, h2, h3, h4, h5, h6, fun m o _ q => q⟩
theorem Box.lt {F ah : AH} {n : Nat} {c : Int} (h : Box F ah n c) : n < ah.length := by
  obtain ⟨a, b, x, e, h1, _⟩ := h
  exact (List.getElem?_eq_some_iff.mp h1).1
theorem forV_okg {g : AH → Bool} {t : TP} {body : Rho → AH → SR} {R : AV → AH → Prop} {N : Rho → AH → Prop} (I : List AV → Rho → AH → Prop) (hg : ∀ r ρ ah, I r ρ ah → g ah = true) : ∀ (xs : List AV) (ρ : Rho) (ah : AH), I xs ρ ah → (∀ ρ ah, I [] ρ ah → N ρ ah) →
    (∀ x xs ρ ah, I (x :: xs) ρ ah → ∃ ρ1, t.put x ah ρ = some ρ1 ∧ match body ρ1 ah with | .nx ρ ah => I xs ρ ah | .ct ρ ah => I xs ρ ah | .bk ρ ah => N ρ ah | .rt v ah => R v ah | _ => False) → YesS (forV g t body xs ρ ah) N R
  | [], ρ, ah, h, hn, _ => by
    unfold forV
    rw [if_pos (hg _ _ _ h)]
    exact hn ρ ah h
  | x :: xs, ρ, ah, h, hn, hs => by
    obtain ⟨ρ1, e, q⟩ := hs x xs ρ ah h
    unfold forV
    rw [if_pos (hg _ _ _ h), e]
    dsimp only
    cases eb : body ρ1 ah with
    | nx ρ2 ah2 => rw [eb] at q; exact forV_okg I hg xs ρ2 ah2 q hn hs
    | ct ρ2 ah2 => rw [eb] at q; exact forV_okg I hg xs ρ2 ah2 q hn hs
    | bk ρ2 ah2 => rw [eb] at q; exact q
    | rt v ah2 => rw [eb] at q; exact q
    | ex x ρ2 ah2 => rw [eb] at q; exact q
    | st => rw [eb] at q; exact q
theorem forV_okg' {g : AH → Bool} {t : TP} {body : Rho → AH → SR} {R : AV → AH → Prop} {N : Rho → AH → Prop} (I : List AV → Rho → AH → Prop) (hg : ∀ r ρ ah, I r ρ ah → g ah = true) (xs : List AV) (ρ : Rho) (ah : AH) (h : I xs ρ ah) (hn : ∀ ρ ah, I [] ρ ah → N ρ ah)
    (hs : ∀ x xs ρ ah, I (x :: xs) ρ ah → ∃ ρ1, t.put x ah ρ = some ρ1 ∧ YesS (body ρ1 ah) (fun ρ ah => I xs ρ ah) R) : YesS (forV g t body xs ρ ah) N R :=
  forV_okg I hg xs ρ ah h hn fun x xs ρ ah h => by
    obtain ⟨ρ1, e, q⟩ := hs x xs ρ ah h
    refine ⟨ρ1, e, ?_⟩
    cases eb : body ρ1 ah with
    | nx ρ2 ah2 => rw [eb] at q; exact q
    | rt v ah2 => rw [eb] at q; exact q
    | ct ρ2 ah2 => rw [eb] at q; exact q.elim
    | bk ρ2 ah2 => rw [eb] at q; exact q.elim
    | ex x ρ2 ah2 => rw [eb] at q; exact q.elim
    | st => rw [eb] at q; exact q.elim
theorem compV_okg {g : AH → Bool} {t : TP} {vs : List Nat} {c : Rho → AH → Ot Bool} {e : Rho → AH → Ot AV} {ρ : Rho} {P : AV → AH → Prop} (I : List AV → List AV → AH → Prop) (hg : ∀ r acc ah, I r acc ah → g ah = true) : ∀ (xs acc : List AV) (ah : AH), I xs acc ah → (∀ acc ah, I [] acc ah → P (.lst acc) ah) →
    (∀ x xs acc ah, I (x :: xs) acc ah → ∃ ρ1, t.put x ah (wipeA ρ vs) = some ρ1 ∧ Yes (c ρ1 ah) fun b ah1 => if b = true then Yes (e ρ1 ah1) fun y ah2 => acc.length < sizeLine ∧ I xs (acc ++ [y]) ah2 else I xs acc ah1) → Yes (compV g t vs c e ρ acc xs ah) P
  | [], acc, ah, h, hn, _ => by
    unfold compV
    rw [if_pos (hg _ _ _ h)]
    exact hn acc ah h
  | x :: xs, acc, ah, h, hn, hs => by
    obtain ⟨ρ1, e1, q⟩ := hs x xs acc ah h
    unfold compV
    rw [if_pos (hg _ _ _ h), e1]
    obtain ⟨b, ah1, e2, q⟩ := q.eq
    show Yes (((c ρ1 ah).calm).bind _) P
    rw [e2]
    show Yes (if b = true then _ else _) P
    cases b with
    | false => rw [if_neg Bool.false_ne_true]; rw [if_neg Bool.false_ne_true] at q; exact compV_okg I hg xs acc ah1 q hn hs
    | true =>
      rw [if_pos rfl]; rw [if_pos rfl] at q
      obtain ⟨y, ah2, e3, q1, q2⟩ := q.eq
      rw [e3]
      show Yes (if acc.length < sizeLine then _ else _) P
      rw [if_pos q1]
      exact compV_okg I hg xs (acc ++ [y]) ah2 q2 hn hs
/-- a comprehension that changes nothing -/
theorem comp_geng {α : Type} {gd : AH → Bool} {g f : α → AV} {p : α → Bool} {ρ : Rho} {j : Nat} {cnd : Rho → AH → Ot Bool} {e : Rho → AH → Ot AV} {l : List α} {ah : AH} (hgd : gd ah = true) (hl : l.length ≤ 100000)
    (hc : ∀ x ∈ l, Yes (cnd ((wipeA ρ [j]).set j (some (g x))) ah) fun b ah1 => b = p x ∧ ah1 = ah) (he : ∀ x ∈ l, p x = true → Yes (e ((wipeA ρ [j]).set j (some (g x))) ah) fun v ah1 => v = f x ∧ ah1 = ah) :
    Yes (compV gd (.nm j) [j] cnd e ρ [] (l.map g) ah) fun v ah' => v = .lst ((l.filter p).map f) ∧ ah' = ah := by
  have hs : sizeLine = 16777216 := by decide
  refine compV_okg (fun r acc ah' => ah' = ah ∧ ∃ l1 l2, l = l1 ++ l2 ∧ r = l2.map g ∧ acc = (l1.filter p).map f) (fun r acc ah' h => h.1 ▸ hgd) _ [] ah ⟨rfl, [], l, rfl, rfl, rfl⟩ (fun acc ah' ⟨e0, l1, l2, e1, e2, e3⟩ => ?_) fun x r acc ah' ⟨e0, l1, l2, e1, e2, e3⟩ => ?_
  · have : l2 = [] := by simpa using e2.symm
    subst this
    rw [List.append_nil] at e1
    subst e1
    exact ⟨by rw [e3], e0⟩
  · match l2, e2 with
    | c :: l2, e2 =>
      rw [List.map_cons, List.cons.injEq] at e2
      obtain ⟨rfl, rfl⟩ := e2
      subst e0
      have hm : c ∈ l := by rw [e1]; simp
      refine ⟨_, rfl, (hc c hm).imp fun b ah2 ⟨e4, e5⟩ => ?_⟩
      subst e4 e5
      have e6 : l = (l1 ++ [c]) ++ l2 := by rw [e1]; simp
      cases hp : p c with
      | true =>
        rw [if_pos rfl]
        refine (he c hm hp).imp fun v ah3 ⟨e7, e8⟩ => ?_
        subst e7 e8
        refine ⟨?_, rfl, l1 ++ [c], l2, e6, rfl, ?_⟩
        · rw [e3, List.length_map]
          have := List.length_filter_le p l1
          have : l.length = l1.length + (l2.length + 1) := by rw [e1]; simp
          omega
        · rw [e3, List.filter_append, List.map_append]; simp [hp]
      | false =>
        rw [if_neg Bool.false_ne_true]
        refine ⟨rfl, l1 ++ [c], l2, e6, rfl, ?_⟩
        rw [e3, List.filter_append, List.map_append]; simp [hp]
theorem comp_mapg {α : Type} {gd : AH → Bool} {g f : α → AV} {ρ : Rho} {j : Nat} {e : Rho → AH → Ot AV} {l : List α} {ah : AH} (hgd : gd ah = true) (hl : l.length ≤ 100000)
    (he : ∀ x ∈ l, Yes (e ((wipeA ρ [j]).set j (some (g x))) ah) fun v ah1 => v = f x ∧ ah1 = ah) :
    Yes (compV gd (.nm j) [j] yesF e ρ [] (l.map g) ah) fun v ah' => v = .lst (l.map f) ∧ ah' = ah := by
  have := comp_geng (p := fun _ => true) (cnd := yesF) (g := g) (f := f) (ρ := ρ) (j := j) (e := e) hgd hl (fun x _ => ⟨rfl, rfl⟩) (fun x hx _ => he x hx)
  have hf : l.filter (fun _ => true) = l := by simp
  rw [hf] at this
  exact this
/-- a comprehension that changes nothing -/
theorem comp_gen {α : Type} {g f : α → AV} {p : α → Bool} {ρ : Rho} {j : Nat} {cnd : Rho → AH → Ot Bool} {e : Rho → AH → Ot AV} {l : List α} {ah : AH} (hl : l.length ≤ 100000)
    (hc : ∀ x ∈ l, Yes (cnd ((wipeA ρ [j]).set j (some (g x))) ah) fun b ah1 => b = p x ∧ ah1 = ah) (he : ∀ x ∈ l, p x = true → Yes (e ((wipeA ρ [j]).set j (some (g x))) ah) fun v ah1 => v = f x ∧ ah1 = ah) :
    Yes (compV always (.nm j) [j] cnd e ρ [] (l.map g) ah) fun v ah' => v = .lst ((l.filter p).map f) ∧ ah' = ah := by
  have hs : sizeLine = 16777216 := by decide
  refine compV_ok (fun r acc ah' => ah' = ah ∧ ∃ l1 l2, l = l1 ++ l2 ∧ r = l2.map g ∧ acc = (l1.filter p).map f) _ [] ah ⟨rfl, [], l, rfl, rfl, rfl⟩ (fun acc ah' ⟨e0, l1, l2, e1, e2, e3⟩ => ?_) fun x r acc ah' ⟨e0, l1, l2, e1, e2, e3⟩ => ?_
  · have : l2 = [] := by simpa using e2.symm
    subst this
    rw [List.append_nil] at e1
    subst e1
    exact ⟨by rw [e3], e0⟩
  · match l2, e2 with
    | c :: l2, e2 =>
      rw [List.map_cons, List.cons.injEq] at e2
      obtain ⟨rfl, rfl⟩ := e2
      subst e0
      have hm : c ∈ l := by rw [e1]; simp
      refine ⟨_, rfl, (hc c hm).imp fun b ah2 ⟨e4, e5⟩ => ?_⟩
      subst e4 e5
      have e6 : l = (l1 ++ [c]) ++ l2 := by rw [e1]; simp
      cases hp : p c with
      | true =>
        rw [if_pos rfl]
        refine (he c hm hp).imp fun v ah3 ⟨e7, e8⟩ => ?_
        subst e7 e8
        refine ⟨?_, rfl, l1 ++ [c], l2, e6, rfl, ?_⟩
        · rw [e3, List.length_map]
          have := List.length_filter_le p l1
          have : l.length = l1.length + (l2.length + 1) := by rw [e1]; simp
          omega
        · rw [e3, List.filter_append, List.map_append]; simp [hp]
      | false =>
        rw [if_neg Bool.false_ne_true]
        refine ⟨rfl, l1 ++ [c], l2, e6, rfl, ?_⟩
        rw [e3, List.filter_append, List.map_append]; simp [hp]
theorem comp_map {α : Type} {g f : α → AV} {ρ : Rho} {j : Nat} {e : Rho → AH → Ot AV} {l : List α} {ah : AH} (hl : l.length ≤ 100000)
    (he : ∀ x ∈ l, Yes (e ((wipeA ρ [j]).set j (some (g x))) ah) fun v ah1 => v = f x ∧ ah1 = ah) :
    Yes (compV always (.nm j) [j] yesF e ρ [] (l.map g) ah) fun v ah' => v = .lst (l.map f) ∧ ah' = ah := by
  have := comp_gen (p := fun _ => true) (cnd := yesF) (g := g) (f := f) (ρ := ρ) (j := j) (e := e) hl (fun x _ => ⟨rfl, rfl⟩) (fun x hx _ => he x hx)
  have hf : l.filter (fun _ => true) = l := by simp
  rw [hf] at this
  exact this
def sg (c : Nat) : AV := .str ⟨#[c]⟩
theorem src_s {ah : AH} {z : Str} : seqSrc ah (.str z) = some ⟨z.cps.toList.map sg, always⟩ := rfl
theorem src_l {ah : AH} {xs : List AV} : seqSrc ah (.lst xs) = some ⟨xs, always⟩ := rfl
theorem rng_src {m : Int} (h0 : 0 ≤ m) (h1 : m ≤ 100000000) : rngSrc1 (.int m) = some ⟨rngL 0 m.toNat, always⟩ := by
  show (if -(2 ^ 62) ≤ m ∧ m < 2 ^ 62 then some (Sr.mk (rngL 0 m.toNat) always) else none) = _
  rw [if_pos (by omega)]
theorem rng_mem {n : Nat} {x : AV} (h : x ∈ rngL 0 n) : ∃ i : Nat, x = .int i ∧ i < n := by
  unfold rngL at h
  obtain ⟨i, hi, rfl⟩ := List.mem_map.mp h
  exact ⟨i, by simp, List.mem_range.mp hi⟩
theorem mul_s {ah : AH} {x : Str} {j : Int} : mulF ah (.str x) (.int j) = if 0 ≤ j ∧ x.length * j.toNat ≤ sizeLine ∧ j < 2 ^ 40 then some (.str (Txt.mul x j)) else none := rfl
theorem add_ll {ah : AH} {xs ys : List AV} : addF ah (.lst xs) (.lst ys) = if xs.length + ys.length ≤ sizeLine then some (.lst (xs ++ ys)) else none := rfl
theorem add_tt {ah : AH} {xs ys : List AV} : addF ah (.tup xs) (.tup ys) = if xs.length + ys.length ≤ sizeLine then some (.tup (xs ++ ys)) else none := rfl
theorem add_ss {ah : AH} {x y : Str} : addF ah (.str x) (.str y) = if x.length + y.length ≤ sizeLine then some (.str (x ++ y)) else none := rfl
theorem wh_ok {c : Rho → AH → Ot Bool} {body : Rho → AH → SR} {N : Rho → AH → Prop} {R : AV → AH → Prop} {n : Nat} {ρ : Rho} {ah : AH} (h : Yes (c ρ ah) fun b ah1 => if b = true then YesS (body ρ ah1) (fun ρ2 ah2 => YesS (whV c body n ρ2 ah2) N R) R else N ρ ah1) : YesS (whV c body (n + 1) ρ ah) N R := by
  unfold whV
  rw [YesS.to]
  refine h.imp fun b ah1 q => ?_
  cases b with
  | false => rw [if_neg Bool.false_ne_true] at q ⊢; exact q
  | true =>
    rw [if_pos rfl] at q ⊢
    cases e : body ρ ah1 with
    | nx ρ2 ah2 => rw [e] at q; exact q
    | rt v ah2 => rw [e] at q; exact q
    | ct ρ2 ah2 => rw [e] at q; exact q.elim
    | bk ρ2 ah2 => rw [e] at q; exact q.elim
    | ex x ρ2 ah2 => rw [e] at q; exact q.elim
    | st => rw [e] at q; exact q.elim
end Ko

/-! Ko, part Yx: plain words for errors: which error a call ends with. -/
namespace Ko
open PySem L2
section
variable {ρ : Rho} {ah ah1 ah2 : AH}
theorem sx_if {c : Rho → AH → Ot Bool} {f g rest : Rho → AH → SR} {x : EX} {ρ1 : Rho} (hc : Yes (c ρ ah) fun b ah' => b = true ∧ ah' = ah1) (hf : f ρ ah1 = .ex x ρ1 ah2) : seqF (ifS c f g) rest ρ ah = .ex x ρ1 ah2 := by
  obtain ⟨b, ah', e, rfl, rfl⟩ := hc.eq
  unfold seqF ifS
  rw [e]
  show (match (if true = true then f ρ ah' else g ρ ah') with | .nx ρ1 ah1 => rest ρ1 ah1 | r => r) = _
  rw [if_pos rfl, hf]
theorem sx_skip {c : Rho → AH → Ot Bool} {f rest : Rho → AH → SR} (hc : Yes (c ρ ah) fun b ah' => b = false ∧ ah' = ah1) : seqF (ifS c f nilF) rest ρ ah = rest ρ ah1 := by
  obtain ⟨b, ah', e, rfl, rfl⟩ := hc.eq
  unfold seqF ifS
  rw [e]
  rfl
theorem sx_raise {c : Str} {fl : List Str} {a : Rho → AH → Ot (List AV)} {rest : Rho → AH → SR} {xs : List AV} {fs : List (Str × AV)} (ha : a ρ ah = .ok xs ah1) (hf : xFs fl xs = some fs) : seqF (raiseF c fl a) rest ρ ah = .ex ⟨c, fs⟩ ρ ah1 := by
  unfold seqF raiseF
  rw [ha]
  show (match (match xFs fl xs with | some fs => SR.ex ⟨c, fs⟩ ρ ah1 | none => .st) with | .nx ρ1 ah1 => rest ρ1 ah1 | r => r) = _
  rw [hf]
theorem sx_exp {a : Rho → AH → Ot AV} {rest : Rho → AH → SR} {x : EX} (ha : a ρ ah = .ex x ah1) : seqF (expF a) rest ρ ah = .ex x ρ ah1 := by
  unfold seqF expF
  rw [ha]
  rfl
theorem sx_expOk {a : Rho → AH → Ot AV} {rest : Rho → AH → SR} (ha : Yes (a ρ ah) fun _ ah' => ah' = ah1) : seqF (expF a) rest ρ ah = rest ρ ah1 := by
  obtain ⟨v, ah', e, rfl⟩ := ha.eq
  unfold seqF expF
  rw [e]
  rfl
theorem sx_for {t : TP} {src : Rho → AH → Ot Sr} {body rest : Rho → AH → SR} {sr : Sr} {x : EX} {ρ1 : Rho} (hs : src ρ ah = .ok sr ah1) (hf : forV sr.g t body sr.xs ρ ah1 = .ex x ρ1 ah2) : seqF (forF t src body) rest ρ ah = .ex x ρ1 ah2 := by
  unfold seqF forF
  rw [hs]
  show (match forV sr.g t body sr.xs ρ ah1 with | .nx ρ1 ah1 => rest ρ1 ah1 | r => r) = _
  rw [hf]
theorem fx_stop {t : TP} {body : Rho → AH → SR} {y : AV} {ys : List AV} {e : EX} {ρ1 ρ2 : Rho} (hp : t.put y ah ρ = some ρ1) (hb : body ρ1 ah = .ex e ρ2 ah2) : forV always t body (y :: ys) ρ ah = .ex e ρ2 ah2 := by
  unfold forV
  rw [if_pos (show always ah = true from rfl), hp]
  dsimp only
  rw [hb]
theorem fx_go {t : TP} {body : Rho → AH → SR} {y : AV} {ys : List AV} {ρ1 ρ2 : Rho} (hp : t.put y ah ρ = some ρ1) (hb : body ρ1 ah = .nx ρ2 ah2) : forV always t body (y :: ys) ρ ah = forV always t body ys ρ2 ah2 := by
  show (if always ah = true then (match t.put y ah ρ with | some ρ1 => _ | none => _) else _) = _
  rw [if_pos (show always ah = true from rfl), hp]
  dsimp only
  rw [hb]
/-- a try whose body ends well -/
theorem sx_tryOk {b : Rho → AH → SR} {hs : List Hd} {N : Rho → AH → Prop} {R : AV → AH → Prop} (h : YesS (b ρ ah) N R) : YesS (tryF b hs ρ ah) N R := by
  unfold tryF
  cases e : b ρ ah with
  | nx a b => rw [e] at h; exact h
  | rt a b => rw [e] at h; exact h
  | bk a b => rw [e] at h; exact h
  | ct a b => rw [e] at h; exact h
  | ex x a b => rw [e] at h; exact h.elim
  | st => rw [e] at h; exact h.elim
theorem sx_try {b : Rho → AH → SR} {hs : List Hd} {x : EX} {ρ1 : Rho} (h : b ρ ah = .ex x ρ1 ah1) : tryF b hs ρ ah = hdF hs x ρ1 ah1 := by
  unfold tryF
  rw [h]
end
end Ko

/-! Ko, part Yy: plain words for objects, methods, dicts that change, sorted. -/
namespace Ko
open PySem L2
section
variable {ρ : Rho} {ah : AH} {P : AV → AH → Prop} {N : Rho → AH → Prop}
theorem y_mcall {cs : List (Str × Str)} {call : Str → List AV → AH → Ot AV} {ar : Str → Nat} {m : Str} {o : Rho → AH → Ot AV} {a : Rho → AH → Ot (List AV)} : Yes (mcallF cs call ar m o a ρ ah) P ↔ Yes (o ρ ah) fun x ah1 => ∃ f, metA cs m ah1 x = some f ∧ Yes (a ρ ah1) fun xs ah2 => (x :: xs).length = ar f ∧ Yes (call f (x :: xs) ah2) P := by
  unfold mcallF
  rw [Yes.bind]
  constructor
  · refine fun h => h.imp fun x ah1 q => ?_
    cases e : metA cs m ah1 x with
    | none => rw [e] at q; exact q.elim
    | some f =>
      rw [e] at q
      refine ⟨f, rfl, (Yes.bind.mp q).imp fun xs ah2 z => ?_⟩
      split at z
      · exact ⟨by assumption, z⟩
      · exact z.elim
  · refine fun h => h.imp fun x ah1 ⟨f, e, q⟩ => ?_
    rw [e]
    refine Yes.bind.mpr (q.imp fun xs ah2 ⟨z1, z2⟩ => ?_)
    rw [if_pos z1]; exact z2
theorem y_new {c : Str} {sem : List AV → AH → Ot AV} {n : Nat} {a : Rho → AH → Ot (List AV)} : Yes (newF c sem n a ρ ah) P ↔ Yes (a ρ ah) fun xs ah1 => xs.length + 1 = n ∧ Yes (sem (.ref ah1.length :: xs) (ah1 ++ [.ins c []])) fun v ah2 => v = .non ∧ P (.ref ah1.length) ah2 := by
  unfold newF
  rw [Yes.bind]
  constructor
  · refine fun h => h.imp fun x ah1 q => ?_
    split at q
    · refine ⟨by assumption, (Yes.bind.mp q).imp fun v ah2 z => ?_⟩
      split at z
      · exact ⟨rfl, z⟩
      · exact z.elim
    · exact q.elim
  · refine fun h => h.imp fun x ah1 ⟨e, q⟩ => ?_
    rw [if_pos e]
    refine Yes.bind.mpr (q.imp fun v ah2 ⟨z1, z2⟩ => ?_)
    subst z1; exact z2
theorem y_dget {o k d : Rho → AH → Ot AV} : Yes (dgetF o k d ρ ah) P ↔ Yes (o ρ ah) fun x ah1 => (asKs ah1 x).isSome = true ∧ Yes (k ρ ah1) fun y ah2 => Yes (d ρ ah2) fun z ah3 => ∃ c, dgetA ah3 x y z = some c ∧ P c ah3 := by
  unfold dgetF
  rw [Yes.bind]
  constructor
  · refine fun h => h.imp fun x ah1 q => ?_
    split at q
    · exact ⟨by assumption, (Yes.bind.mp q).imp fun y ah2 q => (Yes.bind.mp q).imp fun z ah3 q => yes_of.mp q⟩
    · exact q.elim
  · refine fun h => h.imp fun x ah1 ⟨e, q⟩ => ?_
    rw [if_pos e]
    exact Yes.bind.mpr (q.imp fun y ah2 q => Yes.bind.mpr (q.imp fun z ah3 q => yes_of.mpr q))
theorem y_dpop {o k : Rho → AH → Ot AV} : Yes (dpopF o k ρ ah) P ↔ Yes (o ρ ah) fun x ah1 => (asKs ah1 x).isSome = true ∧ Yes (k ρ ah1) fun y ah2 => ∃ p, dpopA ah2 x y = some p ∧ P p.1 p.2 := by
  unfold dpopF
  rw [Yes.bind]
  constructor
  · refine fun h => h.imp fun x ah1 q => ?_
    split at q
    · refine ⟨by assumption, (Yes.bind.mp q).imp fun y ah2 q => ?_⟩
      split at q
      · exact ⟨_, by assumption, q⟩
      · exact q.elim
    · exact q.elim
  · refine fun h => h.imp fun x ah1 ⟨e, q⟩ => ?_
    rw [if_pos e]
    refine Yes.bind.mpr (q.imp fun y ah2 ⟨p, e, q⟩ => ?_)
    rw [e]; exact q
theorem y_dicN : Yes (dicN ρ ah) P ↔ P (.ref ah.length) (ah ++ [.dct []]) := Iff.rfl
theorem y_dicC {a : Rho → AH → Ot AV} : Yes (dicMF a ρ ah) P ↔ Yes (a ρ ah) fun x ah1 => ∃ kvs, dictSrc ah1 x = some kvs ∧ P (.ref ah1.length) (ah1 ++ [.dct kvs]) := by
  unfold dicMF
  rw [Yes.bind]
  constructor
  · refine fun h => h.imp fun x ah1 q => ?_
    split at q
    · exact ⟨_, by assumption, q⟩
    · exact q.elim
  · refine fun h => h.imp fun x ah1 ⟨p, e, q⟩ => ?_
    rw [e]; exact q
theorem y_lstC {a : Rho → AH → Ot AV} : Yes (lstMF a ρ ah) P ↔ Yes (a ρ ah) fun x ah1 => ∃ xs, seqA ah1 x = some xs ∧ P (.ref ah1.length) (ah1 ++ [.lst xs]) := by
  unfold lstMF
  rw [Yes.bind]
  constructor
  · refine fun h => h.imp fun x ah1 q => ?_
    split at q
    · exact ⟨_, by assumption, q⟩
    · exact q.elim
  · refine fun h => h.imp fun x ah1 ⟨p, e, q⟩ => ?_
    rw [e]; exact q
theorem y_srt {a : Rho → AH → Ot AV} : Yes (srtF a ρ ah) P ↔ Yes (a ρ ah) fun x ah1 => ∃ xs, srtA ah1 x = some xs ∧ P (.lst xs) ah1 := by
  unfold srtF
  rw [y_f1]
  constructor
  · refine fun h => h.imp fun x ah1 ⟨c, e, q⟩ => ?_
    obtain ⟨xs, e1, rfl⟩ := Option.map_eq_some_iff.mp e
    exact ⟨xs, e1, q⟩
  · exact fun h => h.imp fun x ah1 ⟨xs, e, q⟩ => ⟨_, by rw [e]; rfl, q⟩
theorem y_srtM {a : Rho → AH → Ot AV} : Yes (srtMF a ρ ah) P ↔ Yes (a ρ ah) fun x ah1 => ∃ xs, srtA ah1 x = some xs ∧ P (.ref ah1.length) (ah1 ++ [.lst xs]) := by
  unfold srtMF
  rw [Yes.bind]
  constructor
  · refine fun h => h.imp fun x ah1 q => ?_
    split at q
    · exact ⟨_, by assumption, q⟩
    · exact q.elim
  · refine fun h => h.imp fun x ah1 ⟨p, e, q⟩ => ?_
    rw [e]; exact q
theorem y_app' {o a : Rho → AH → Ot AV} : Yes (appF o a ρ ah) P ↔ Yes (o ρ ah) fun x ah1 => isLstR ah1 x = true ∧ Yes (a ρ ah1) fun y ah2 => ∃ ah3, lstApp ah2 x y = some ah3 ∧ P .non ah3 := by
  unfold appF
  rw [Yes.bind]
  constructor
  · refine fun h => h.imp fun x ah1 q => ?_
    split at q
    · refine ⟨by assumption, (Yes.bind.mp q).imp fun y ah2 q => ?_⟩
      split at q
      · exact ⟨_, by assumption, q⟩
      · exact q.elim
    · exact q.elim
  · refine fun h => h.imp fun x ah1 ⟨e, q⟩ => ?_
    rw [if_pos e]
    refine Yes.bind.mpr (q.imp fun y ah2 ⟨p, e, q⟩ => ?_)
    rw [e]; exact q
theorem s_putD {o i a : Rho → AH → Ot AV} : YesS (putDF o i a ρ ah) N P ↔ Yes (a ρ ah) fun v ah1 => Yes (o ρ ah1) fun x ah2 => Yes (i ρ ah2) fun y ah3 => ∃ ah4, putDA ah3 x y v = some ah4 ∧ N ρ ah4 := by
  unfold putDF
  rw [YesS.to]
  refine ⟨fun h => h.imp fun v ah1 q => (YesS.to.mp q).imp fun x ah2 q => (YesS.to.mp q).imp fun y ah3 q => ?_, fun h => h.imp fun v ah1 q => YesS.to.mpr (q.imp fun x ah2 q => YesS.to.mpr (q.imp fun y ah3 ⟨ah4, e, q⟩ => ?_))⟩
  · split at q
    · exact ⟨_, by assumption, q⟩
    · exact q.elim
  · rw [e]; exact q
theorem s_att {cs : List Str} {f : Str} {o a : Rho → AH → Ot AV} : YesS (attS cs f o a ρ ah) N P ↔ Yes (a ρ ah) fun v ah1 => Yes (o ρ ah1) fun x ah2 => ∃ ah3, putAtt cs f ah2 x v = some ah3 ∧ N ρ ah3 := by
  unfold attS
  rw [YesS.to]
  refine ⟨fun h => h.imp fun v ah1 q => (YesS.to.mp q).imp fun x ah2 q => ?_, fun h => h.imp fun v ah1 q => YesS.to.mpr (q.imp fun x ah2 ⟨ah3, e, q⟩ => ?_)⟩
  · split at q
    · exact ⟨_, by assumption, q⟩
    · exact q.elim
  · rw [e]; exact q
theorem s_del {o i : Rho → AH → Ot AV} : YesS (ddelS o i ρ ah) N P ↔ Yes (o ρ ah) fun x ah1 => Yes (i ρ ah1) fun y ah2 => ∃ p, dpopA ah2 x y = some p ∧ N ρ p.2 := by
  unfold ddelS
  rw [YesS.to]
  refine ⟨fun h => h.imp fun v ah1 q => (YesS.to.mp q).imp fun x ah2 q => ?_, fun h => h.imp fun v ah1 q => YesS.to.mpr (q.imp fun x ah2 ⟨ah3, e, q⟩ => ?_)⟩
  · split at q
    · exact ⟨_, by assumption, q⟩
    · exact q.elim
  · rw [e]; exact q
/-- o.f op= e, where e changes nothing -/
theorem s_attA {cs : List Str} {f : Str} {op : Operator} {o a : Rho → AH → Ot AV} (h : Yes (o ρ ah) fun x ah1 => ∃ v, attA cs f ah1 x = some v ∧ Yes (a ρ ah1) fun y ah2 => ah2 = ah1 ∧ ∃ z, iopF op ah1 v y = some z ∧ ∃ ah3, putAtt cs f ah1 x z = some ah3 ∧ N ρ ah3) : YesS (attAugS cs f op o a ρ ah) N P := by
  unfold attAugS
  rw [YesS.to]
  refine h.imp fun x ah1 ⟨v, e1, q⟩ => ?_
  rw [e1]
  dsimp only
  rw [YesS.to]
  refine q.imp fun y ah2 ⟨e2, z, e3, ah3, e4, r⟩ => ?_
  subst e2
  rw [e3]
  dsimp only
  rw [if_pos rfl, e4]
  exact r
end
/-! what raises -/
section
variable {ρ : Rho} {ah ah1 : AH} {x : EX}
theorem mx {cs : List (Str × Str)} {call : Str → List AV → AH → Ot AV} {ar : Str → Nat} {m f : Str} {o : Rho → AH → Ot AV} {a : Rho → AH → Ot (List AV)} {v : AV} {xs : List AV} (ho : o ρ ah = .ok v ah) (hm : metA cs m ah v = some f) (ha : a ρ ah = .ok xs ah) (hl : (v :: xs).length = ar f) (h : call f (v :: xs) ah = .ex x ah1) : mcallF cs call ar m o a ρ ah = .ex x ah1 := by
  unfold mcallF
  rw [ho]
  show (match metA cs m ah v with | none => Ot.st | some f => _) = _
  rw [hm]
  dsimp only
  rw [ha]
  show (if _ then _ else _) = _
  rw [if_pos hl, h]
theorem ifx {t : Rho → AH → Ot Bool} {a b : Rho → AH → Ot AV} {c : Bool} (ht : t ρ ah = .ok c ah) (h : (if c = true then a ρ ah else b ρ ah) = .ex x ah1) : ifF t a b ρ ah = .ex x ah1 := by
  unfold ifF
  rw [ht]
  exact h
theorem sx_ret {a : Rho → AH → Ot AV} {rest : Rho → AH → SR} (ha : a ρ ah = .ex x ah1) : seqF (retF a) rest ρ ah = .ex x ρ ah1 := by
  unfold seqF retF
  rw [ha]
  rfl
theorem lst2x {v : AV} {g : Rho → AH → Ot AV} (h : g ρ ah = .ex x ah1) : lstF (aCons (cF v) (aCons g aNil)) ρ ah = .ex x ah1 := by
  unfold lstF aCons
  show (Ot.bind ((g ρ ah).bind _) _).bind _ = _
  rw [h]
  rfl
end
end Ko

/-! Ko, part Za: texts by their signs; things that are handed on; what else stays as it is. -/
namespace Ko
open PySem L2 NumText
local macro_rules | `(tactic| walk_at "ko_ev_KoZa") => `(tactic| simp only [YesS.fin, semD, den, mkE, mkT, mkX, mkS, YesS.seq, YesS.nil, YesS.ret, YesS.ifS, YesS.asg, y_c, y_v, y_f2, y_f1, y_fA, y_nil, y_cons, y_tup, y_lst, y_lstM, y_dic0, y_tF, y_bF, y_tAnd, y_tOr, y_tNot, y_not, y_and, y_or, y_if, y_call, y_kw, y_chain, y_slc, y_pN, y_pS, y_isi, y_ms, y_src, y_rng1, y_comp, y_yes, s_exp, s_par2, s_sub, s_for, y_mcall, y_new, y_dget, y_dpop, y_dicN, y_dicC, y_lstC, y_srt, y_srtM, y_app', s_putD, s_att, s_del, ops_call, ops_ar, Yes.ok, nu_isascii, nu_isprintable, nu_isalpha, nu_islower, nu_isdigit, nu_join, nu_count, nu_startswith, nu_endswith, nu_zfill, nu_stripC])
local macro_rules | `(tactic| walk_at "ko_ar_KoZa") => `(tactic| simp only [ex_some, ex_ite, bin_add, bin_sub, bin_mul, bin_div, bin_mod, bin_pow, add_ii, sub_ii, mul_ii, div_ii, mod_ii, pow_ii, neg_i, cmp_eq, cmp_ne, cmp_lt, cmp_le, cmp_gt, cmp_ge, cmp_is, cmp_isn, lt_ii, le_ii, gt_ii, ge_ii, eq_ii, ne_ii, tru_b, tru_i, as_b, int_i, abs_i, put_nm, put_tup, put_lst])
local macro_rules | `(tactic| walk_at "ko_li_KoZa") => `(tactic| simp only [List.getElem?_cons_zero, List.getElem?_cons_succ, List.set_cons_succ, List.set_cons_zero, putl_nil, putl_cons, put_nm, put_tup, put_lst, Option.bind_some])
abbrev Ls (z : Str) : List Nat := z.cps.toList
def mk (l : List Nat) : Str := ⟨l.toArray⟩
theorem ls_mk (l : List Nat) : Ls (mk l) = l := by simp [mk]
theorem str_ext {x y : Str} (h : Ls x = Ls y) : x = y := by
  cases x; cases y
  simp only [Str.mk.injEq]
  exact Array.toList_inj.mp h
theorem len_ls (z : Str) : z.length = (Ls z).length := by simp [Str.length]
theorem ls_app (x y : Str) : Ls (x ++ y) = Ls x ++ Ls y := by
  show ((x.cps ++ y.cps)).toList = _
  simp
def sb (z : Str) (a b : Nat) : Str := mk (((Ls z).drop a).take (b - a))
theorem cut_sb {z : Str} {a b : Nat} (h : a ≤ b) : cutS z (some (a : Int)) (some (b : Int)) = sb z a b := by
  unfold cutS sb mk
  rw [HT.sIx_nat, HT.sIx_nat, len_ls]
  congr 2
  by_cases h1 : a ≤ (Ls z).length
  · rw [Nat.min_eq_left h1]
    by_cases h2 : b ≤ (Ls z).length
    · rw [Nat.min_eq_left h2]
    · have e1 : ((Ls z).drop a).length = (Ls z).length - a := List.length_drop ..
      have e2 : (List.drop a z.cps.toList).length = (Ls z).length - a := e1
      rw [Nat.min_eq_right (by omega), List.take_of_length_le (by omega), List.take_of_length_le (by omega)]
  · rw [Nat.min_eq_right (by omega), Nat.min_eq_right (by omega), List.drop_eq_nil_of_le (Nat.le_refl _), List.drop_eq_nil_of_le (by omega), List.take_nil, List.take_nil]
theorem cut_pre {z : Str} {b : Nat} : cutS z none (some (b : Int)) = sb z 0 b := by
  have := cut_sb (z := z) (a := 0) (b := b) (Nat.zero_le _)
  rw [← this]; rfl
theorem sz : sizeLine = 16777216 := by decide
theorem slc_s {ah : AH} {z : Str} {lo hi : Option Int} : slF ah (.str z) lo hi = if z.length ≤ sizeLine then some (.str (cutS z lo hi)) else none := rfl
theorem ne_ss {ah : AH} {x y : Str} : neF ah (.str x) (.str y) = some (.bl !decide (x = y)) := rfl
theorem eq_ss {ah : AH} {x y : Str} : eqF ah (.str x) (.str y) = some (.bl (decide (x = y))) := rfl
theorem asI_i {i : Int} : asI (.int i) = some i := rfl
theorem asBls_map {α : Type} {f : α → Bool} : ∀ l : List α, asBls (l.map fun c => AV.bl (f c)) = some (l.map f)
  | [] => rfl
  | c :: l => by simp only [List.map_cons, asBls, asBls_map l, Option.map_some]
/-- a value that can be judged -/
structure VOk (ah : AH) (v : AV) : Prop where
  ty : ∃ t, tyA ah v = some t
  len : ∀ z, v = .str z → z.length ≤ 200000
def sgB : AV → Bool | .str z => Txt.isascii z && Txt.isprintable z | _ => false
theorem ty_str {ah : AH} {v : AV} {t : String} (h : tyA ah v = some t) : (∃ z, v = .str z ∧ t = "str") ∨ ((∀ z, v ≠ .str z) ∧ [Ty.str].any (isTy t) = false) := by
  cases v with
  | str z => cases h; exact .inl ⟨z, rfl, rfl⟩
  | ref n =>
    refine .inr ⟨fun z => by simp, ?_⟩
    simp only [tyA] at h
    split at h
    · cases h; rfl
    · cases h; rfl
    · cases h
  | _ => refine .inr ⟨fun z => by simp, ?_⟩; cases h; rfl
/-- a value that can be shown -/
structure Val (v : AV) : Prop where
  ok : okA v = true
  bk : bkA v ≤ 4000
  dp : dpA v ≤ 5
  len : ∀ z, v = .str z → z.length ≤ 1000
/-- t is passed for v: a list or a dict of its own, or v itself -/
inductive Thg (ah : AH) : AV → AV → Prop
  | non : Thg ah .non .non
  | bl (b : Bool) : Thg ah (.bl b) (.bl b)
  | int (i : Int) : Thg ah (.int i) (.int i)
  | str (z : Str) : Thg ah (.str z) (.str z)
  | tup (xs : List AV) : Thg ah (.tup xs) (.tup xs)
  | lst {n : Nat} {xs : List AV} : ah[n]? = some (.lst xs) → Thg ah (.ref n) (.lst xs)
  | dct {n : Nat} {kvs : List (Key × AV)} : ah[n]? = some (.dct kvs) → Thg ah (.ref n) (.dct kvs)
theorem Thg.dat {ah : AH} {t v : AV} (h : Thg ah t v) (o : okA v = true) : ∃ d, dat v = some d ∧ datH ah t = some d := by
  obtain ⟨d, e, _⟩ := okA_dat o
  refine ⟨d, e, ?_⟩
  cases h with
  | lst h =>
    show datR ah _ = _
    unfold datR
    rw [h]
    exact e
  | dct h =>
    show datR ah _ = _
    unfold datR
    rw [h]
    exact e
  | _ => exact dat_H e
theorem repr_as {ah : AH} {a v : AV} {d : PyData} (h1 : Ko.dat v = some d) (h2 : datH ah a = some d) (ok : okA v = true) (hb : bkA v ≤ 10000) (hd : dpA v ≤ 60) : ∃ z, reprF ah a = some (.str z) := by
  obtain ⟨z, hz⟩ := repr_ok ok hb hd
  refine ⟨z, ?_⟩
  rw [← hz ah]
  unfold reprF
  rw [h2, dat_H h1]
/-- two things -/
theorem repr_two {ah : AH} {t v : AV} {w : Str} (h : Thg ah t v) (V1 : okA v = true) (V2 : bkA v ≤ 5000) (V3 : dpA v ≤ 6) (hw : okA (.str w) = true ∧ bkA (.str w) ≤ 10) : ∃ z, biF .repr ah [.lst [.str w, t]] = some (.str z) := by
  obtain ⟨d, e1, e2⟩ := h.dat V1
  refine repr_as (v := .lst [.str w, v]) (d := .list [.str w, d]) ?_ ?_ ?_ ?_ ?_
  · simp only [Ko.dat, datL, e1, Option.bind_some, Option.map_some]
  · simp only [datH, datHL, e2, Option.bind_some, Option.map_some]
  · simp only [okA, okL, V1, Bool.and_true]
    have := hw.1
    simpa only [okA] using this
  · have := hw.2
    simp only [bkA, bkL] at *
    omega
  · simp only [dpA, dpL]
    omega
theorem ty_refL {ah : AH} {n : Nat} {xs : List AV} (h : ah[n]? = some (.lst xs)) : tyA ah (.ref n) = some "list" := by
  show (match ah[n]? with | some (.lst _) => some "list" | some (.dct _) => some "dict" | _ => none) = _
  rw [h]
theorem ty_refD {ah : AH} {n : Nat} {kvs : List (Key × AV)} (h : ah[n]? = some (.dct kvs)) : tyA ah (.ref n) = some "dict" := by
  show (match ah[n]? with | some (.lst _) => some "list" | some (.dct _) => some "dict" | _ => none) = _
  rw [h]
theorem Thg.ty {ah : AH} {t v : AV} (h : Thg ah t v) : ∃ y, tyA ah t = some y := by
  cases h with
  | lst h => exact ⟨_, ty_refL h⟩
  | dct h => exact ⟨_, ty_refD h⟩
  | _ => exact ⟨_, rfl⟩
theorem Thg.vok {ah : AH} {t v : AV} (h : Thg ah t v) (V : Val v) : VOk ah t := ⟨h.ty, fun z e => by
  subst e
  cases h
  exact Nat.le_trans (V.len _ rfl) (by decide)⟩
/-- all but S stays as it is -/
structure Oth (S : List Nat) (ah ah' : AH) : Prop where
  len : ah.length ≤ ah'.length
  eq : ∀ m, m < ah.length → m ∉ S → ah'[m]? = ah[m]?
theorem Oth.rfl' {S : List Nat} {ah : AH} : Oth S ah ah := ⟨Nat.le_refl _, fun _ _ _ => rfl⟩
theorem Oth.trans {S : List Nat} {a b c : AH} (h : Oth S a b) (g : Oth S b c) : Oth S a c := ⟨Nat.le_trans h.len g.len, fun m hm hs => (g.eq m (Nat.lt_of_lt_of_le hm h.len) hs).trans (h.eq m hm hs)⟩
theorem Oth.mono {S T : List Nat} {a b : AH} (h : Oth S a b) (t : ∀ m ∈ S, m ∈ T) : Oth T a b := ⟨h.len, fun m hm hs => h.eq m hm fun q => hs (t m q)⟩
theorem Oth.app {S : List Nat} {ah tl : AH} : Oth S ah (ah ++ tl) := ⟨by rw [List.length_append]; omega, fun m hm _ => List.getElem?_append_left hm⟩
theorem Oth.set {ah : AH} {n : Nat} {o : AO} : Oth [n] ah (ah.set n o) := ⟨by rw [List.length_set]; exact Nat.le_refl _, fun m _ hs => List.getElem?_set_ne fun e => hs (by simp [e])⟩
theorem Oth.at {S : List Nat} {a b : AH} {m : Nat} {o : AO} (h : Oth S a b) (e : a[m]? = some o) (hs : m ∉ S) : b[m]? = some o := (h.eq m (List.getElem?_eq_some_iff.mp e).1 hs).trans e
theorem Oth.ofBox {F ah : AH} {n : Nat} {c : Int} (B : Box F ah n c) (hn : n < F.length) : Oth [n] F ah := by
  have hk : ∀ m, m < F.length → m ∉ [n] → ah[m]? = F[m]? := fun m hm hs => by
    have e := List.getElem?_eq_getElem hm
    rw [e]
    exact B.keeps (by simpa using hs) e
  refine ⟨?_, hk⟩
  by_cases q : F.length = n + 1
  · have := B.lt
    omega
  · have h1 : F.length - 1 ∉ [n] := fun z => q (by have := List.mem_singleton.mp z; omega)
    have hl : F.length - 1 < F.length := by omega
    have h2 := hk (F.length - 1) hl h1
    rw [List.getElem?_eq_getElem hl] at h2
    have h3 := (List.getElem?_eq_some_iff.mp h2).1
    omega
theorem Box.oth {ah ah' : AH} {n : Nat} {c : Int} {S : List Nat} (B : Box ah ah n c) (h : Oth S ah ah') (hs : n ∉ S) : Box ah' ah' n c := by
  obtain ⟨a, b, x, d, h1, h2, h3, h4, h5, h6, _⟩ := B
  exact ⟨a, b, x, d, h.at h1 hs, h2, h3, h4, h5, h6, fun _ _ _ e => e⟩
end Ko

/-! Ko, part Zb: disks of files, for any text. -/
namespace Ko
open PySem L2 NumText
local macro_rules | `(tactic| walk_at "ko_ev_KoZb") => `(tactic| simp only [YesS.fin, semD, den, mkE, mkT, mkX, mkS, YesS.seq, YesS.nil, YesS.ret, YesS.ifS, YesS.asg, y_c, y_v, y_f2, y_f1, y_fA, y_nil, y_cons, y_tup, y_lst, y_lstM, y_dic0, y_tF, y_bF, y_tAnd, y_tOr, y_tNot, y_not, y_and, y_or, y_if, y_call, y_kw, y_chain, y_slc, y_pN, y_pS, y_isi, y_ms, y_src, y_rng1, y_comp, y_yes, s_exp, s_par2, s_sub, s_for, y_mcall, y_new, y_dget, y_dpop, y_dicN, y_dicC, y_lstC, y_srt, y_srtM, y_app', s_putD, s_att, s_del, ops_call, ops_ar, Yes.ok, nu_isascii, nu_isprintable, nu_isalpha, nu_islower, nu_isdigit, nu_join, nu_count, nu_startswith, nu_endswith, nu_zfill, nu_stripC])
local macro_rules | `(tactic| walk_at "ko_ar_KoZb") => `(tactic| simp only [ex_some, ex_ite, bin_add, bin_sub, bin_mul, bin_div, bin_mod, bin_pow, add_ii, sub_ii, mul_ii, div_ii, mod_ii, pow_ii, neg_i, cmp_eq, cmp_ne, cmp_lt, cmp_le, cmp_gt, cmp_ge, cmp_is, cmp_isn, lt_ii, le_ii, gt_ii, ge_ii, eq_ii, ne_ii, tru_b, tru_i, as_b, int_i, abs_i, put_nm, put_tup, put_lst])
local macro_rules | `(tactic| walk_at "ko_li_KoZb") => `(tactic| simp only [List.getElem?_cons_zero, List.getElem?_cons_succ, List.set_cons_succ, List.set_cons_zero, putl_nil, putl_cons, put_nm, put_tup, put_lst, Option.bind_some])
local macro_rules | `(tactic| walk_at "ko_bo_KoZb") => `(tactic| simp only [Bool.not_true, Bool.not_false, if_true, if_false, Bool.false_eq_true, reduceIte])
def q_Disk_synced : T := (.cons (.sExp (.mcall [("Disk", "Disk.check_file")] "check_file" (.var 0) (.cons (.var 1) .nil))) (.cons (.sRet (.dsub (.att ["Disk"] "marks" (.var 0)) (.var 1))) .nil))
def q_Disk_read : T := (.cons (.sExp (.mcall [("Disk", "Disk.check_file")] "check_file" (.var 0) (.cons (.var 1) .nil))) (.cons (.sRet (.dsub (.att ["Disk"] "files" (.var 0)) (.var 1))) .nil))
def q_Disk_drop : T := (.cons (.sExp (.mcall [("Disk", "Disk.check_file")] "check_file" (.var 0) (.cons (.var 1) .nil))) (.cons (.sExp (.mcall [("Disk", "Disk.use_power")] "use_power" (.var 0) .nil)) (.cons (.sDel (.att ["Disk"] "files" (.var 0)) (.var 1)) (.cons (.sDel (.att ["Disk"] "marks" (.var 0)) (.var 1)) .nil))))
def q_Disk_sync : T := (.cons (.sExp (.mcall [("Disk", "Disk.check_file")] "check_file" (.var 0) (.cons (.var 1) .nil))) (.cons (.sExp (.mcall [("Disk", "Disk.use_power")] "use_power" (.var 0) .nil)) (.cons (.sPutD (.att ["Disk"] "marks" (.var 0)) (.var 1) (.bi .len (.cons (.dsub (.att ["Disk"] "files" (.var 0)) (.var 1)) .nil))) .nil)))
def q_Disk_write : T := (.cons (.sIf (.not (.call "is_file_name" (.cons (.var 1) .nil))) (.cons (.sRaise "InvalidName" ["given"] (.cons (.var 1) .nil)) .nil) .nil) (.cons (.sIf (.or (.not (.call "is_signs" (.cons (.var 2) .nil))) (.cmp .Eq (.var 2) (.cS ""))) (.cons (.sRaise "InvalidText" ["given"] (.cons (.var 2) .nil)) .nil) .nil) (.cons (.sExp (.mcall [("Disk", "Disk.use_power")] "use_power" (.var 0) .nil)) (.cons (.sPutD (.att ["Disk"] "files" (.var 0)) (.var 1) (.bin .Add (.dget (.att ["Disk"] "files" (.var 0)) (.var 1) (.cS "")) (.var 2))) (.cons (.sPutD (.att ["Disk"] "marks" (.var 0)) (.var 1) (.dget (.att ["Disk"] "marks" (.var 0)) (.var 1) (.cI 0))) .nil)))))
def q_Disk_names : T := (.cons (.sRet (.srtM (.bi .list (.cons (.att ["Disk"] "files" (.var 0)) .nil)))) .nil)
def q_Disk_ops : T := (.cons (.sRet (.att ["Disk"] "calls" (.var 0))) .nil)
def q_Disk___init__ : T := (.cons (.sAtt ["Disk"] "files" (.var 0) .dicN) (.cons (.sAtt ["Disk"] "marks" (.var 0) .dicN) (.cons (.sAtt ["Disk"] "calls" (.var 0) (.cI 0)) (.cons (.sAtt ["Disk"] "left" (.var 0) .cN) .nil))))
def q_Disk_check_file : T := (.cons (.sIf (.not (.call "is_file_name" (.cons (.var 1) .nil))) (.cons (.sRaise "InvalidName" ["given"] (.cons (.var 1) .nil)) .nil) .nil) (.cons (.sIf (.dni (.var 1) (.att ["Disk"] "files" (.var 0))) (.cons (.sRaise "NoFile" ["name"] (.cons (.var 1) .nil)) .nil) .nil) .nil))
def q_Disk_use_power : T := (.cons (.sIf (.cmp .Eq (.att ["Disk"] "left" (.var 0)) (.cI 0)) (.cons .sDead .nil) .nil) (.cons (.sIf (.cmp .IsNot (.att ["Disk"] "left" (.var 0)) .cN) (.cons (.sAttA ["Disk"] "left" .Sub (.var 0) (.cI 1)) .nil) .nil) (.cons (.sAttA ["Disk"] "calls" .Add (.var 0) (.cI 1)) .nil)))
def q_is_signs : T := (.cons (.sRet (.and (.isi [.str] (.var 0)) (.and (.mi .isascii (.var 0) .nil) (.mi .isprintable (.var 0) .nil)))) .nil)
def q_is_file_name : T := (.cons (.sIf (.or (.not (.isi [.str] (.var 0))) (.not (.cmp2 .LtE .LtE (.cI 1) (.bi .len (.cons (.var 0) .nil)) (.gl "MOST_NAME" (.int 12))))) (.cons (.sRet (.cB false)) .nil) .nil) (.cons (.sRet (.bi .all (.cons (.comp [("sign", 1)] (.nm 1) (.var 0) .nil (.cmp .In (.var 1) (.gl "NAME_SIGNS" (.str "abcdefghijklmnopqrstuvwxyz0123456789-")))) .nil))) .nil))
/-- the text has these disks -/
structure Dk (ds : List Df) : Prop where
  g_Disk_synced : ∃ d, findD ds "Disk.synced" = some d ∧ d.N = (["self", "name"] : List Str) ∧ d.t = q_Disk_synced
  r_Disk_synced : arD ds "Disk.synced" = 2
  g_Disk_read : ∃ d, findD ds "Disk.read" = some d ∧ d.N = (["self", "name"] : List Str) ∧ d.t = q_Disk_read
  r_Disk_read : arD ds "Disk.read" = 2
  g_Disk_drop : ∃ d, findD ds "Disk.drop" = some d ∧ d.N = (["self", "name"] : List Str) ∧ d.t = q_Disk_drop
  r_Disk_drop : arD ds "Disk.drop" = 2
  g_Disk_sync : ∃ d, findD ds "Disk.sync" = some d ∧ d.N = (["self", "name"] : List Str) ∧ d.t = q_Disk_sync
  r_Disk_sync : arD ds "Disk.sync" = 2
  g_Disk_write : ∃ d, findD ds "Disk.write" = some d ∧ d.N = (["self", "name", "text"] : List Str) ∧ d.t = q_Disk_write
  r_Disk_write : arD ds "Disk.write" = 3
  g_Disk_names : ∃ d, findD ds "Disk.names" = some d ∧ d.N = (["self"] : List Str) ∧ d.t = q_Disk_names
  r_Disk_names : arD ds "Disk.names" = 1
  g_Disk_ops : ∃ d, findD ds "Disk.ops" = some d ∧ d.N = (["self"] : List Str) ∧ d.t = q_Disk_ops
  r_Disk_ops : arD ds "Disk.ops" = 1
  g_Disk___init__ : ∃ d, findD ds "Disk.__init__" = some d ∧ d.N = (["self"] : List Str) ∧ d.t = q_Disk___init__
  r_Disk___init__ : arD ds "Disk.__init__" = 1
  g_Disk_check_file : ∃ d, findD ds "Disk.check_file" = some d ∧ d.N = (["self", "name"] : List Str) ∧ d.t = q_Disk_check_file
  r_Disk_check_file : arD ds "Disk.check_file" = 2
  g_Disk_use_power : ∃ d, findD ds "Disk.use_power" = some d ∧ d.N = (["self"] : List Str) ∧ d.t = q_Disk_use_power
  r_Disk_use_power : arD ds "Disk.use_power" = 1
  g_is_signs : ∃ d, findD ds "is_signs" = some d ∧ d.N = (["value"] : List Str) ∧ d.t = q_is_signs
  r_is_signs : arD ds "is_signs" = 1
  g_is_file_name : ∃ d, findD ds "is_file_name" = some d ∧ d.N = (["value", "sign"] : List Str) ∧ d.t = q_is_file_name
  r_is_file_name : arD ds "is_file_name" = 1
/-! files -/
abbrev Ent := Str × Str × Int
def dcE (g : Str × Int → AV) (L : List Ent) : List (Key × AV) := L.map fun e => (.inr e.1, g e.2)
abbrev gF : Str × Int → AV := fun p => .str p.1
abbrev gM : Str × Int → AV := fun p => .int p.2
abbrev gO : Str × Int → AV := fun p => .lst [.str p.1, .int p.2]
def atE (L : List Ent) (z : Str) : Option (Str × Int) := (L.find? fun e => decide (e.1 = z)).map (·.2)
def putE (L : List Ent) (z t : Str) (m : Int) : List Ent := if (L.any fun e => decide (e.1 = z)) = true then L.map (fun e => if e.1 = z then (e.1, t, m) else e) else L ++ [(z, t, m)]
def dropE (L : List Ent) (z : Str) : List Ent := L.filter fun e => decide (e.1 ≠ z)
def nms (L : List Ent) : List Str := L.map (·.1)
theorem inr_eq {a b : Str} : ((.inr a : Key) = .inr b) = (a = b) := by simp
theorem dc_val {g : Str × Int → AV} {z : Str} : ∀ L : List Ent, valA (dcE g L) (.inr z) = (atE L z).map g
  | [] => rfl
  | e :: L => by
    have ih := dc_val (g := g) (z := z) L
    unfold valA dcE atE at *
    rw [List.map_cons, List.find?_cons, List.find?_cons]
    by_cases h : e.1 = z
    · simp [h]
    · simp only [inr_eq, h, decide_false]
      exact ih
theorem dc_any {g : Str × Int → AV} {z : Str} (L : List Ent) : ((dcE g L).any fun kv => decide (kv.1 = .inr z)) = L.any fun e => decide (e.1 = z) := by
  unfold dcE
  rw [List.any_map]
  congr 1
  funext e
  simp
theorem dc_put {g : Str × Int → AV} {z t : Str} {m : Int} {v : AV} (h : g (t, m) = v) (L : List Ent) : putA (dcE g L) (.inr z) v = dcE g (putE L z t m) := by
  unfold putA putE
  rw [dc_any]
  by_cases q : (L.any fun e => decide (e.1 = z)) = true
  · rw [if_pos q, if_pos q]
    unfold dcE
    rw [List.map_map, List.map_map]
    refine List.map_congr_left fun e _ => ?_
    simp only [Function.comp, inr_eq]
    by_cases hz : e.1 = z
    · rw [if_pos hz, if_pos hz, ← h]
    · rw [if_neg hz, if_neg hz]
  · rw [if_neg q, if_neg q]
    unfold dcE
    rw [List.map_append, ← h]; rfl
theorem dc_drop {g : Str × Int → AV} {z : Str} : ∀ L : List Ent, dropA (dcE g L) (.inr z) = dcE g (dropE L z)
  | [] => rfl
  | e :: L => by
    have ih := dc_drop (g := g) (z := z) L
    unfold dropA dcE dropE at *
    rw [List.map_cons, List.filter_cons, List.filter_cons]
    by_cases h : e.1 = z
    · simp only [h, ne_eq, not_true_eq_false, decide_false]
      simpa using ih
    · simp only [inr_eq, ne_eq, h, not_false_eq_true, decide_true, if_true, List.map_cons]
      rw [← ih]
theorem at_mem {L : List Ent} {z : Str} {p : Str × Int} (h : atE L z = some p) : (z, p) ∈ L := by
  unfold atE at h
  rw [Option.map_eq_some_iff] at h
  obtain ⟨e, h1, rfl⟩ := h
  have := List.find?_some h1
  have hz : e.1 = z := of_decide_eq_true this
  rw [← hz]
  exact List.mem_of_find?_eq_some h1
theorem at_any {L : List Ent} {z : Str} : (L.any fun e => decide (e.1 = z)) = (atE L z).isSome := by
  unfold atE
  rw [Option.isSome_map]
  induction L with
  | nil => rfl
  | cons e L ih =>
    rw [List.any_cons, List.find?_cons]
    by_cases h : e.1 = z
    · simp [h]
    · simp only [h, decide_false, Bool.false_or]; exact ih
theorem at_of {L : List Ent} {z : Str} (h : z ∈ nms L) : ∃ p, atE L z = some p := by
  have : (L.any fun e => decide (e.1 = z)) = true := by
    obtain ⟨e, h1, rfl⟩ := List.mem_map.mp h
    exact List.any_eq_true.mpr ⟨e, h1, by simp⟩
  rw [at_any] at this
  exact Option.isSome_iff_exists.mp this
/-- a row of files -/
structure LOk (L : List Ent) (N : Nat) : Prop where
  nd : (nms L).Nodup
  len : L.length ≤ N
  tx : ∀ e ∈ L, e.2.1.length ≤ 300 * N ∧ (∀ c ∈ Ls e.2.1, c < 1114112) ∧ (∀ c ∈ Ls e.1, c < 1114112) ∧ e.1.length ≤ 20
theorem nms_put {L : List Ent} {z t : Str} {m : Int} (h : atE L z ≠ none) : nms (putE L z t m) = nms L := by
  unfold putE nms
  rw [at_any]
  cases e : atE L z with
  | none => exact absurd e h
  | some p =>
    rw [if_pos (show (some p).isSome = true from rfl), List.map_map]
    refine List.map_congr_left fun e _ => ?_
    show (if e.1 = z then _ else e).1 = e.1
    split <;> rfl
theorem same_put {g : Str × Int → AV} {L : List Ent} {z t : Str} {m : Int} {p : Str × Int} (nd : (nms L).Nodup) (h : atE L z = some p) (hg : g (t, m) = g p) : dcE g (putE L z t m) = dcE g L := by
  unfold putE
  rw [at_any, h, if_pos (show (some p).isSome = true from rfl)]
  unfold dcE
  rw [List.map_map]
  refine List.map_congr_left fun e he => ?_
  show ((Sum.inr (if e.1 = z then (e.1, t, m) else e).1 : Key), g (if e.1 = z then (e.1, t, m) else e).2) = _
  by_cases q : e.1 = z
  · rw [if_pos q]
    have hm := at_mem h
    have : e = (z, p) := by
      have nd' : L.Pairwise fun a b => a.1 ≠ b.1 := List.pairwise_map.mp nd
      refine Decidable.byContradiction fun hne => ?_
      have key : ∀ {l : List Ent}, l.Pairwise (fun a b => a.1 ≠ b.1) → ∀ a ∈ l, ∀ b ∈ l, a.1 = b.1 → a = b := fun {l} => by
        induction l with
        | nil => intro _ a ha; exact absurd ha List.not_mem_nil
        | cons x l ih =>
          intro hp a ha b hb hab
          obtain ⟨p1, p2⟩ := List.pairwise_cons.mp hp
          rcases List.mem_cons.mp ha with rfl | ha <;> rcases List.mem_cons.mp hb with rfl | hb
          · rfl
          · exact absurd hab (p1 b hb)
          · exact absurd hab.symm (p1 a (by assumption))
          · exact ih p2 a ha b hb hab
      exact hne (key nd' e he _ hm q)
    rw [this]
    exact Prod.ext rfl hg
  · rw [if_neg q]
theorem LOk.put {L : List Ent} {N : Nat} {z t : Str} {m : Int} (h : LOk L N) (ht : t.length ≤ 300 * (N + 1)) (hc : ∀ c ∈ Ls t, c < 1114112) (hz : ∀ c ∈ Ls z, c < 1114112) (lz : z.length ≤ 20) : LOk (putE L z t m) (N + 1) := by
  have hx : ∀ e ∈ putE L z t m, e ∈ L ∨ (e.1 = z ∧ e.2 = (t, m)) := fun e he => by
    unfold putE at he
    split at he
    · obtain ⟨u, h1, rfl⟩ := List.mem_map.mp he
      by_cases q : u.1 = z
      · rw [if_pos q]; exact .inr ⟨q, rfl⟩
      · rw [if_neg q]; exact .inl h1
    · rcases List.mem_append.mp he with q | q
      · exact .inl q
      · rw [List.mem_singleton.mp q]; exact .inr ⟨rfl, rfl⟩
  refine ⟨?_, ?_, fun e he => ?_⟩
  · by_cases q : atE L z = none
    · unfold putE nms
      rw [at_any, q, if_neg (by decide), List.map_append]
      refine List.nodup_append.mpr ⟨h.nd, by simp, fun a ha b hb e => ?_⟩
      have hb : b = z := by simpa using hb
      subst e hb
      obtain ⟨p, hp⟩ := at_of ha
      rw [hp] at q; cases q
    · rw [nms_put q]; exact h.nd
  · have := h.len
    unfold putE
    split
    · rw [List.length_map]; omega
    · rw [List.length_append]; simp; omega
  · rcases hx e he with q | ⟨q1, q2⟩
    · have := h.tx e q
      exact ⟨by omega, this.2⟩
    · rw [q1, q2]; exact ⟨ht, hc, hz, lz⟩
theorem LOk.mono {L : List Ent} {N M : Nat} (h : LOk L N) (q : N ≤ M) : LOk L M := ⟨h.nd, Nat.le_trans h.len q, fun e he => ⟨Nat.le_trans (h.tx e he).1 (Nat.mul_le_mul_left _ q), (h.tx e he).2⟩⟩
theorem LOk.drop {L : List Ent} {N : Nat} {z : Str} (h : LOk L N) : LOk (dropE L z) N := ⟨(List.filter_sublist.map _).nodup h.nd, Nat.le_trans (List.length_filter_le _ _) h.len, fun e he => h.tx e (List.mem_filter.mp he).1⟩
theorem LOk.nil : LOk [] 0 := ⟨.nil, Nat.le_refl _, fun e he => absurd he List.not_mem_nil⟩
def dkF (d : Nat) (c : Int) : List (Str × AV) := [("files", .ref (d + 1)), ("marks", .ref (d + 2)), ("calls", .int c), ("left", .non)]
/-- the disk at d -/
structure Dsk (ah : AH) (d : Nat) (L : List Ent) (c : Int) : Prop where
  ob : ah[d]? = some (.ins "Disk" (dkF d c))
  fi : ah[d + 1]? = some (.dct (dcE gF L))
  ma : ah[d + 2]? = some (.dct (dcE gM L))
theorem Dsk.oth {ah ah' : AH} {d : Nat} {L : List Ent} {c : Int} {S : List Nat} (K : Dsk ah d L c) (h : Oth S ah ah') (h0 : d ∉ S) (h1 : d + 1 ∉ S) (h2 : d + 2 ∉ S) : Dsk ah' d L c := ⟨h.at K.ob h0, h.at K.fi h1, h.at K.ma h2⟩
theorem Dsk.ins {ah : AH} {d : Nat} {L : List Ent} {c : Int} (K : Dsk ah d L c) : insA ah (.ref d) = some (d, ("Disk" : Str), dkF d c) := by
  unfold insA
  dsimp only
  rw [K.ob]
theorem Dsk.att {ah : AH} {d : Nat} {L : List Ent} {c : Int} (K : Dsk ah d L c) : attA ["Disk"] "files" ah (.ref d) = some (.ref (d + 1)) ∧ attA ["Disk"] "marks" ah (.ref d) = some (.ref (d + 2)) ∧ attA ["Disk"] "calls" ah (.ref d) = some (.int c) ∧ attA ["Disk"] "left" ah (.ref d) = some .non := by
  unfold attA
  rw [K.ins]
  exact ⟨rfl, rfl, rfl, rfl⟩
theorem Dsk.met {ah : AH} {d : Nat} {L : List Ent} {c : Int} {m f : Str} (K : Dsk ah d L c) (h : (dkF d c).lookup m = none) : metA [("Disk", f)] m ah (.ref d) = some f := by
  unfold metA
  rw [K.ins]
  show (if ((dkF d c).lookup m).isNone = true then List.lookup "Disk" [("Disk", f)] else none) = _
  rw [h]; rfl
def nch (c : Nat) : Bool := decide (c ∈ Ls "abcdefghijklmnopqrstuvwxyz0123456789-")
def nmB : AV → Bool | .str z => decide (1 ≤ z.length ∧ z.length ≤ 12) && (Ls z).all nch | _ => false
section
variable {ds : List Df} (D : Dk ds)
include D
theorem c_isfn {k : Nat} {v : AV} {ah : AH} (h : VOk ah v) : Yes (cl ds (k + 1) "is_file_name" [v] ah) fun r ah' => r = .bl (nmB v) ∧ ah' = ah := by
  obtain ⟨dt, ft, hN, ht⟩ := D.g_is_file_name
  obtain ⟨t, hty⟩ := h.ty
  rw [cl_eq ft]
  simp only [semD, hN, ht, q_is_file_name]
  walk_at "ko_ev_KoZb"
  simp only [show startA ["value", "sign"] [v] = [some v, none] from rfl]
  walk_at "ko_li_KoZb"
  rcases ty_str hty with ⟨z, rfl, rfl⟩ | ⟨h1, h2⟩
  · have hl := h.len z rfl
    refine ⟨"str", rfl, true, rfl, ?_⟩
    rw [if_neg (by decide), len_s, if_pos (by rw [sz]; omega), ex_some, cmp_le, le_ii, as_b, ex_some]
    have hf : ∀ b : Bool, b = (Ls z).all nch → AV.bl (decide (1 ≤ z.length ∧ z.length ≤ 12) && b) = AV.bl (nmB (.str z)) := fun b e => by rw [e]; rfl
    by_cases g1 : (1 : Int) ≤ z.length
    · rw [if_pos (decide_eq_true g1), le_ii, ex_some, as_b, ex_some]
      by_cases g2 : (z.length : Int) ≤ 12
      · rw [decide_eq_true g2, if_neg (by decide)]
        walk_at "ko_ev_KoZb"
        try walk_at "ko_li_KoZb"
        rw [src_s, ex_some]
        refine (comp_map (l := Ls z) (g := sg) (f := fun c => AV.bl (nch c)) (by rw [← len_ls]; omega) fun c hc => ?_).imp fun v ah1 ⟨e1, e2⟩ => ?_
        · walk_at "ko_ev_KoZb"
          try walk_at "ko_li_KoZb"
          exact ⟨_, rfl, rfl, by first | rfl | trivial⟩
        subst e1 e2
        refine ⟨.bl ((Ls z).all nch), ?_, ?_, by first | rfl | trivial⟩
        · show (asBls ((Ls z).map fun c => AV.bl (nch c))).map (fun ns => AV.bl (ns.all id)) = _
          rw [asBls_map, Option.map_some, List.all_map]
          rfl
        · rw [← hf _ rfl, decide_eq_true (by omega), Bool.true_and]
      · rw [decide_eq_false g2, if_pos (by decide)]
        walk_at "ko_ev_KoZb"
        refine ⟨?_, by first | rfl | trivial⟩
        rw [← hf _ rfl, decide_eq_false (by omega), Bool.false_and]
    · rw [if_neg (by simpa using g1), as_b, ex_some, if_pos (by decide)]
      walk_at "ko_ev_KoZb"
      refine ⟨?_, by first | rfl | trivial⟩
      rw [← hf _ rfl, decide_eq_false (by omega), Bool.false_and]
  · refine ⟨t, hty, false, by rw [h2]; rfl, ?_⟩
    walk_at "ko_bo_KoZb"
    walk_at "ko_ev_KoZb"
    refine ⟨?_, by first | rfl | trivial⟩
    cases v <;> first | rfl | exact absurd rfl (h1 _)
end
end Ko

/-! Ko, part Zc: what the disks' methods do. -/
namespace Ko
open PySem L2 NumText
local macro_rules | `(tactic| walk_at "ko_ev_KoZc") => `(tactic| simp only [YesS.fin, semD, den, mkE, mkT, mkX, mkS, YesS.seq, YesS.nil, YesS.ret, YesS.ifS, YesS.asg, y_c, y_v, y_f2, y_f1, y_fA, y_nil, y_cons, y_tup, y_lst, y_lstM, y_dic0, y_tF, y_bF, y_tAnd, y_tOr, y_tNot, y_not, y_and, y_or, y_if, y_call, y_kw, y_chain, y_slc, y_pN, y_pS, y_isi, y_ms, y_src, y_rng1, y_comp, y_yes, s_exp, s_par2, s_sub, s_for, y_mcall, y_new, y_dget, y_dpop, y_dicN, y_dicC, y_lstC, y_srt, y_srtM, y_app', s_putD, s_att, s_del, ops_call, ops_ar, Yes.ok, nu_isascii, nu_isprintable, nu_isalpha, nu_islower, nu_isdigit, nu_join, nu_count, nu_startswith, nu_endswith, nu_zfill, nu_stripC])
local macro_rules | `(tactic| walk_at "ko_ar_KoZc") => `(tactic| simp only [ex_some, ex_ite, bin_add, bin_sub, bin_mul, bin_div, bin_mod, bin_pow, add_ii, sub_ii, mul_ii, div_ii, mod_ii, pow_ii, neg_i, cmp_eq, cmp_ne, cmp_lt, cmp_le, cmp_gt, cmp_ge, cmp_is, cmp_isn, lt_ii, le_ii, gt_ii, ge_ii, eq_ii, ne_ii, tru_b, tru_i, as_b, int_i, abs_i, put_nm, put_tup, put_lst])
local macro_rules | `(tactic| walk_at "ko_li_KoZc") => `(tactic| simp only [List.getElem?_cons_zero, List.getElem?_cons_succ, List.set_cons_succ, List.set_cons_zero, putl_nil, putl_cons, put_nm, put_tup, put_lst, Option.bind_some])
local macro_rules | `(tactic| walk_at "ko_bo_KoZc") => `(tactic| simp only [Bool.not_true, Bool.not_false, if_true, if_false, Bool.false_eq_true, reduceIte])
def xN (v : AV) : EX := ⟨"InvalidName", [("given", v)]⟩
def xT (v : AV) : EX := ⟨"InvalidText", [("given", v)]⟩
def xF (v : AV) : EX := ⟨"NoFile", [("name", v)]⟩
theorem as_refD {ah : AH} {n : Nat} {kvs : List (Key × AV)} (h : ah[n]? = some (.dct kvs)) : asKs ah (.ref n) = some kvs := by
  unfold asKs
  dsimp only
  rw [h]
theorem put_refD {ah : AH} {n : Nat} {kvs : List (Key × AV)} {z : Str} {v : AV} (h : ah[n]? = some (.dct kvs)) (hl : kvs.length < 1000) : putDA ah (.ref n) (.str z) v = some (ah.set n (.dct (putA kvs (.inr z) v))) := by
  unfold putDA
  dsimp only
  rw [h]
  show (if kvs.length < sizeLine then _ else _) = _
  rw [if_pos (by rw [sz]; omega)]
theorem pop_refD {ah : AH} {n : Nat} {kvs : List (Key × AV)} {z : Str} {v : AV} (h : ah[n]? = some (.dct kvs)) (hv : valA kvs (.inr z) = some v) : dpopA ah (.ref n) (.str z) = some (v, ah.set n (.dct (dropA kvs (.inr z)))) := by
  unfold dpopA
  dsimp only
  rw [h]
  show (valA kvs (.inr z)).map _ = _
  rw [hv]; rfl
theorem Dsk.fiV {ah : AH} {d : Nat} {L : List Ent} {c : Int} {z : Str} (K : Dsk ah d L c) : dsubA ah (.ref (d + 1)) (.str z) = (atE L z).map gF := by
  unfold dsubA
  rw [as_refD K.fi]
  exact dc_val L
theorem Dsk.maV {ah : AH} {d : Nat} {L : List Ent} {c : Int} {z : Str} (K : Dsk ah d L c) : dsubA ah (.ref (d + 2)) (.str z) = (atE L z).map gM := by
  unfold dsubA
  rw [as_refD K.ma]
  exact dc_val L
theorem dni_refD {g : Str × Int → AV} {ah : AH} {n : Nat} {L : List Ent} {z : Str} (h : ah[n]? = some (.dct (dcE g L))) : dniA ah (.str z) (.ref n) = some (.bl (!(atE L z).isSome)) := by
  unfold dniA
  rw [as_refD h]
  show some (AV.bl (!(valA (dcE g L) (.inr z)).isSome)) = _
  rw [dc_val, Option.isSome_map]
theorem get_refD {g : Str × Int → AV} {ah : AH} {n : Nat} {L : List Ent} {z : Str} {v : AV} (h : ah[n]? = some (.dct (dcE g L))) : dgetA ah (.ref n) (.str z) v = some (((atE L z).map g).getD v) := by
  unfold dgetA
  rw [as_refD h]
  show some ((valA (dcE g L) (.inr z)).getD v) = _
  rw [dc_val]
theorem nm_str {v : AV} (h : nmB v = true) : ∃ z, v = .str z ∧ 1 ≤ z.length ∧ z.length ≤ 12 ∧ (Ls z).all nch = true := by
  cases v with
  | str z =>
    have h : (decide (1 ≤ z.length ∧ z.length ≤ 12) && (Ls z).all nch) = true := h
    rw [Bool.and_eq_true, decide_eq_true_eq] at h
    exact ⟨z, rfl, h.1.1, h.1.2, h.2⟩
  | _ => cases h
theorem dct_len {g : Str × Int → AV} {L : List Ent} : (dcE g L).length = L.length := List.length_map _
section
variable {ds : List Df} (D : Dk ds)
include D
theorem c_sgn {k : Nat} {v : AV} {ah : AH} (h : VOk ah v) : Yes (cl ds (k + 1) "is_signs" [v] ah) fun r ah' => r = .bl (sgB v) ∧ ah' = ah := by
  obtain ⟨t, ht⟩ := h.ty
  obtain ⟨dt, ft, hN, htr⟩ := D.g_is_signs
  rw [cl_eq ft]
  simp only [semD, hN, htr, q_is_signs]
  walk_at "ko_ev_KoZc"
  simp only [show startA ["value"] [v] = [some v] from rfl]
  walk_at "ko_li_KoZc"
  rcases ty_str ht with ⟨z, rfl, rfl⟩ | ⟨h1, h2⟩
  · refine ⟨"str", rfl, true, rfl, ?_⟩
    rw [if_pos rfl]
    refine ⟨rfl, _, rfl, Txt.isascii z, rfl, ?_⟩
    cases e : Txt.isascii z with
    | true =>
      rw [if_pos rfl]
      refine ⟨rfl, _, rfl, ?_, by first | rfl | trivial⟩
      simp only [sgB, e, Bool.true_and]
    | false =>
      rw [if_neg Bool.false_ne_true]
      refine ⟨?_, by first | rfl | trivial⟩
      simp only [sgB, e, Bool.false_and]
  · refine ⟨t, ht, false, by rw [h2]; rfl, ?_⟩
    rw [if_neg Bool.false_ne_true, h2]
    refine ⟨?_, by first | rfl | trivial⟩
    cases v <;> first | rfl | exact absurd rfl (h1 _)
theorem c_chk {k d : Nat} {ah : AH} {L : List Ent} {c : Int} {z : Str} (K : Dsk ah d L c) (hz : nmB (.str z) = true) (ha : (atE L z).isSome = true) : Yes (cl ds (k + 2) "Disk.check_file" [.ref d, .str z] ah) fun r ah' => r = .non ∧ ah' = ah := by
  obtain ⟨dt, ft, hN, ht⟩ := D.g_Disk_check_file
  rw [cl_eq ft]
  simp only [semD, hN, ht, q_Disk_check_file]
  walk_at "ko_ev_KoZc"
  simp only [show startA ["self", "name"] [.ref d, .str z] = [some (.ref d), some (.str z)] from rfl]
  walk_at "ko_li_KoZc"
  refine ⟨D.r_is_file_name.symm, (c_isfn D ⟨⟨_, rfl⟩, fun y e => by cases e; obtain ⟨z', e, h1, h2, _⟩ := nm_str hz; cases e; omega⟩).imp fun r ah1 ⟨e1, e2⟩ => ?_⟩
  subst e1 e2
  rw [hz, tru_b, ex_some]
  walk_at "ko_bo_KoZc"
  try walk_at "ko_ev_KoZc"
  refine ⟨_, K.att.1, _, dni_refD K.fi, ?_⟩
  rw [ha, as_b, ex_some]
  walk_at "ko_bo_KoZc"
  exact ⟨by first | rfl | trivial, by first | rfl | trivial⟩
theorem x_chkN {k d : Nat} {ah : AH} {v : AV} (V : VOk ah v) (hz : nmB v = false) : cl ds (k + 2) "Disk.check_file" [.ref d, v] ah = .ex (xN v) ah := by
  obtain ⟨dt, ft, hN, ht⟩ := D.g_Disk_check_file
  rw [cl_eq ft]
  simp only [semD, hN, ht, q_Disk_check_file]
  show SR.fin (seqF (ifS (tNotF (tF (callF (cl ds (k + 1) "is_file_name") (arD ds "is_file_name") (aCons (vF 1) aNil)))) (seqF (raiseF "InvalidName" ["given"] (aCons (vF 1) aNil)) nilF) nilF) _ [some (.ref d), some v] ah) = _
  rw [sx_if (ah1 := ah) ?_ (sx_raise (ah1 := ah) (xs := [v]) (fs := [("given", v)]) rfl rfl)]
  · rfl
  · walk_at "ko_ev_KoZc"
    walk_at "ko_li_KoZc"
    refine ⟨D.r_is_file_name.symm, (c_isfn D V).imp fun r ah1 ⟨e1, e2⟩ => ?_⟩
    subst e1 e2
    rw [hz, tru_b, ex_some]
    exact ⟨rfl, by first | rfl | trivial⟩
theorem x_chkF {k d : Nat} {ah : AH} {L : List Ent} {c : Int} {z : Str} (K : Dsk ah d L c) (hz : nmB (.str z) = true) (ha : (atE L z).isSome = false) : cl ds (k + 2) "Disk.check_file" [.ref d, .str z] ah = .ex (xF (.str z)) ah := by
  obtain ⟨dt, ft, hN, ht⟩ := D.g_Disk_check_file
  rw [cl_eq ft]
  simp only [semD, hN, ht, q_Disk_check_file]
  show SR.fin (seqF (ifS (tNotF (tF (callF (cl ds (k + 1) "is_file_name") (arD ds "is_file_name") (aCons (vF 1) aNil)))) (seqF (raiseF "InvalidName" ["given"] (aCons (vF 1) aNil)) nilF) nilF) (seqF (ifS (bF (f2 dniA (vF 1) (f1 (attA ["Disk"] "files") (vF 0)))) (seqF (raiseF "NoFile" ["name"] (aCons (vF 1) aNil)) nilF) nilF) nilF) [some (.ref d), some (.str z)] ah) = _
  rw [sx_skip (ah1 := ah) ?_, sx_if (ah1 := ah) ?_ (sx_raise (ah1 := ah) (xs := [.str z]) (fs := [("name", .str z)]) rfl rfl)]
  · rfl
  · walk_at "ko_ev_KoZc"
    walk_at "ko_li_KoZc"
    refine ⟨_, K.att.1, _, dni_refD K.fi, ?_⟩
    rw [ha, as_b, ex_some]
    exact ⟨rfl, by first | rfl | trivial⟩
  · walk_at "ko_ev_KoZc"
    walk_at "ko_li_KoZc"
    refine ⟨D.r_is_file_name.symm, (c_isfn D ⟨⟨_, rfl⟩, fun y e => by cases e; obtain ⟨z', e, h1, h2, _⟩ := nm_str hz; cases e; omega⟩).imp fun r ah1 ⟨e1, e2⟩ => ?_⟩
    subst e1 e2
    rw [hz, tru_b, ex_some]
    exact ⟨rfl, by first | rfl | trivial⟩
theorem c_pow {k d : Nat} {ah : AH} {L : List Ent} {c : Int} (K : Dsk ah d L c) : Yes (cl ds (k + 1) "Disk.use_power" [.ref d] ah) fun r ah' => r = .non ∧ Dsk ah' d L (c + 1) ∧ Oth [d] ah ah' := by
  obtain ⟨dt, ft, hN, ht⟩ := D.g_Disk_use_power
  rw [cl_eq ft]
  simp only [semD, hN, ht, q_Disk_use_power]
  walk_at "ko_ev_KoZc"
  simp only [show startA ["self"] [.ref d] = [some (.ref d)] from rfl]
  walk_at "ko_li_KoZc"
  refine ⟨_, K.att.2.2.2, .bl false, rfl, ?_⟩
  rw [as_b, ex_some]
  walk_at "ko_bo_KoZc"
  try walk_at "ko_ev_KoZc"
  walk_at "ko_li_KoZc"
  refine ⟨_, K.att.2.2.2, .bl false, rfl, ?_⟩
  rw [as_b, ex_some]
  walk_at "ko_bo_KoZc"
  rw [YesS.nil]
  refine s_attA ?_
  walk_at "ko_ev_KoZc"
  walk_at "ko_li_KoZc"
  refine ⟨_, K.att.2.2.1, by first | rfl | trivial, .int (c + 1), rfl, ah.set d (.ins "Disk" (dkF d (c + 1))), ?_, by first | rfl | trivial, ?_, Oth.set⟩
  · unfold putAtt
    rw [K.ins]
    rfl
  · have hd := (List.getElem?_eq_some_iff.mp K.ob).1
    have h := Oth.set (ah := ah) (n := d) (o := .ins "Disk" (dkF d (c + 1)))
    exact ⟨List.getElem?_set_self hd, h.at K.fi (by simp), h.at K.ma (by simp)⟩
theorem c_read {k d : Nat} {ah : AH} {L : List Ent} {c : Int} {z : Str} {p : Str × Int} (K : Dsk ah d L c) (hz : nmB (.str z) = true) (ha : atE L z = some p) : Yes (cl ds (k + 3) "Disk.read" [.ref d, .str z] ah) fun r ah' => r = .str p.1 ∧ ah' = ah := by
  obtain ⟨dt, ft, hN, ht⟩ := D.g_Disk_read
  rw [cl_eq ft]
  simp only [semD, hN, ht, q_Disk_read]
  walk_at "ko_ev_KoZc"
  simp only [show startA ["self", "name"] [.ref d, .str z] = [some (.ref d), some (.str z)] from rfl]
  walk_at "ko_li_KoZc"
  refine ⟨_, K.met rfl, D.r_Disk_check_file.symm, (c_chk D K hz (by rw [ha]; rfl)).imp fun r ah1 ⟨e1, e2⟩ => ?_⟩
  subst e1 e2
  try walk_at "ko_ev_KoZc"
  try walk_at "ko_li_KoZc"
  refine ⟨_, K.att.1, .str p.1, ?_, by first | rfl | trivial, by first | rfl | trivial⟩
  rw [K.fiV, ha]; rfl
theorem c_synced {k d : Nat} {ah : AH} {L : List Ent} {c : Int} {z : Str} {p : Str × Int} (K : Dsk ah d L c) (hz : nmB (.str z) = true) (ha : atE L z = some p) : Yes (cl ds (k + 3) "Disk.synced" [.ref d, .str z] ah) fun r ah' => r = .int p.2 ∧ ah' = ah := by
  obtain ⟨dt, ft, hN, ht⟩ := D.g_Disk_synced
  rw [cl_eq ft]
  simp only [semD, hN, ht, q_Disk_synced]
  walk_at "ko_ev_KoZc"
  simp only [show startA ["self", "name"] [.ref d, .str z] = [some (.ref d), some (.str z)] from rfl]
  walk_at "ko_li_KoZc"
  refine ⟨_, K.met rfl, D.r_Disk_check_file.symm, (c_chk D K hz (by rw [ha]; rfl)).imp fun r ah1 ⟨e1, e2⟩ => ?_⟩
  subst e1 e2
  try walk_at "ko_ev_KoZc"
  try walk_at "ko_li_KoZc"
  refine ⟨_, K.att.2.1, .int p.2, ?_, by first | rfl | trivial, by first | rfl | trivial⟩
  rw [K.maV, ha]; rfl
theorem c_ops {k d : Nat} {ah : AH} {L : List Ent} {c : Int} (K : Dsk ah d L c) : Yes (cl ds (k + 1) "Disk.ops" [.ref d] ah) fun r ah' => r = .int c ∧ ah' = ah := by
  obtain ⟨dt, ft, hN, ht⟩ := D.g_Disk_ops
  rw [cl_eq ft]
  simp only [semD, hN, ht, q_Disk_ops]
  walk_at "ko_ev_KoZc"
  simp only [show startA ["self"] [.ref d] = [some (.ref d)] from rfl]
  walk_at "ko_li_KoZc"
  exact ⟨_, K.att.2.2.1, by first | rfl | trivial, by first | rfl | trivial⟩
omit D in
theorem asStrs_map : ∀ zs : List Str, asStrs (zs.map .str) = some zs
  | [] => rfl
  | z :: zs => by simp only [List.map_cons, asStrs, asStrs_map zs, Option.map_some]
omit D in
theorem list_refD {g : Str × Int → AV} {ah : AH} {n : Nat} {L : List Ent} (h : ah[n]? = some (.dct (dcE g L))) : biF .list ah [.ref n] = some (.lst ((nms L).map .str)) := by
  show (match asKs ah (.ref n) with | some kvs => some (AV.lst (kvs.map fun (kv : Key × AV) => kA kv.1)) | none => (asL ah (.ref n)).map .lst) = _
  rw [as_refD h]
  show some (AV.lst ((dcE g L).map fun kv => kA kv.1)) = _
  unfold dcE nms
  rw [List.map_map, List.map_map]
  rfl
omit D in
theorem srt_lst {ah : AH} {zs : List Str} (h : zs.length < 64) : srtA ah (.lst (zs.map .str)) = some ((srtS zs).map .str) := by
  unfold srtA
  show (asStrs (zs.map .str)).bind _ = _
  rw [asStrs_map, Option.bind_some, if_pos h]
theorem c_names {k d : Nat} {ah : AH} {L : List Ent} {c : Int} (K : Dsk ah d L c) (hl : L.length < 64) : Yes (cl ds (k + 1) "Disk.names" [.ref d] ah) fun r ah' => r = .ref ah.length ∧ ah' = ah ++ [.lst ((srtS (nms L)).map .str)] := by
  obtain ⟨dt, ft, hN, ht⟩ := D.g_Disk_names
  rw [cl_eq ft]
  simp only [semD, hN, ht, q_Disk_names]
  walk_at "ko_ev_KoZc"
  simp only [show startA ["self"] [.ref d] = [some (.ref d)] from rfl]
  walk_at "ko_li_KoZc"
  exact ⟨_, K.att.1, _, list_refD K.fi, _, srt_lst (by unfold nms; rw [List.length_map]; exact hl), by first | rfl | trivial, by first | rfl | trivial⟩
theorem c_sync {k d : Nat} {ah : AH} {L : List Ent} {c : Int} {z : Str} {p : Str × Int} (K : Dsk ah d L c) (nd : (nms L).Nodup) (hl : L.length < 1000) (lp : p.1.length ≤ 100000) (hz : nmB (.str z) = true) (ha : atE L z = some p) :
    Yes (cl ds (k + 3) "Disk.sync" [.ref d, .str z] ah) fun r ah' => r = .non ∧ Dsk ah' d (putE L z p.1 p.1.length) (c + 1) ∧ Oth [d, d + 2] ah ah' := by
  obtain ⟨dt, ft, hN, ht⟩ := D.g_Disk_sync
  rw [cl_eq ft]
  simp only [semD, hN, ht, q_Disk_sync]
  walk_at "ko_ev_KoZc"
  simp only [show startA ["self", "name"] [.ref d, .str z] = [some (.ref d), some (.str z)] from rfl]
  walk_at "ko_li_KoZc"
  refine ⟨_, K.met rfl, D.r_Disk_check_file.symm, (c_chk D K hz (by rw [ha]; rfl)).imp fun r ah1 ⟨e1, e2⟩ => ?_⟩
  subst e1 e2
  try walk_at "ko_ev_KoZc"
  try walk_at "ko_li_KoZc"
  refine ⟨_, K.met rfl, D.r_Disk_use_power.symm, (c_pow D K).imp fun r ah2 ⟨e1, K2, O2⟩ => ?_⟩
  subst e1
  try walk_at "ko_ev_KoZc"
  try walk_at "ko_li_KoZc"
  have hm := (List.getElem?_eq_some_iff.mp K2.ma).1
  refine ⟨_, K2.att.1, .str p.1, by rw [K2.fiV, ha]; rfl, _, by rw [len_s, if_pos (by rw [sz]; omega)], _, K2.att.2.1, _, put_refD K2.ma (by rw [dct_len]; exact hl), by first | rfl | trivial, ?_, ?_⟩
  · rw [dc_put (g := gM) (t := p.1) (m := p.1.length) rfl]
    have h := Oth.set (ah := ah2) (n := d + 2) (o := .dct (dcE gM (putE L z p.1 p.1.length)))
    refine ⟨h.at K2.ob (by simp), ?_, List.getElem?_set_self hm⟩
    rw [same_put (g := gF) (t := p.1) (m := (p.1.length : Int)) nd ha rfl]
    exact h.at K2.fi (by simp)
  · exact (O2.mono (by simp)).trans (Oth.set.mono (by simp))
theorem c_drop {k d : Nat} {ah : AH} {L : List Ent} {c : Int} {z : Str} {p : Str × Int} (K : Dsk ah d L c) (hz : nmB (.str z) = true) (ha : atE L z = some p) :
    Yes (cl ds (k + 3) "Disk.drop" [.ref d, .str z] ah) fun r ah' => r = .non ∧ Dsk ah' d (dropE L z) (c + 1) ∧ Oth [d, d + 1, d + 2] ah ah' := by
  obtain ⟨dt, ft, hN, ht⟩ := D.g_Disk_drop
  rw [cl_eq ft]
  simp only [semD, hN, ht, q_Disk_drop]
  walk_at "ko_ev_KoZc"
  simp only [show startA ["self", "name"] [.ref d, .str z] = [some (.ref d), some (.str z)] from rfl]
  walk_at "ko_li_KoZc"
  refine ⟨_, K.met rfl, D.r_Disk_check_file.symm, (c_chk D K hz (by rw [ha]; rfl)).imp fun r ah1 ⟨e1, e2⟩ => ?_⟩
  subst e1 e2
  try walk_at "ko_ev_KoZc"
  try walk_at "ko_li_KoZc"
  refine ⟨_, K.met rfl, D.r_Disk_use_power.symm, (c_pow D K).imp fun r ah2 ⟨e1, K2, O2⟩ => ?_⟩
  subst e1
  try walk_at "ko_ev_KoZc"
  try walk_at "ko_li_KoZc"
  have hf := (List.getElem?_eq_some_iff.mp K2.fi).1
  have hm := (List.getElem?_eq_some_iff.mp K2.ma).1
  have O3 := Oth.set (ah := ah2) (n := d + 1) (o := .dct (dcE gF (dropE L z)))
  refine ⟨_, K2.att.1, _, pop_refD (v := .str p.1) K2.fi (by rw [dc_val, ha]; rfl), ?_⟩
  dsimp only
  rw [dc_drop]
  have hob := O3.at K2.ob (by simp)
  have hma := O3.at K2.ma (by simp)
  refine ⟨.ref (d + 2), ?_, _, pop_refD (v := .int p.2) hma (by rw [dc_val, ha]; rfl), ?_⟩
  · unfold attA insA
    dsimp only
    rw [hob]
    rfl
  dsimp only
  rw [dc_drop]
  have O4 := Oth.set (ah := ah2.set (d + 1) (.dct (dcE gF (dropE L z)))) (n := d + 2) (o := .dct (dcE gM (dropE L z)))
  refine ⟨by first | rfl | trivial, ⟨O4.at hob (by simp), O4.at (List.getElem?_set_self hf) (by simp), List.getElem?_set_self (by rw [List.length_set]; exact hm)⟩, ?_⟩
  exact (O2.mono (by simp)).trans ((O3.mono (by simp)).trans (O4.mono (by simp)))
theorem c_write {k d : Nat} {ah : AH} {L : List Ent} {c : Int} {z t : Str} (K : Dsk ah d L c) (hl : L.length < 1000) (lt : t.length ≤ 100000) (lp : ∀ e ∈ L, e.2.1.length ≤ 100000) (hz : nmB (.str z) = true) (ht' : sgB (.str t) = true) (hne : t ≠ "") :
    Yes (cl ds (k + 2) "Disk.write" [.ref d, .str z, .str t] ah) fun r ah' => r = .non ∧ Dsk ah' d (putE L z (((atE L z).getD ("", 0)).1 ++ t) ((atE L z).getD ("", 0)).2) (c + 1) ∧ Oth [d, d + 1, d + 2] ah ah' := by
  obtain ⟨dt, ft, hN, ht⟩ := D.g_Disk_write
  rw [cl_eq ft]
  simp only [semD, hN, ht, q_Disk_write]
  walk_at "ko_ev_KoZc"
  simp only [show startA ["self", "name", "text"] [.ref d, .str z, .str t] = [some (.ref d), some (.str z), some (.str t)] from rfl]
  walk_at "ko_li_KoZc"
  refine ⟨D.r_is_file_name.symm, (c_isfn D ⟨⟨_, rfl⟩, fun y e => by cases e; obtain ⟨z', e, h1, h2, _⟩ := nm_str hz; cases e; omega⟩).imp fun r ah1 ⟨e1, e2⟩ => ?_⟩
  subst e1 e2
  rw [hz, tru_b, ex_some]
  walk_at "ko_bo_KoZc"
  try walk_at "ko_ev_KoZc"
  try walk_at "ko_li_KoZc"
  refine ⟨D.r_is_signs.symm, (c_sgn D ⟨⟨_, rfl⟩, fun y e => by cases e; omega⟩).imp fun r ah1 ⟨e1, e2⟩ => ?_⟩
  subst e1 e2
  rw [ht', tru_b, ex_some]
  walk_at "ko_bo_KoZc"
  rw [cmp_eq, eq_ss, decide_eq_false hne, ex_some, as_b, ex_some]
  walk_at "ko_bo_KoZc"
  try walk_at "ko_ev_KoZc"
  try walk_at "ko_li_KoZc"
  refine ⟨_, K.met rfl, D.r_Disk_use_power.symm, (c_pow D K).imp fun r ah2 ⟨e1, K2, O2⟩ => ?_⟩
  subst e1
  try walk_at "ko_ev_KoZc"
  try walk_at "ko_li_KoZc"
  have hf := (List.getElem?_eq_some_iff.mp K2.fi).1
  have hm := (List.getElem?_eq_some_iff.mp K2.ma).1
  obtain ⟨o, om, ho⟩ : ∃ o om, (atE L z).getD ("", 0) = (o, om) := ⟨_, _, rfl⟩
  have lo : o.length ≤ 100000 := by
    cases q : atE L z with
    | none => rw [q] at ho; cases ho; decide
    | some p => rw [q] at ho; cases ho; exact lp _ (at_mem q)
  have g1 : ((atE L z).map gF).getD (.str "") = .str o := by
    cases q : atE L z with
    | none => rw [q] at ho; cases ho; rfl
    | some p => rw [q] at ho; cases ho; rfl
  have g2 : ((atE L z).map gM).getD (.int 0) = .int om := by
    cases q : atE L z with
    | none => rw [q] at ho; cases ho; rfl
    | some p => rw [q] at ho; cases ho; rfl
  rw [ho]
  have hadd : ∀ ah : AH, binF .Add ah (.str o) (.str t) = some (.str (o ++ t)) := fun ah => by
    rw [bin_add, add_ss, if_pos (by rw [sz]; omega)]
  have O3 := Oth.set (ah := ah2) (n := d + 1) (o := .dct (dcE gF (putE L z (o ++ t) om)))
  have hob := O3.at K2.ob (by simp)
  have hma := O3.at K2.ma (by simp)
  have gat : ∀ (f : Str) (v : AV), (dkF d (c + 1)).lookup f = some v → attA ["Disk"] f (ah2.set (d + 1) (.dct (dcE gF (putE L z (o ++ t) om)))) (.ref d) = some v := fun f v h => by
    unfold attA insA
    dsimp only
    rw [hob]
    exact h
  refine ⟨_, K2.att.1, by rw [as_refD K2.fi]; rfl, _, get_refD K2.fi, ?_⟩
  rw [g1]
  refine ⟨_, hadd ah2, _, K2.att.1, _, put_refD K2.fi (by rw [dct_len]; exact hl), ?_⟩
  rw [dc_put (g := gF) (t := o ++ t) (m := om) rfl]
  refine ⟨_, gat "marks" _ rfl, by rw [as_refD hma]; rfl, _, get_refD hma, ?_⟩
  rw [g2]
  refine ⟨_, gat "marks" _ rfl, _, put_refD hma (by rw [dct_len]; exact hl), ?_⟩
  rw [dc_put (g := gM) (t := o ++ t) (m := om) rfl]
  have O4 := Oth.set (ah := ah2.set (d + 1) (.dct (dcE gF (putE L z (o ++ t) om)))) (n := d + 2) (o := .dct (dcE gM (putE L z (o ++ t) om)))
  refine ⟨by first | rfl | trivial, ⟨O4.at hob (by simp), O4.at (List.getElem?_set_self hf) (by simp), List.getElem?_set_self (by rw [List.length_set]; exact hm)⟩, ?_⟩
  exact (O2.mono (by simp)).trans ((O3.mono (by simp)).trans (O4.mono (by simp)))
theorem c_init {k d : Nat} {ah : AH} (hd : d < ah.length) (h : ah[d]? = some (.ins "Disk" [])) : Yes (cl ds (k + 1) "Disk.__init__" [.ref d] ah) fun r ah' => r = .non ∧ ah' = (ah ++ [AO.dct []] ++ [AO.dct []]).set d (.ins "Disk" [("files", .ref ah.length), ("marks", .ref (ah.length + 1)), ("calls", .int 0), ("left", .non)]) := by
  obtain ⟨dt, ft, hN, ht⟩ := D.g_Disk___init__
  rw [cl_eq ft]
  simp only [semD, hN, ht, q_Disk___init__]
  walk_at "ko_ev_KoZc"
  simp only [show startA ["self"] [.ref d] = [some (.ref d)] from rfl]
  walk_at "ko_li_KoZc"
  have p : ∀ (ah : AH) (f : Str) (v : AV) (fs : List (Str × AV)), ah[d]? = some (.ins "Disk" fs) → fs.length < 900 → putAtt ["Disk"] f ah (.ref d) v = some (ah.set d (.ins "Disk" (putFA f v fs))) := fun ah f v fs h hl => by
    unfold putAtt insA
    dsimp only
    rw [h]
    show (if (["Disk"] : List Str).contains "Disk" = true ∧ fs.length < 900 then _ else _) = _
    rw [if_pos ⟨by rfl, hl⟩]
  have h1 : (ah ++ [AO.dct []])[d]? = some (.ins "Disk" []) := by rw [List.getElem?_append_left hd]; exact h
  refine ⟨_, p _ _ _ _ h1 (by decide), ?_⟩
  have l1 : ∀ o : AO, ((ah ++ [AO.dct []]).set d o).length = ah.length + 1 := fun o => by rw [List.length_set, List.length_append]; rfl
  rw [l1]
  have h2 : ∀ fs, ((ah ++ [AO.dct []]).set d (.ins "Disk" fs) ++ [AO.dct []])[d]? = some (.ins "Disk" fs) := fun fs => by
    rw [List.getElem?_append_left (by rw [l1]; omega), List.getElem?_set_self (by rw [List.length_append]; omega)]
  refine ⟨_, p _ _ _ _ (h2 _) (show 1 < 900 by decide), ?_⟩
  have h3 : ∀ (a : AH) (u : AO) (fs : List (Str × AV)), d < a.length → (a.set d u).set d (.ins "Disk" fs) = a.set d (.ins "Disk" fs) := fun a u fs _ => List.set_set ..
  have ee : ∀ o : AO, (ah ++ [AO.dct []]).set d o ++ [AO.dct []] = (ah ++ [AO.dct []] ++ [AO.dct []]).set d o := fun o => (List.set_append_left _ _ (by rw [List.length_append]; omega)).symm
  rw [ee, List.set_set]
  have hl2 : d < (ah ++ [AO.dct []] ++ [AO.dct []]).length := by rw [List.length_append, List.length_append]; omega
  refine ⟨_, p _ _ _ _ (List.getElem?_set_self hl2) (show 2 < 900 by decide), ?_⟩
  rw [List.set_set]
  refine ⟨_, p _ _ _ _ (List.getElem?_set_self hl2) (show 3 < 900 by decide), ?_⟩
  rw [List.set_set]
  exact ⟨by first | rfl | trivial, rfl⟩
theorem x_read {k d : Nat} {ah : AH} {L : List Ent} {c : Int} {v : AV} {x : EX} (K : Dsk ah d L c) (h : cl ds (k + 2) "Disk.check_file" [.ref d, v] ah = .ex x ah) : cl ds (k + 3) "Disk.read" [.ref d, v] ah = .ex x ah := by
  obtain ⟨dt, ft, hN, ht⟩ := D.g_Disk_read
  rw [cl_eq ft]
  simp only [semD, hN, ht, q_Disk_read, den, mkE, mkT, mkX]
  simp only [show startA ["self", "name"] [.ref d, v] = [some (.ref d), some v] from rfl]
  exact Eq.trans (congrArg SR.fin (sx_exp (mx (f := "Disk.check_file") (v := .ref d) (xs := [v]) (call := cl ds (k + 2)) (ar := arD ds) rfl (K.met rfl) rfl D.r_Disk_check_file.symm h))) rfl
theorem x_synced {k d : Nat} {ah : AH} {L : List Ent} {c : Int} {v : AV} {x : EX} (K : Dsk ah d L c) (h : cl ds (k + 2) "Disk.check_file" [.ref d, v] ah = .ex x ah) : cl ds (k + 3) "Disk.synced" [.ref d, v] ah = .ex x ah := by
  obtain ⟨dt, ft, hN, ht⟩ := D.g_Disk_synced
  rw [cl_eq ft]
  simp only [semD, hN, ht, q_Disk_synced, den, mkE, mkT, mkX]
  simp only [show startA ["self", "name"] [.ref d, v] = [some (.ref d), some v] from rfl]
  exact Eq.trans (congrArg SR.fin (sx_exp (mx (f := "Disk.check_file") (v := .ref d) (xs := [v]) (call := cl ds (k + 2)) (ar := arD ds) rfl (K.met rfl) rfl D.r_Disk_check_file.symm h))) rfl
theorem x_sync {k d : Nat} {ah : AH} {L : List Ent} {c : Int} {v : AV} {x : EX} (K : Dsk ah d L c) (h : cl ds (k + 2) "Disk.check_file" [.ref d, v] ah = .ex x ah) : cl ds (k + 3) "Disk.sync" [.ref d, v] ah = .ex x ah := by
  obtain ⟨dt, ft, hN, ht⟩ := D.g_Disk_sync
  rw [cl_eq ft]
  simp only [semD, hN, ht, q_Disk_sync, den, mkE, mkT, mkX]
  simp only [show startA ["self", "name"] [.ref d, v] = [some (.ref d), some v] from rfl]
  exact Eq.trans (congrArg SR.fin (sx_exp (mx (f := "Disk.check_file") (v := .ref d) (xs := [v]) (call := cl ds (k + 2)) (ar := arD ds) rfl (K.met rfl) rfl D.r_Disk_check_file.symm h))) rfl
theorem x_drop {k d : Nat} {ah : AH} {L : List Ent} {c : Int} {v : AV} {x : EX} (K : Dsk ah d L c) (h : cl ds (k + 2) "Disk.check_file" [.ref d, v] ah = .ex x ah) : cl ds (k + 3) "Disk.drop" [.ref d, v] ah = .ex x ah := by
  obtain ⟨dt, ft, hN, ht⟩ := D.g_Disk_drop
  rw [cl_eq ft]
  simp only [semD, hN, ht, q_Disk_drop, den, mkE, mkT, mkX]
  simp only [show startA ["self", "name"] [.ref d, v] = [some (.ref d), some v] from rfl]
  exact Eq.trans (congrArg SR.fin (sx_exp (mx (f := "Disk.check_file") (v := .ref d) (xs := [v]) (call := cl ds (k + 2)) (ar := arD ds) rfl (K.met rfl) rfl D.r_Disk_check_file.symm h))) rfl
theorem x_writeN {k d : Nat} {ah : AH} {v t : AV} (V : VOk ah v) (hz : nmB v = false) : cl ds (k + 2) "Disk.write" [.ref d, v, t] ah = .ex (xN v) ah := by
  obtain ⟨dt, ft, hN, ht⟩ := D.g_Disk_write
  rw [cl_eq ft]
  simp only [semD, hN, ht, q_Disk_write, den, mkE, mkT, mkX]
  simp only [show startA ["self", "name", "text"] [.ref d, v, t] = [some (.ref d), some v, some t] from rfl]
  refine Eq.trans (congrArg SR.fin (sx_if (ah1 := ah) ?_ (sx_raise (ah1 := ah) (xs := [v]) (fs := [("given", v)]) rfl rfl))) rfl
  show Yes (tNotF (tF (callF (cl ds (k + 1) "is_file_name") (arD ds "is_file_name") (aCons (vF 1) aNil))) [some (.ref d), some v, some t] ah) _
  walk_at "ko_ev_KoZc"
  walk_at "ko_li_KoZc"
  refine ⟨D.r_is_file_name.symm, (c_isfn D V).imp fun r ah1 ⟨e1, e2⟩ => ?_⟩
  subst e1 e2
  rw [hz, tru_b, ex_some]
  exact ⟨rfl, by first | rfl | trivial⟩
theorem x_writeT {k d : Nat} {ah : AH} {z : Str} {t : AV} (V : VOk ah t) (hz : nmB (.str z) = true) (ht' : sgB t = false ∨ t = .str "") : cl ds (k + 2) "Disk.write" [.ref d, .str z, t] ah = .ex (xT t) ah := by
  obtain ⟨dt, ft, hN, ht⟩ := D.g_Disk_write
  rw [cl_eq ft]
  simp only [semD, hN, ht, q_Disk_write, den, mkE, mkT, mkX]
  simp only [show startA ["self", "name", "text"] [.ref d, .str z, t] = [some (.ref d), some (.str z), some t] from rfl]
  refine Eq.trans (congrArg SR.fin (Eq.trans (sx_skip (ah1 := ah) ?_) (sx_if (ah1 := ah) ?_ (sx_raise (ah1 := ah) (xs := [t]) (fs := [("given", t)]) rfl rfl)))) rfl
  · show Yes (tNotF (tF (callF (cl ds (k + 1) "is_file_name") (arD ds "is_file_name") (aCons (vF 1) aNil))) [some (.ref d), some (.str z), some t] ah) _
    walk_at "ko_ev_KoZc"
    walk_at "ko_li_KoZc"
    refine ⟨D.r_is_file_name.symm, (c_isfn D ⟨⟨_, rfl⟩, fun y e => by cases e; obtain ⟨z', e, h1, h2, _⟩ := nm_str hz; cases e; omega⟩).imp fun r ah1 ⟨e1, e2⟩ => ?_⟩
    subst e1 e2
    rw [hz, tru_b, ex_some]
    exact ⟨rfl, by first | rfl | trivial⟩
  · show Yes (tOrF (tNotF (tF (callF (cl ds (k + 1) "is_signs") (arD ds "is_signs") (aCons (vF 2) aNil)))) (bF (f2 (cmpF .Eq) (vF 2) (cF (.str "")))) [some (.ref d), some (.str z), some t] ah) _
    walk_at "ko_ev_KoZc"
    walk_at "ko_li_KoZc"
    refine ⟨D.r_is_signs.symm, (c_sgn D V).imp fun r ah1 ⟨e1, e2⟩ => ?_⟩
    subst e1 e2
    rw [tru_b, ex_some]
    cases q : sgB t with
    | false => walk_at "ko_bo_KoZc"; exact ⟨by first | rfl | trivial, by first | rfl | trivial⟩
    | true =>
      rcases ht' with h | h
      · rw [h] at q; cases q
      · subst h
        walk_at "ko_bo_KoZc"
        rw [cmp_eq, eq_ss, decide_eq_true rfl, ex_some, as_b, ex_some]
        exact ⟨by first | rfl | trivial, by first | rfl | trivial⟩
end
end Ko

namespace K06
open PySem L2 Ko
def top (i : Nat) : Stmt := PySem.Challenge.pw_keptinorder_k06_files_and_what_is_synced.main.body.getD i (.Pass ⟨0, 0, 0, 0⟩)
def t_Disk_synced : T := (.cons (.sExp (.mcall [("Disk", "Disk.check_file")] "check_file" (.var 0) (.cons (.var 1) .nil))) (.cons (.sRet (.dsub (.att ["Disk"] "marks" (.var 0)) (.var 1))) .nil))
def d_Disk_synced : Df := ⟨"Disk.synced", metSt 8 (top 19), ["self", "name"], ["self", "name"], t_Disk_synced, [(1, ["name"], [0])]⟩
def t_Disk_read : T := (.cons (.sExp (.mcall [("Disk", "Disk.check_file")] "check_file" (.var 0) (.cons (.var 1) .nil))) (.cons (.sRet (.dsub (.att ["Disk"] "files" (.var 0)) (.var 1))) .nil))
def d_Disk_read : Df := ⟨"Disk.read", metSt 6 (top 19), ["self", "name"], ["self", "name"], t_Disk_read, [(1, ["name"], [0])]⟩
def t_Disk_drop : T := (.cons (.sExp (.mcall [("Disk", "Disk.check_file")] "check_file" (.var 0) (.cons (.var 1) .nil))) (.cons (.sExp (.mcall [("Disk", "Disk.use_power")] "use_power" (.var 0) .nil)) (.cons (.sDel (.att ["Disk"] "files" (.var 0)) (.var 1)) (.cons (.sDel (.att ["Disk"] "marks" (.var 0)) (.var 1)) .nil))))
def d_Disk_drop : Df := ⟨"Disk.drop", metSt 3 (top 19), ["self", "name"], ["self", "name"], t_Disk_drop, [(1, ["name"], [0])]⟩
def t_Disk_sync : T := (.cons (.sExp (.mcall [("Disk", "Disk.check_file")] "check_file" (.var 0) (.cons (.var 1) .nil))) (.cons (.sExp (.mcall [("Disk", "Disk.use_power")] "use_power" (.var 0) .nil)) (.cons (.sPutD (.att ["Disk"] "marks" (.var 0)) (.var 1) (.bi .len (.cons (.dsub (.att ["Disk"] "files" (.var 0)) (.var 1)) .nil))) .nil)))
def d_Disk_sync : Df := ⟨"Disk.sync", metSt 2 (top 19), ["self", "name"], ["self", "name"], t_Disk_sync, [(1, ["name"], [0])]⟩
def t_Disk_write : T := (.cons (.sIf (.not (.call "is_file_name" (.cons (.var 1) .nil))) (.cons (.sRaise "InvalidName" ["given"] (.cons (.var 1) .nil)) .nil) .nil) (.cons (.sIf (.or (.not (.call "is_signs" (.cons (.var 2) .nil))) (.cmp .Eq (.var 2) (.cS ""))) (.cons (.sRaise "InvalidText" ["given"] (.cons (.var 2) .nil)) .nil) .nil) (.cons (.sExp (.mcall [("Disk", "Disk.use_power")] "use_power" (.var 0) .nil)) (.cons (.sPutD (.att ["Disk"] "files" (.var 0)) (.var 1) (.bin .Add (.dget (.att ["Disk"] "files" (.var 0)) (.var 1) (.cS "")) (.var 2))) (.cons (.sPutD (.att ["Disk"] "marks" (.var 0)) (.var 1) (.dget (.att ["Disk"] "marks" (.var 0)) (.var 1) (.cI 0))) .nil)))))
def d_Disk_write : Df := ⟨"Disk.write", metSt 1 (top 19), ["self", "name", "text"], ["self", "name", "text"], t_Disk_write, [(1, ["text", "name"], [1, 0])]⟩
def t_Disk_names : T := (.cons (.sRet (.srtM (.bi .list (.cons (.att ["Disk"] "files" (.var 0)) .nil)))) .nil)
def d_Disk_names : Df := ⟨"Disk.names", metSt 7 (top 19), ["self"], ["self"], t_Disk_names, []⟩
def t_Disk_ops : T := (.cons (.sRet (.att ["Disk"] "calls" (.var 0))) .nil)
def d_Disk_ops : Df := ⟨"Disk.ops", metSt 9 (top 19), ["self"], ["self"], t_Disk_ops, []⟩
def t_Disk___init__ : T := (.cons (.sAtt ["Disk"] "files" (.var 0) .dicN) (.cons (.sAtt ["Disk"] "marks" (.var 0) .dicN) (.cons (.sAtt ["Disk"] "calls" (.var 0) (.cI 0)) (.cons (.sAtt ["Disk"] "left" (.var 0) .cN) .nil))))
def d_Disk___init__ : Df := ⟨"Disk.__init__", metSt 0 (top 19), ["self"], ["self"], t_Disk___init__, []⟩
def t_Disk_check_file : T := (.cons (.sIf (.not (.call "is_file_name" (.cons (.var 1) .nil))) (.cons (.sRaise "InvalidName" ["given"] (.cons (.var 1) .nil)) .nil) .nil) (.cons (.sIf (.dni (.var 1) (.att ["Disk"] "files" (.var 0))) (.cons (.sRaise "NoFile" ["name"] (.cons (.var 1) .nil)) .nil) .nil) .nil))
def d_Disk_check_file : Df := ⟨"Disk.check_file", metSt 12 (top 19), ["self", "name"], ["self", "name"], t_Disk_check_file, []⟩
def t_Disk_use_power : T := (.cons (.sIf (.cmp .Eq (.att ["Disk"] "left" (.var 0)) (.cI 0)) (.cons .sDead .nil) .nil) (.cons (.sIf (.cmp .IsNot (.att ["Disk"] "left" (.var 0)) .cN) (.cons (.sAttA ["Disk"] "left" .Sub (.var 0) (.cI 1)) .nil) .nil) (.cons (.sAttA ["Disk"] "calls" .Add (.var 0) (.cI 1)) .nil)))
def d_Disk_use_power : Df := ⟨"Disk.use_power", metSt 13 (top 19), ["self"], ["self"], t_Disk_use_power, []⟩
def t_is_signs : T := (.cons (.sRet (.and (.isi [.str] (.var 0)) (.and (.mi .isascii (.var 0) .nil) (.mi .isprintable (.var 0) .nil)))) .nil)
def d_is_signs : Df := ⟨"is_signs", top 12, ["value"], ["value"], t_is_signs, []⟩
def t_is_file_name : T := (.cons (.sIf (.or (.not (.isi [.str] (.var 0))) (.not (.cmp2 .LtE .LtE (.cI 1) (.bi .len (.cons (.var 0) .nil)) (.gl "MOST_NAME" (.int 12))))) (.cons (.sRet (.cB false)) .nil) .nil) (.cons (.sRet (.bi .all (.cons (.comp [("sign", 1)] (.nm 1) (.var 0) .nil (.cmp .In (.var 1) (.gl "NAME_SIGNS" (.str "abcdefghijklmnopqrstuvwxyz0123456789-")))) .nil))) .nil))
def d_is_file_name : Df := ⟨"is_file_name", top 16, ["value", "sign"], ["value"], t_is_file_name, []⟩
def t__law_cell : T := (.cons (.sRet (.ife (.cmp .Lt (.var 1) (.bi .len (.cons (.var 0) .nil))) (.sub (.var 0) (.var 1)) (.bin .Add (.bin .Mult (.cI 5003) (.var 1)) (.bin .Mod (.bi .sum (.cons (.slc (.var 0) .nil (.cI 1)) .nil)) (.cI 1000081))))) .nil)
def d__law_cell : Df := ⟨"_law_cell", top 21, ["script", "k"], ["script", "k"], t__law_cell, []⟩
def t__law_box : T := (.cons (.sRet (.lstM (.cons (.bi .abs (.cons (.var 0) .nil)) (.cons (.cmp .GtE (.bi .abs (.cons (.var 0) .nil)) (.bin .Pow (.cI 10) (.cI 18))) (.cons (.bin .Mod (.bi .int (.cons (.bi .abs (.cons (.var 0) .nil)) .nil)) (.cI 2147483629)) (.cons (.cI 0) .nil)))))) .nil)
def d__law_box : Df := ⟨"_law_box", top 22, ["great"], ["great"], t__law_box, []⟩
def t__law_take : T := (.cons (.sIf (.and (.sub (.var 0) (.cI 1)) (.cmp .Gt (.sub (.var 0) (.cI 0)) (.cI 0))) (.cons (.sAsg (.nm 2) (.bin .Mod (.bi .int (.cons (.sub (.var 0) (.cI 0)) .nil)) (.var 1))) (.cons (.sSub (.var 0) (.cI 0) (.bin .FloorDiv (.sub (.var 0) (.cI 0)) (.var 1))) (.cons (.sRet (.var 2)) .nil))) .nil) (.cons (.sSub (.var 0) (.cI 3) (.bin .Add (.sub (.var 0) (.cI 3)) (.cI 1))) (.cons (.sAsg (.nm 3) (.bin .Mod (.bi .int (.cons (.bin .Pow (.bin .Add (.bin .Add (.sub (.var 0) (.cI 2)) (.bin .Mult (.cI 15485867) (.sub (.var 0) (.cI 3)))) (.cI 179424673)) (.cI 5)) .nil)) (.cI 2147483647))) (.cons (.sRet (.bin .Mod (.bin .FloorDiv (.bin .Mod (.bi .int (.cons (.bin .Pow (.bin .Add (.bin .Mult (.var 3) (.cI 48271)) (.bin .Mult (.cI 104723) (.sub (.var 0) (.cI 3)))) (.cI 3)) .nil)) (.cI 2147483587)) (.cI 64)) (.var 1))) .nil))))
def d__law_take : Df := ⟨"_law_take", top 23, ["box", "many", "digit", "mixed"], ["box", "many"], t__law_take, []⟩
def t__law_signs : T := (.cons (.sRet (.cS "abcdefghijklmnopqrstuvwxyz0123456789-")) .nil)
def d__law_signs : Df := ⟨"_law_signs", top 24, [], [], t__law_signs, []⟩
def t__law_marks : T := (.cons (.sRet (.bin .Add (.bin .Add (.bin .Add (.bin .Add (.cS " !#$&'()*+,-./:;<=>?@\x5b]^_`{|}~") (.cS "\"")) (.cS "\\")) (.cS "ABCDEFGHIJKLMNOPQRSTUVWXYZ")) (.call "_law_signs" .nil))) .nil)
def d__law_marks : Df := ⟨"_law_marks", top 25, [], [], t__law_marks, []⟩
def t__law_pool : T := (.cons (.sRet (.lst (.cons (.cS "ab") (.cons (.cS "a") (.cons (.cS "abc") (.cons (.cS "a-") (.cons (.cS "a0") (.cons (.cS "10") (.cons (.cS "9") (.cons (.cS "-") (.cons (.cS "log-0010") (.cons (.cS "log-0002") (.cons (.cS "zzzzzzzzzzzz") (.cons (.cS "b") .nil)))))))))))))) .nil)
def d__law_pool : Df := ⟨"_law_pool", top 26, [], [], t__law_pool, []⟩
def t__law_word : T := (.cons (.sRet (.mi .join (.cS "") (.cons (.comp [("turn", 3)] (.nm 3) (.rng1 (.bin .Add (.cI 1) (.call "_law_take" (.cons (.var 0) (.cons (.var 2) .nil))))) .nil (.sub (.var 1) (.call "_law_take" (.cons (.var 0) (.cons (.bi .len (.cons (.var 1) .nil)) .nil))))) .nil))) .nil)
def d__law_word : Df := ⟨"_law_word", top 27, ["box", "signs", "most", "turn"], ["box", "signs", "most"], t__law_word, []⟩
def t__law_any_name : T := (.cons (.sPar2 2 3 (.cons (.call "_law_take" (.cons (.var 0) (.cons (.cI 10) .nil))) (.cons (.srt (.bi .list (.cons (.var 1) .nil))) .nil))) (.cons (.sIf (.and (.cmp .Lt (.var 2) (.cI 4)) (.cmp .NotEq (.var 3) (.lst .nil))) (.cons (.sRet (.sub (.var 3) (.call "_law_take" (.cons (.var 0) (.cons (.bi .len (.cons (.var 3) .nil)) .nil))))) .nil) .nil) (.cons (.sIf (.cmp .Lt (.var 2) (.cI 7)) (.cons (.sRet (.sub (.call "_law_pool" .nil) (.call "_law_take" (.cons (.var 0) (.cons (.cI 12) .nil))))) .nil) .nil) (.cons (.sIf (.cmp .Eq (.var 2) (.cI 7)) (.cons (.sRet (.call "_law_word" (.cons (.var 0) (.cons (.call "_law_signs" .nil) (.cons (.cI 12) .nil))))) .nil) .nil) (.cons (.sAsg (.nm 4) (.call "_law_word" (.cons (.var 0) (.cons (.call "_law_signs" .nil) (.cons (.cI 6) .nil))))) (.cons (.sAsg (.nm 5) (.call "_law_take" (.cons (.var 0) (.cons (.bin .Add (.bi .len (.cons (.var 4) .nil)) (.cI 1)) .nil)))) (.cons (.sIf (.cmp .Eq (.var 2) (.cI 8)) (.cons (.sRet (.bin .Add (.bin .Add (.slc (.var 4) .nil (.var 5)) (.sub (.cS "A_ .\n/~:\t") (.call "_law_take" (.cons (.var 0) (.cons (.cI 9) .nil))))) (.slc (.var 4) (.var 5) .nil))) .nil) .nil) (.cons (.sRet (.sub (.lst (.cons (.cS "") (.cons (.cS "abcdefghijkl0") (.cons .cN (.cons (.cI 7) (.cons (.cB true) (.cons (.lstM (.cons (.cS "a") .nil)) (.cons (.tup (.cons (.cS "a") .nil)) (.cons (.dicC (.lst (.cons (.tup (.cons (.cS "a") (.cons (.cI 1) .nil))) .nil))) (.cons (.cI 0) (.cons (.cS "Log-0001") .nil))))))))))) (.call "_law_take" (.cons (.var 0) (.cons (.cI 10) .nil))))) .nil))))))))
def d__law_any_name : Df := ⟨"_law_any_name", top 28, ["box", "files", "way", "known", "good", "spot"], ["box", "files"], t__law_any_name, []⟩
def t__law_any_text : T := (.cons (.sPar2 1 2 (.cons (.call "_law_take" (.cons (.var 0) (.cons (.cI 12) .nil))) (.cons (.call "_law_word" (.cons (.var 0) (.cons (.call "_law_marks" .nil) (.cons (.cI 24) .nil)))) .nil))) (.cons (.sIf (.cmp .Eq (.var 1) (.cI 0)) (.cons (.sRet (.sub (.lst (.cons (.cS "") (.cons .cN (.cons (.cI 0) (.cons (.lstM (.cons (.cS "ab") .nil)) (.cons (.tup (.cons (.cS "a") (.cons (.cS "b") .nil))) (.cons (.cB true) (.cons (.dicC (.lst .nil)) .nil)))))))) (.call "_law_take" (.cons (.var 0) (.cons (.cI 7) .nil))))) .nil) .nil) (.cons (.sIf (.cmp .Eq (.var 1) (.cI 1)) (.cons (.sAsg (.nm 2) (.bin .Add (.bin .Mult (.cS "x") (.sub (.lst (.cons (.cI 0) (.cons (.cI 0) (.cons (.cI 150) .nil)))) (.call "_law_take" (.cons (.var 0) (.cons (.cI 3) .nil))))) (.var 2))) (.cons (.sAsg (.nm 3) (.call "_law_take" (.cons (.var 0) (.cons (.bin .Add (.bi .len (.cons (.var 2) .nil)) (.cI 1)) .nil)))) (.cons (.sRet (.bin .Add (.bin .Add (.slc (.var 2) .nil (.var 3)) (.sub (.cS "\n\t") (.call "_law_take" (.cons (.var 0) (.cons (.cI 2) .nil))))) (.slc (.var 2) (.var 3) .nil))) .nil))) .nil) (.cons (.sRet (.var 2)) .nil))))
def d__law_any_text : Df := ⟨"_law_any_text", top 29, ["box", "way", "good", "spot"], ["box"], t__law_any_text, []⟩
def t__law_is_name : T := (.cons (.sIf (.or (.not (.isi [.str] (.var 0))) (.not (.cmp2 .LtE .LtE (.cI 1) (.bi .len (.cons (.var 0) .nil)) (.cI 12)))) (.cons (.sRet (.cB false)) .nil) .nil) (.cons (.sRet (.cmp .Eq (.comp [("sign", 1)] (.nm 1) (.var 0) (.cmp .NotIn (.var 1) (.call "_law_signs" .nil)) (.var 1)) (.lst .nil))) .nil))
def d__law_is_name : Df := ⟨"_law_is_name", top 30, ["thing", "sign"], ["thing"], t__law_is_name, []⟩
def t__law_is_text : T := (.cons (.sIf (.or (.not (.isi [.str] (.var 0))) (.cmp .Eq (.bi .len (.cons (.var 0) .nil)) (.cI 0))) (.cons (.sRet (.cB false)) .nil) .nil) (.cons (.sRet (.cmp .Eq (.comp [("sign", 1)] (.nm 1) (.var 0) (.cmp .NotIn (.var 1) (.call "_law_marks" .nil)) (.var 1)) (.lst .nil))) .nil))
def d__law_is_text : Df := ⟨"_law_is_text", top 31, ["thing", "sign"], ["thing"], t__law_is_text, []⟩
def t__law_due : T := (.cons (.sIf (.not (.call "_law_is_name" (.cons (.var 3) .nil))) (.cons (.sRet (.lst (.cons (.cS "name") (.cons (.var 3) .nil)))) .nil) .nil) (.cons (.sIf (.and (.cmp .Lt (.var 2) (.cI 2)) (.not (.call "_law_is_text" (.cons (.var 4) .nil)))) (.cons (.sRet (.lst (.cons (.cS "text") (.cons (.var 4) .nil)))) .nil) .nil) (.cons (.sIf (.and (.cmp .GtE (.var 2) (.cI 2)) (.dni (.var 3) (.var 0))) (.cons (.sRet (.lst (.cons (.cS "none") (.cons (.var 3) .nil)))) .nil) .nil) (.cons (.sIf (.cmp .Lt (.var 2) (.cI 2)) (.cons (.sAsg (.nm 5) (.dget (.var 0) (.var 3) (.lst (.cons (.cS "") (.cons (.cI 0) .nil))))) (.cons (.sPutD (.var 0) (.var 3) (.lst (.cons (.bin .Add (.sub (.var 5) (.cI 0)) (.var 4)) (.cons (.sub (.var 5) (.cI 1)) .nil)))) .nil)) .nil) (.cons (.sIf (.cmp .In (.var 2) (.lst (.cons (.cI 2) (.cons (.cI 3) .nil)))) (.cons (.sPutD (.var 0) (.var 3) (.lst (.cons (.sub (.dsub (.var 0) (.var 3)) (.cI 0)) (.cons (.bi .len (.cons (.sub (.dsub (.var 0) (.var 3)) (.cI 0)) .nil)) .nil)))) .nil) .nil) (.cons (.sIf (.cmp .In (.var 2) (.lst (.cons (.cI 4) (.cons (.cI 5) .nil)))) (.cons (.sExp (.dpop (.var 0) (.var 3))) .nil) .nil) (.cons (.sSub (.var 1) (.cI 0) (.bin .Add (.sub (.var 1) (.cI 0)) (.bi .int (.cons (.cmp .Lt (.var 2) (.cI 6)) .nil)))) (.cons (.sIf (.cmp .Lt (.var 2) (.cI 6)) (.cons (.sRet (.lst (.cons (.cS "told") (.cons .cN .nil)))) .nil) .nil) (.cons (.sRet (.lst (.cons (.cS "told") (.cons (.sub (.dsub (.var 0) (.var 3)) (.bi .int (.cons (.cmp .GtE (.var 2) (.cI 8)) .nil))) .nil)))) .nil)))))))))
def d__law_due : Df := ⟨"_law_due", top 32, ["files", "counts", "way", "name", "text", "old"], ["files", "counts", "way", "name", "text"], t__law_due, []⟩
def t__law_told : T := (.cons (.sTry (.cons (.sIf (.cmp .Eq (.var 1) (.cI 0)) (.cons (.sRet (.lst (.cons (.cS "told") (.cons (.mcall [("Disk", "Disk.write")] "write" (.var 0) (.cons (.var 2) (.cons (.var 3) .nil))) .nil)))) .nil) .nil) (.cons (.sIf (.cmp .Eq (.var 1) (.cI 1)) (.cons (.sRet (.lst (.cons (.cS "told") (.cons (.mcallK [("Disk", "Disk.write")] "write" (.var 0) .nil 0 ["text", "name"] [1, 0] (.cons (.var 3) (.cons (.var 2) .nil))) .nil)))) .nil) .nil) (.cons (.sIf (.cmp .Lt (.var 1) (.cI 4)) (.cons (.sRet (.lst (.cons (.cS "told") (.cons (.ife (.cmp .Eq (.var 1) (.cI 2)) (.mcall [("Disk", "Disk.sync")] "sync" (.var 0) (.cons (.var 2) .nil)) (.mcallK [("Disk", "Disk.sync")] "sync" (.var 0) .nil 0 ["name"] [0] (.cons (.var 2) .nil))) .nil)))) .nil) .nil) (.cons (.sIf (.cmp .Lt (.var 1) (.cI 6)) (.cons (.sRet (.lst (.cons (.cS "told") (.cons (.ife (.cmp .Eq (.var 1) (.cI 4)) (.mcall [("Disk", "Disk.drop")] "drop" (.var 0) (.cons (.var 2) .nil)) (.mcallK [("Disk", "Disk.drop")] "drop" (.var 0) .nil 0 ["name"] [0] (.cons (.var 2) .nil))) .nil)))) .nil) .nil) (.cons (.sIf (.cmp .Lt (.var 1) (.cI 8)) (.cons (.sRet (.lst (.cons (.cS "told") (.cons (.ife (.cmp .Eq (.var 1) (.cI 6)) (.mcall [("Disk", "Disk.read")] "read" (.var 0) (.cons (.var 2) .nil)) (.mcallK [("Disk", "Disk.read")] "read" (.var 0) .nil 0 ["name"] [0] (.cons (.var 2) .nil))) .nil)))) .nil) .nil) (.cons (.sRet (.lst (.cons (.cS "told") (.cons (.ife (.cmp .Eq (.var 1) (.cI 8)) (.mcall [("Disk", "Disk.synced")] "synced" (.var 0) (.cons (.var 2) .nil)) (.mcallK [("Disk", "Disk.synced")] "synced" (.var 0) .nil 0 ["name"] [0] (.cons (.var 2) .nil))) .nil)))) .nil)))))) [⟨"InvalidName", some 4, ["InvalidName"], ["InvalidKeeps", "InvalidText", "NoFile"], .retL false [.str "name", .fld "given" ["InvalidName"]]⟩, ⟨"InvalidText", some 4, ["InvalidText"], ["InvalidKeeps", "InvalidName", "NoFile"], .retL false [.str "text", .fld "given" ["InvalidText"]]⟩, ⟨"NoFile", some 4, ["NoFile"], ["InvalidKeeps", "InvalidName", "InvalidText"], .retL false [.str "none", .fld "name" ["NoFile"]]⟩]) .nil)
def d__law_told : Df := ⟨"_law_told", top 33, ["disk", "way", "name", "text", "e"], ["disk", "way", "name", "text"], t__law_told, []⟩
def t__law_same : T := (.cons (.sIf (.cmp .NotEq (.bi .repr (.cons (.var 0) .nil)) (.bi .repr (.cons (.var 1) .nil))) (.cons (.sRet (.cB false)) .nil) .nil) (.cons (.sIf (.or (.cmp .Eq (.sub (.var 1) (.cI 0)) (.cS "told")) (.not (.isi [.list] (.sub (.var 1) (.cI 1))))) (.cons (.sRet (.cB true)) .nil) .nil) (.cons (.sAsg (.nm 2) (.sub (.var 1) (.cI 1))) (.cons (.sExp (.app (.var 2) (.cS "more"))) (.cons (.sRet (.cmp .Eq (.bi .repr (.cons (.var 0) .nil)) (.bi .repr (.cons (.var 1) .nil)))) .nil)))))
def d__law_same : Df := ⟨"_law_same", top 34, ["told", "due", "handed"], ["told", "due"], t__law_same, []⟩
def t__law_alike : T := (.cons (.sFor (.nm 3) (.ife (.cmp .Eq (.bin .Mod (.bi .int (.cons (.sub (.var 2) (.cI 0)) .nil)) (.cI 2)) (.cI 0)) (.rev (.srt (.bi .list (.cons (.var 1) .nil)))) (.lst .nil)) (.cons (.sIf (.cmp .NotEq (.bi .repr (.cons (.lst (.cons (.mcall [("Disk", "Disk.synced")] "synced" (.var 0) (.cons (.var 3) .nil)) (.cons (.mcall [("Disk", "Disk.read")] "read" (.var 0) (.cons (.var 3) .nil)) .nil))) .nil)) (.bi .repr (.cons (.rev (.dsub (.var 1) (.var 3))) .nil))) (.cons (.sRet (.cB false)) .nil) .nil) .nil)) (.cons (.sAsg (.nm 4) (.mcall [("Disk", "Disk.names")] "names" (.var 0) .nil)) (.cons (.sIf (.or (.not (.isi [.list] (.var 4))) (.or (.cmp .NotEq (.var 4) (.srt (.bi .list (.cons (.var 1) .nil)))) (.cmp .NotEq (.bi .repr (.cons (.mcall [("Disk", "Disk.ops")] "ops" (.var 0) .nil) .nil)) (.bi .repr (.cons (.sub (.var 2) (.cI 0)) .nil))))) (.cons (.sRet (.cB false)) .nil) .nil) (.cons (.sExp (.app (.var 4) (.cS "a"))) (.cons (.sSub (.var 4) (.cI 0) (.cS "zz")) (.cons (.sFor (.nm 3) (.srt (.bi .list (.cons (.var 1) .nil))) (.cons (.sIf (.cmp .NotEq (.bi .repr (.cons (.lst (.cons (.mcall [("Disk", "Disk.read")] "read" (.var 0) (.cons (.var 3) .nil)) (.cons (.mcall [("Disk", "Disk.synced")] "synced" (.var 0) (.cons (.var 3) .nil)) .nil))) .nil)) (.bi .repr (.cons (.dsub (.var 1) (.var 3)) .nil))) (.cons (.sRet (.cB false)) .nil) .nil) .nil)) (.cons (.sRet (.cmp .Eq (.mcall [("Disk", "Disk.names")] "names" (.var 0) .nil) (.srt (.bi .list (.cons (.var 1) .nil))))) .nil)))))))
def d__law_alike : Df := ⟨"_law_alike", top 35, ["disk", "files", "counts", "name", "names"], ["disk", "files", "counts"], t__law_alike, []⟩
def t_law : T := (.cons (.sFor (.nm 1) (.rng1 (.bi .max (.cons (.cI 2) (.cons (.bi .min (.cons (.cI 4) (.cons (.bi .len (.cons (.var 0) .nil)) .nil))) .nil)))) (.cons (.sAsg (.nm 2) (.call "_law_box" (.cons (.call "_law_cell" (.cons (.var 0) (.cons (.var 1) .nil))) .nil))) (.cons (.sPar3 3 4 5 (.cons (.lst (.cons (.new "Disk" "Disk.__init__" .nil) (.cons (.new "Disk" "Disk.__init__" .nil) .nil))) (.cons (.lst (.cons (.dicC (.lst .nil)) (.cons (.dicC (.lst .nil)) .nil))) (.cons (.lst (.cons (.lstM (.cons (.cI 0) .nil)) (.cons (.lstM (.cons (.cI 0) .nil)) .nil))) .nil)))) (.cons (.sFor (.nm 6) (.rng1 (.cI 28)) (.cons (.sPar2 7 8 (.cons (.call "_law_take" (.cons (.var 2) (.cons (.cI 2) .nil))) (.cons (.sub (.lst (.cons (.cI 0) (.cons (.cI 1) (.cons (.cI 0) (.cons (.cI 1) (.cons (.cI 0) (.cons (.cI 2) (.cons (.cI 3) (.cons (.cI 2) (.cons (.cI 4) (.cons (.cI 5) (.cons (.cI 6) (.cons (.cI 7) (.cons (.cI 8) (.cons (.cI 9) .nil))))))))))))))) (.call "_law_take" (.cons (.var 2) (.cons (.cI 14) .nil)))) .nil))) (.cons (.sPar2 9 10 (.cons (.call "_law_any_name" (.cons (.var 2) (.cons (.sub (.var 4) (.var 7)) .nil))) (.cons (.call "_law_any_text" (.cons (.var 2) .nil)) .nil))) (.cons (.sIf (.cmp .Lt (.var 6) (.cI 8)) (.cons (.sPar3 7 8 9 (.cons (.bin .Mod (.bi .int (.cons (.var 6) .nil)) (.cI 2)) (.cons (.sub (.lst (.cons (.cI 0) (.cons (.cI 0) (.cons (.cI 0) (.cons (.cI 0) (.cons (.cI 0) (.cons (.cI 1) (.cons (.cI 2) (.cons (.cI 3) .nil))))))))) (.var 6)) (.cons (.sub (.call "_law_pool" .nil) (.call "_law_take" (.cons (.var 2) (.cons (.cI 12) .nil)))) .nil)))) .nil) .nil) (.cons (.sAsg (.nm 11) (.call "_law_due" (.cons (.sub (.var 4) (.var 7)) (.cons (.sub (.var 5) (.var 7)) (.cons (.var 8) (.cons (.var 9) (.cons (.var 10) .nil))))))) (.cons (.sIf (.not (.call "_law_same" (.cons (.call "_law_told" (.cons (.sub (.var 3) (.var 7)) (.cons (.var 8) (.cons (.var 9) (.cons (.var 10) .nil))))) (.cons (.var 11) .nil)))) (.cons (.sRet (.cB false)) .nil) .nil) (.cons (.sFor (.nm 12) (.lst (.cons (.cI 0) (.cons (.cI 1) .nil))) (.cons (.sIf (.not (.call "_law_alike" (.cons (.sub (.var 3) (.var 12)) (.cons (.sub (.var 4) (.var 12)) (.cons (.sub (.var 5) (.var 12)) .nil))))) (.cons (.sRet (.cB false)) .nil) .nil) .nil)) .nil))))))) .nil)))) (.cons (.sRet (.cB true)) .nil))
def d_law : Df := ⟨"law", top 36, ["script", "k", "box", "disks", "files", "counts", "turn", "at", "way", "name", "text", "due", "other"], ["script"], t_law, []⟩
def ds : List Df := [d_Disk_synced, d_Disk_read, d_Disk_drop, d_Disk_sync, d_Disk_write, d_Disk_names, d_Disk_ops, d_Disk___init__, d_Disk_check_file, d_Disk_use_power, d_is_signs, d_is_file_name, d__law_cell, d__law_box, d__law_take, d__law_signs, d__law_marks, d__law_pool, d__law_word, d__law_any_name, d__law_any_text, d__law_is_name, d__law_is_text, d__law_due, d__law_told, d__law_same, d__law_alike, d_law]
def tb : Tb := { fs := ["is_signs", "is_file_name", "_law_cell", "_law_box", "_law_take", "_law_signs", "_law_marks", "_law_pool", "_law_word", "_law_any_name", "_law_any_text", "_law_is_name", "_law_is_text", "_law_due", "_law_told", "_law_same", "_law_alike", "law"], kw := [], bs := ["isinstance", "str", "all", "len", "sum", "int", "abs", "range", "dict", "sorted", "list", "repr", "max", "min"], cs := [("NAME_SIGNS", (.str "abcdefghijklmnopqrstuvwxyz0123456789-")), ("MOST_NAME", (.int 12))], xs := [("InvalidKeeps", ["given"]), ("InvalidName", ["given"]), ("InvalidText", ["given"]), ("NoFile", ["name"])], xm := [("InvalidName", "InvalidName", true), ("InvalidKeeps", "InvalidName", false), ("InvalidText", "InvalidName", false), ("NoFile", "InvalidName", false), ("InvalidText", "InvalidText", true), ("InvalidKeeps", "InvalidText", false), ("InvalidName", "InvalidText", false), ("NoFile", "InvalidText", false), ("NoFile", "NoFile", true), ("InvalidKeeps", "NoFile", false), ("InvalidName", "NoFile", false), ("InvalidText", "NoFile", false)], xc := ["InvalidName", "InvalidText", "NoFile"], cl := [("Disk", ["marks", "files", "calls", "left"])], ms := [("Disk", "synced", "Disk.synced"), ("Disk", "read", "Disk.read"), ("Disk", "drop", "Disk.drop"), ("Disk", "sync", "Disk.sync"), ("Disk", "write", "Disk.write"), ("Disk", "names", "Disk.names"), ("Disk", "ops", "Disk.ops"), ("Disk", "check_file", "Disk.check_file"), ("Disk", "use_power", "Disk.use_power")], mkw := [("Disk.synced", 1, ["name"], [0]), ("Disk.read", 1, ["name"], [0]), ("Disk.drop", 1, ["name"], [0]), ("Disk.sync", 1, ["name"], [0]), ("Disk.write", 1, ["text", "name"], [1, 0])], nw := [("Disk", "Disk.__init__")] }
theorem ds_ok : ds.all (dfOk tb) = true := by decide +kernel
end K06

/-! k06: names and texts judged; what is due. -/
namespace K06
open PySem L2 Ko NumText
local macro_rules | `(tactic| walk_at "ko_ev_K06b") => `(tactic| simp only [YesS.fin, semD, den, mkE, mkT, mkX, mkS, YesS.seq, YesS.nil, YesS.ret, YesS.ifS, YesS.asg, y_c, y_v, y_f2, y_f1, y_fA, y_nil, y_cons, y_tup, y_lst, y_lstM, y_dic0, y_tF, y_bF, y_tAnd, y_tOr, y_tNot, y_not, y_and, y_or, y_if, y_call, y_kw, y_chain, y_slc, y_pN, y_pS, y_isi, y_ms, y_src, y_rng1, y_comp, y_yes, s_exp, s_par2, s_sub, s_for, y_mcall, y_new, y_dget, y_dpop, y_dicN, y_dicC, y_lstC, y_srt, y_srtM, y_app', s_putD, s_att, s_del, ops_call, ops_ar, Yes.ok, nu_isascii, nu_isprintable, nu_isalpha, nu_islower, nu_isdigit, nu_join, nu_count, nu_startswith, nu_endswith, nu_zfill, nu_stripC])
local macro_rules | `(tactic| walk_at "ko_ar_K06b") => `(tactic| simp only [ex_some, ex_ite, bin_add, bin_sub, bin_mul, bin_div, bin_mod, bin_pow, add_ii, sub_ii, mul_ii, div_ii, mod_ii, pow_ii, neg_i, cmp_eq, cmp_ne, cmp_lt, cmp_le, cmp_gt, cmp_ge, cmp_is, cmp_isn, lt_ii, le_ii, gt_ii, ge_ii, eq_ii, ne_ii, tru_b, tru_i, as_b, int_i, abs_i, put_nm, put_tup, put_lst])
local macro_rules | `(tactic| walk_at "ko_li_K06b") => `(tactic| simp only [List.getElem?_cons_zero, List.getElem?_cons_succ, List.set_cons_succ, List.set_cons_zero, putl_nil, putl_cons, put_nm, put_tup, put_lst, Option.bind_some])
local macro_rules | `(tactic| walk_at "ko_bo_K06b") => `(tactic| simp only [Bool.not_true, Bool.not_false, if_true, if_false, Bool.false_eq_true, reduceIte])
theorem dk : Dk ds := ⟨⟨_, rfl, rfl, rfl⟩, rfl, ⟨_, rfl, rfl, rfl⟩, rfl, ⟨_, rfl, rfl, rfl⟩, rfl, ⟨_, rfl, rfl, rfl⟩, rfl, ⟨_, rfl, rfl, rfl⟩, rfl, ⟨_, rfl, rfl, rfl⟩, rfl, ⟨_, rfl, rfl, rfl⟩, rfl, ⟨_, rfl, rfl, rfl⟩, rfl, ⟨_, rfl, rfl, rfl⟩, rfl, ⟨_, rfl, rfl, rfl⟩, rfl, ⟨_, rfl, rfl, rfl⟩, rfl, ⟨_, rfl, rfl, rfl⟩, rfl⟩
theorem drw : Drw ds := ⟨⟨_, 15485867, 179424673, rfl, rfl, rfl, by decide⟩, ⟨_, rfl, rfl, rfl⟩, ⟨_, rfl, rfl, rfl⟩, rfl⟩
theorem fd_isname : findD ds "_law_is_name" = some d__law_is_name := by rfl
theorem fd_istext : findD ds "_law_is_text" = some d__law_is_text := by rfl
theorem fd_marks : findD ds "_law_marks" = some d__law_marks := by rfl
theorem fd_signs : findD ds "_law_signs" = some d__law_signs := by rfl
theorem fd_due : findD ds "_law_due" = some d__law_due := by rfl
theorem ni_sg {ah : AH} {c : Nat} {w : Str} : notInF ah (sg c) (.str w) = some (.bl (!decide (c ∈ Ls w))) := rfl
theorem sgs_dat : ∀ l : List Nat, (∀ c ∈ l, c < 1114112) → ∃ e, datL (l.map sg) = some e ∧ PyData.canLayAll0 e = true ∧ PyData.depthAll e = 0 ∧ e.length = l.length
  | [], _ => ⟨[], rfl, by simp only [PyData.canLayAll0], by simp only [PyData.depthAll], rfl⟩
  | c :: l, h => by
    obtain ⟨e, e1, e2, e3, e4⟩ := sgs_dat l fun d hd => h d (List.mem_cons_of_mem _ hd)
    refine ⟨.str ⟨#[c]⟩ :: e, ?_, ?_, ?_, by simp [e4]⟩
    · simp only [List.map_cons, sg, datL, dat, Option.bind_some]
      rw [e1]; rfl
    · have : PyData.strOk ⟨#[c]⟩ = true := by
        unfold PyData.strOk
        have := h c (List.mem_cons_self ..)
        simp
        omega
      simp only [PyData.canLayAll0, PyData.canLay0, this, e2, Bool.and_self]
    · simp only [PyData.depthAll, PyData.depth, e3]; rfl
theorem filt_eq {l : List Nat} {p : Nat → Bool} {ah : AH} (h : ∀ c ∈ l, c < 1114112) : eqF ah (.lst ((l.filter fun c => !p c).map sg)) (.lst []) = some (.bl (l.all p)) := by
  obtain ⟨e, e1, e2, e3, e4⟩ := sgs_dat (l.filter fun c => !p c) fun c hc => h c (List.mem_filter.mp hc).1
  have q : datH ah (.lst ((l.filter fun c => !p c).map sg)) = some (.list e) := dat_H (by simp only [dat, e1, Option.map_some])
  have q2 : datH ah (.lst []) = some (.list []) := rfl
  have s : SeqAt.shaped (.list e) = true := by
    unfold SeqAt.shaped
    simp only [PyData.canLay0, PyData.depth, e2, e3]
    rfl
  have s2 : SeqAt.shaped (.list []) = true := by decide +kernel
  show (eqD ah _ _).map AV.bl = _
  unfold eqD
  rw [q, q2, Option.bind_some, Option.bind_some, if_pos ⟨s, s2⟩]
  have : PyData.eqv (.list e) (.list []) = l.all p := by
    cases e with
    | nil =>
      have hf : l.filter (fun c => !p c) = [] := List.eq_nil_of_length_eq_zero e4.symm
      simp only [PyData.eqv, PyData.eqvAll]
      symm
      rw [List.all_eq_true]
      intro c hc
      have := List.filter_eq_nil_iff.mp hf c hc
      simpa using this
    | cons x r =>
      have hf : l.filter (fun c => !p c) ≠ [] := fun z => by rw [z] at e4; cases e4
      simp only [PyData.eqv, PyData.eqvAll]
      symm
      refine Bool.eq_false_iff.mpr fun ha => hf (List.filter_eq_nil_iff.mpr fun c hc => ?_)
      rw [List.all_eq_true.mp ha c hc]; decide
  rw [this]; rfl
theorem c_lsig {k : Nat} {ah : AH} : Yes (cl ds (k + 1) "_law_signs" [] ah) fun v ah' => v = .str "abcdefghijklmnopqrstuvwxyz0123456789-" ∧ ah' = ah := by
  rw [cl_eq fd_signs]
  exact ⟨rfl, rfl⟩
theorem c_isname {k : Nat} {v : AV} {ah : AH} (h : VOk ah v) (hch : ∀ z, v = .str z → ∀ c ∈ Ls z, c < 1114112) : Yes (cl ds (k + 2) "_law_is_name" [v] ah) fun r ah' => r = .bl (nmB v) ∧ ah' = ah := by
  obtain ⟨t, hty⟩ := h.ty
  rw [cl_eq fd_isname]
  simp only [d__law_is_name, t__law_is_name]
  walk_at "ko_ev_K06b"
  simp only [show startA ["thing", "sign"] [v] = [some v, none] from rfl]
  walk_at "ko_li_K06b"
  rcases ty_str hty with ⟨z, rfl, rfl⟩ | ⟨h1, h2⟩
  · have hl := h.len z rfl
    refine ⟨"str", rfl, true, rfl, ?_⟩
    rw [if_neg (by decide), len_s, if_pos (by rw [sz]; omega), ex_some, cmp_le, le_ii, as_b, ex_some]
    have hf : ∀ b : Bool, b = (Ls z).all nch → AV.bl (decide (1 ≤ z.length ∧ z.length ≤ 12) && b) = AV.bl (nmB (.str z)) := fun b e => by rw [e]; rfl
    by_cases g1 : (1 : Int) ≤ z.length
    · rw [if_pos (decide_eq_true g1), le_ii, ex_some, as_b, ex_some]
      by_cases g2 : (z.length : Int) ≤ 12
      · rw [decide_eq_true g2, if_neg (by decide)]
        walk_at "ko_ev_K06b"
        try walk_at "ko_li_K06b"
        rw [src_s, ex_some]
        refine (comp_gen (l := Ls z) (g := sg) (f := sg) (p := fun c => !nch c) (by rw [← len_ls]; omega) (fun c hc => ?_) fun c hc _ => ?_).imp fun v ah1 ⟨e1, e2⟩ => ?_
        · walk_at "ko_ev_K06b"
          try walk_at "ko_li_K06b"
          refine ⟨rfl, c_lsig.imp fun w ah2 ⟨e1, e2⟩ => ?_⟩
          subst e1 e2
          exact ⟨_, ni_sg, _, rfl, rfl, by first | rfl | trivial⟩
        · walk_at "ko_ev_K06b"
          try walk_at "ko_li_K06b"
          exact ⟨rfl, by first | rfl | trivial⟩
        subst e1 e2
        refine ⟨by show 0 ≤ sizeLine; decide, ?_⟩
        rw [cmp_eq, filt_eq (hch z rfl), ex_some]
        refine ⟨?_, by first | rfl | trivial⟩
        rw [← hf _ rfl, decide_eq_true (by omega), Bool.true_and]
      · rw [decide_eq_false g2, if_pos (by decide)]
        walk_at "ko_ev_K06b"
        refine ⟨?_, by first | rfl | trivial⟩
        rw [← hf _ rfl, decide_eq_false (by omega), Bool.false_and]
    · rw [if_neg (by simpa using g1), as_b, ex_some, if_pos (by decide)]
      walk_at "ko_ev_K06b"
      refine ⟨?_, by first | rfl | trivial⟩
      rw [← hf _ rfl, decide_eq_false (by omega), Bool.false_and]
  · refine ⟨t, hty, false, by rw [h2]; rfl, ?_⟩
    walk_at "ko_bo_K06b"
    walk_at "ko_ev_K06b"
    refine ⟨?_, by first | rfl | trivial⟩
    cases v <;> first | rfl | exact absurd rfl (h1 _)
def marks : Str := " !#$&'()*+,-./:;<=>?@\x5b]^_`{|}~" ++ "\"" ++ "\\" ++ "ABCDEFGHIJKLMNOPQRSTUVWXYZ" ++ "abcdefghijklmnopqrstuvwxyz0123456789-"
def mkB (c : Nat) : Bool := decide (c ∈ Ls marks)
def txB : AV → Bool | .str z => decide (z.length ≠ 0) && (Ls z).all mkB | _ => false
theorem mk_print {c : Nat} (h : mkB c = true) : 32 ≤ c ∧ c ≤ 126 := by
  have q : (Ls marks).all (fun c => decide (32 ≤ c ∧ c ≤ 126)) = true := by decide +kernel
  exact of_decide_eq_true (List.all_eq_true.mp q c (of_decide_eq_true h))
theorem c_marks {k : Nat} {ah : AH} : Yes (cl ds (k + 2) "_law_marks" [] ah) fun v ah' => v = .str marks ∧ ah' = ah := by
  rw [cl_eq fd_marks]
  simp only [d__law_marks, t__law_marks]
  walk_at "ko_ev_K06b"
  have e : ∀ (x y : Str), x.length + y.length ≤ 1000 → binF .Add ah (.str x) (.str y) = some (.str (x ++ y)) := fun x y h => by
    rw [bin_add, add_ss, if_pos (by rw [sz]; omega)]
  refine ⟨_, e _ _ (by decide +kernel), _, e _ _ (by decide +kernel), _, e _ _ (by decide +kernel), rfl, c_lsig.imp fun w ah2 ⟨e1, e2⟩ => ?_⟩
  subst e1 e2
  refine ⟨_, e _ _ (by decide +kernel), rfl, by first | rfl | trivial⟩
theorem c_istext {k : Nat} {v : AV} {ah : AH} (h : VOk ah v) (hlv : ∀ z, v = .str z → z.length ≤ 100000) (hch : ∀ z, v = .str z → ∀ c ∈ Ls z, c < 1114112) : Yes (cl ds (k + 3) "_law_is_text" [v] ah) fun r ah' => r = .bl (txB v) ∧ ah' = ah := by
  obtain ⟨t, hty⟩ := h.ty
  rw [cl_eq fd_istext]
  simp only [d__law_is_text, t__law_is_text]
  walk_at "ko_ev_K06b"
  simp only [show startA ["thing", "sign"] [v] = [some v, none] from rfl]
  walk_at "ko_li_K06b"
  rcases ty_str hty with ⟨z, rfl, rfl⟩ | ⟨h1, h2⟩
  · have hl := hlv z rfl
    refine ⟨"str", rfl, true, rfl, ?_⟩
    walk_at "ko_bo_K06b"
    rw [len_s, if_pos (by rw [sz]; omega), ex_some, cmp_eq, eq_ii, ex_some, as_b, ex_some]
    have hf : ∀ b : Bool, b = (Ls z).all mkB → AV.bl (decide (z.length ≠ 0) && b) = AV.bl (txB (.str z)) := fun b e => by rw [e]; rfl
    by_cases g : (z.length : Int) = 0
    · rw [decide_eq_true g]
      walk_at "ko_bo_K06b"
      walk_at "ko_ev_K06b"
      refine ⟨?_, by first | rfl | trivial⟩
      rw [← hf _ rfl, decide_eq_false (by omega), Bool.false_and]
    · rw [decide_eq_false g]
      walk_at "ko_bo_K06b"
      try walk_at "ko_ev_K06b"
      try walk_at "ko_li_K06b"
      rw [src_s, ex_some]
      refine (comp_gen (l := Ls z) (g := sg) (f := sg) (p := fun c => !mkB c) (by rw [← len_ls]; omega) (fun c hc => ?_) fun c hc _ => ?_).imp fun v ah1 ⟨e1, e2⟩ => ?_
      · walk_at "ko_ev_K06b"
        try walk_at "ko_li_K06b"
        refine ⟨rfl, c_marks.imp fun w ah2 ⟨e1, e2⟩ => ?_⟩
        subst e1 e2
        exact ⟨_, ni_sg, _, rfl, rfl, by first | rfl | trivial⟩
      · walk_at "ko_ev_K06b"
        try walk_at "ko_li_K06b"
        exact ⟨rfl, by first | rfl | trivial⟩
      subst e1 e2
      refine ⟨by show 0 ≤ sizeLine; decide, ?_⟩
      rw [filt_eq (hch z rfl), ex_some]
      refine ⟨?_, by first | rfl | trivial⟩
      rw [← hf _ rfl, decide_eq_true (by omega), Bool.true_and]
  · refine ⟨t, hty, false, by rw [h2]; rfl, ?_⟩
    walk_at "ko_bo_K06b"
    walk_at "ko_ev_K06b"
    refine ⟨?_, by first | rfl | trivial⟩
    cases v <;> first | rfl | exact absurd rfl (h1 _)
end K06

/-! k06: what is due. -/
namespace K06
open PySem L2 Ko NumText
local macro_rules | `(tactic| walk_at "ko_ev_K06c") => `(tactic| simp only [YesS.fin, semD, den, mkE, mkT, mkX, mkS, YesS.seq, YesS.nil, YesS.ret, YesS.ifS, YesS.asg, y_c, y_v, y_f2, y_f1, y_fA, y_nil, y_cons, y_tup, y_lst, y_lstM, y_dic0, y_tF, y_bF, y_tAnd, y_tOr, y_tNot, y_not, y_and, y_or, y_if, y_call, y_kw, y_chain, y_slc, y_pN, y_pS, y_isi, y_ms, y_src, y_rng1, y_comp, y_yes, s_exp, s_par2, s_sub, s_for, y_mcall, y_new, y_dget, y_dpop, y_dicN, y_dicC, y_lstC, y_srt, y_srtM, y_app', s_putD, s_att, s_del, ops_call, ops_ar, Yes.ok, nu_isascii, nu_isprintable, nu_isalpha, nu_islower, nu_isdigit, nu_join, nu_count, nu_startswith, nu_endswith, nu_zfill, nu_stripC])
local macro_rules | `(tactic| walk_at "ko_ar_K06c") => `(tactic| simp only [ex_some, ex_ite, bin_add, bin_sub, bin_mul, bin_div, bin_mod, bin_pow, add_ii, sub_ii, mul_ii, div_ii, mod_ii, pow_ii, neg_i, cmp_eq, cmp_ne, cmp_lt, cmp_le, cmp_gt, cmp_ge, cmp_is, cmp_isn, cmp_in, cmp_nin, lt_ii, le_ii, gt_ii, ge_ii, eq_ii, ne_ii, tru_b, tru_i, as_b, int_i, abs_i, put_nm, put_tup, put_lst])
local macro_rules | `(tactic| walk_at "ko_li_K06c") => `(tactic| simp only [List.getElem?_cons_zero, List.getElem?_cons_succ, List.set_cons_succ, List.set_cons_zero, putl_nil, putl_cons, put_nm, put_tup, put_lst, Option.bind_some])
local macro_rules | `(tactic| walk_at "ko_bo_K06c") => `(tactic| simp only [Bool.not_true, Bool.not_false, if_true, if_false, Bool.false_eq_true, reduceIte, Option.isSome_none, Option.isSome_some])
/-- the law's own files at f, its count at g -/
structure Own (ah : AH) (f g : Nat) (L : List Ent) (c : Int) : Prop where
  ow : ah[f]? = some (.dct (dcE gO L))
  co : ah[g]? = some (.lst [.int c])
theorem Own.oth {ah ah' : AH} {f g : Nat} {L : List Ent} {c : Int} {S : List Nat} (K : Own ah f g L c) (h : Oth S ah ah') (h0 : f ∉ S) (h1 : g ∉ S) : Own ah' f g L c := ⟨h.at K.ow h0, h.at K.co h1⟩
/-- what a call does: the word and the thing that are told, the files, the count -/
inductive Stp (L : List Ent) (c : Int) : Nat → AV → AV → Str → AV → List Ent → Int → Prop
  | nam {w : Nat} {v t : AV} : w < 10 → nmB v = false → Stp L c w v t "name" v L c
  | txt {w : Nat} {z : Str} {t : AV} : (w = 0 ∨ w = 1) → nmB (.str z) = true → txB t = false → Stp L c w (.str z) t "text" t L c
  | wr {w : Nat} {z t : Str} : (w = 0 ∨ w = 1) → nmB (.str z) = true → txB (.str t) = true → Stp L c w (.str z) (.str t) "told" .non (putE L z (((atE L z).getD ("", 0)).1 ++ t) ((atE L z).getD ("", 0)).2) (c + 1)
  | non {w : Nat} {z : Str} {t : AV} : 2 ≤ w → w < 10 → nmB (.str z) = true → atE L z = none → Stp L c w (.str z) t "none" (.str z) L c
  | syn {w : Nat} {z : Str} {t : AV} {p : Str × Int} : (w = 2 ∨ w = 3) → nmB (.str z) = true → atE L z = some p → Stp L c w (.str z) t "told" .non (putE L z p.1 p.1.length) (c + 1)
  | drp {w : Nat} {z : Str} {t : AV} {p : Str × Int} : (w = 4 ∨ w = 5) → nmB (.str z) = true → atE L z = some p → Stp L c w (.str z) t "told" .non (dropE L z) (c + 1)
  | red {w : Nat} {z : Str} {t : AV} {p : Str × Int} : (w = 6 ∨ w = 7) → nmB (.str z) = true → atE L z = some p → Stp L c w (.str z) t "told" (.str p.1) L c
  | syd {w : Nat} {z : Str} {t : AV} {p : Str × Int} : (w = 8 ∨ w = 9) → nmB (.str z) = true → atE L z = some p → Stp L c w (.str z) t "told" (.int p.2) L c
theorem tx_str {v : AV} (h : txB v = true) : ∃ z, v = .str z := by
  cases v with
  | str z => exact ⟨z, rfl⟩
  | _ => cases h
theorem stp_ex (L : List Ent) (c : Int) {w : Nat} (hw : w < 10) (v t : AV) : ∃ u x L' c', Stp L c w v t u x L' c' := by
  cases q : nmB v with
  | false => exact ⟨_, _, _, _, .nam hw q⟩
  | true =>
    obtain ⟨z, rfl, _⟩ := nm_str q
    by_cases h2 : w < 2
    · cases qt : txB t with
      | false => exact ⟨_, _, _, _, .txt (by omega) q qt⟩
      | true =>
        obtain ⟨y, rfl⟩ := tx_str qt
        exact ⟨_, _, _, _, .wr (by omega) q qt⟩
    · cases qa : atE L z with
      | none => exact ⟨_, _, _, _, .non (by omega) hw q qa⟩
      | some p =>
        rcases (by omega : (w = 2 ∨ w = 3) ∨ (w = 4 ∨ w = 5) ∨ (w = 6 ∨ w = 7) ∨ (w = 8 ∨ w = 9)) with h | h | h | h
        · exact ⟨_, _, _, _, .syn h q qa⟩
        · exact ⟨_, _, _, _, .drp h q qa⟩
        · exact ⟨_, _, _, _, .red h q qa⟩
        · exact ⟨_, _, _, _, .syd h q qa⟩
theorem sub_refD {g : Str × Int → AV} {ah : AH} {n : Nat} {L : List Ent} {z : Str} {p : Str × Int} (h : ah[n]? = some (.dct (dcE g L))) (ha : atE L z = some p) : dsubA ah (.ref n) (.str z) = some (g p) := by
  unfold dsubA
  rw [as_refD h]
  show valA (dcE g L) (.inr z) = _
  rw [dc_val, ha]; rfl
theorem in2i {ah : AH} {w : Nat} {a b : Int} : inF ah (.int w) (.lst [.int a, .int b]) = some (.bl (decide ((w : Int) = a ∨ (w : Int) = b))) := by
  show some (AV.bl (inV (.int w) [.int a, .int b])) = _
  have e : inV (.int w) [.int a, .int b] = decide ((w : Int) = a ∨ (w : Int) = b) := by
    show ((a == (w : Int)) || ((b == (w : Int)) || false)) = _
    rw [Bool.or_false, Bool.decide_or]
    congr 1
    · rw [Bool.eq_iff_iff, beq_iff_eq, decide_eq_true_eq]; exact eq_comm
    · rw [Bool.eq_iff_iff, beq_iff_eq, decide_eq_true_eq]; exact eq_comm
  rw [e]
theorem int_b {ah : AH} {b : Bool} : biF .int ah [.bl b] = some (.int (if b = true then 1 else 0)) := rfl
theorem c_due {k f g w : Nat} {ah : AH} {L L' : List Ent} {c c' : Int} {v t x : AV} {u : Str} (O : Own ah f g L c) (hfg : f ≠ g) (s : Stp L c w v t u x L' c') (V : VOk ah v) (Vc : ∀ z, v = .str z → ∀ c ∈ Ls z, c < 1114112) (T : VOk ah t) (Tl : ∀ z, t = .str z → z.length ≤ 1000) (Tc : ∀ z, t = .str z → ∀ c ∈ Ls z, c < 1114112)
    (hl : L.length < 1000) (lp : ∀ e ∈ L, e.2.1.length ≤ 100000) : Yes (cl ds (k + 4) "_law_due" [.ref f, .ref g, .int w, v, t] ah) fun r ah' => r = .lst [.str u, x] ∧ Own ah' f g L' c' ∧ Oth [f, g] ah ah' := by
  rw [cl_eq fd_due]
  simp only [d__law_due, t__law_due]
  walk_at "ko_ev_K06c"
  simp only [show startA ["files", "counts", "way", "name", "text", "old"] [.ref f, .ref g, .int w, v, t] = [some (.ref f), some (.ref g), some (.int w), some v, some t, none] from rfl]
  walk_at "ko_li_K06c"
  refine ⟨rfl, (c_isname V Vc).imp fun r ah1 ⟨e1, e2⟩ => ?_⟩
  subst e1 e2
  rw [tru_b, ex_some]
  cases s with
  | nam hw h =>
    rw [h]
    walk_at "ko_bo_K06c"
    try walk_at "ko_ev_K06c"
    try walk_at "ko_li_K06c"
    exact ⟨by show 2 ≤ sizeLine; decide, by first | rfl | trivial, O, Oth.rfl'⟩
  | txt hw h ht =>
    rw [h]
    walk_at "ko_bo_K06c"
    try walk_at "ko_ev_K06c"
    try walk_at "ko_li_K06c"
    try walk_at "ko_ar_K06c"
    rw [decide_eq_true (by omega)]
    walk_at "ko_bo_K06c"
    refine ⟨rfl, (c_istext T (fun z e => Nat.le_trans (Tl z e) (by decide)) Tc).imp fun r ah1 ⟨e1, e2⟩ => ?_⟩
    subst e1 e2
    rw [ht, tru_b, ex_some]
    walk_at "ko_bo_K06c"
    try walk_at "ko_ev_K06c"
    try walk_at "ko_li_K06c"
    exact ⟨by show 2 ≤ sizeLine; decide, by first | rfl | trivial, O, Oth.rfl'⟩
  | non h2 hw h ha =>
    rw [h]
    walk_at "ko_bo_K06c"
    try walk_at "ko_ev_K06c"
    try walk_at "ko_li_K06c"
    try walk_at "ko_ar_K06c"
    rw [decide_eq_false (by omega)]
    walk_at "ko_bo_K06c"
    try walk_at "ko_ev_K06c"
    try walk_at "ko_li_K06c"
    try walk_at "ko_ar_K06c"
    rw [decide_eq_true (by omega)]
    walk_at "ko_bo_K06c"
    refine ⟨_, dni_refD O.ow, ?_⟩
    rw [ha, as_b, ex_some]
    walk_at "ko_bo_K06c"
    try walk_at "ko_ev_K06c"
    try walk_at "ko_li_K06c"
    exact ⟨by show 2 ≤ sizeLine; decide, by first | rfl | trivial, O, Oth.rfl'⟩
  | wr hw h ht =>
    rename_i z y _
    rw [h]
    walk_at "ko_bo_K06c"
    try walk_at "ko_ev_K06c"
    try walk_at "ko_li_K06c"
    try walk_at "ko_ar_K06c"
    rw [decide_eq_true (by omega)]
    walk_at "ko_bo_K06c"
    refine ⟨rfl, (c_istext T (fun z e => Nat.le_trans (Tl z e) (by decide)) Tc).imp fun r ah1 ⟨e1, e2⟩ => ?_⟩
    subst e1 e2
    rw [ht, tru_b, ex_some]
    walk_at "ko_bo_K06c"
    try walk_at "ko_ev_K06c"
    try walk_at "ko_li_K06c"
    try walk_at "ko_ar_K06c"
    rw [decide_eq_false (by omega)]
    walk_at "ko_bo_K06c"
    try walk_at "ko_ev_K06c"
    try walk_at "ko_li_K06c"
    try walk_at "ko_ar_K06c"
    rw [decide_eq_true (by omega)]
    walk_at "ko_bo_K06c"
    try walk_at "ko_ev_K06c"
    try walk_at "ko_li_K06c"
    obtain ⟨o, om, ho⟩ : ∃ o om, (atE L z).getD ("", 0) = (o, om) := ⟨_, _, rfl⟩
    have lo : o.length ≤ 100000 := by
      cases q : atE L z with
      | none => rw [q] at ho; cases ho; decide
      | some p => rw [q] at ho; cases ho; exact lp _ (at_mem q)
    have g1 : ((atE L z).map gO).getD (.lst [.str "", .int 0]) = .lst [.str o, .int om] := by
      cases q : atE L z with
      | none => rw [q] at ho; cases ho; rfl
      | some p => rw [q] at ho; cases ho; rfl
    rw [ho]
    refine ⟨by rw [as_refD O.ow]; rfl, by show 2 ≤ sizeLine; decide, _, get_refD O.ow, ?_⟩
    rw [g1]
    have ly := Tl y rfl
    refine ⟨.str o, rfl, .str (o ++ y), by rw [add_ss, if_pos (by rw [sz]; omega)], .int om, rfl, by show 2 ≤ sizeLine; decide, _, put_refD O.ow (by rw [dct_len]; exact hl), ?_⟩
    rw [dc_put (g := gO) (t := o ++ y) (m := om) rfl]
    have hfl := (List.getElem?_eq_some_iff.mp O.ow).1
    have O2 := Oth.set (ah := ah1) (n := f) (o := .dct (dcE gO (putE L z (o ++ y) om)))
    have hf2 := List.getElem?_set_self (a := AO.dct (dcE gO (putE L z (o ++ y) om))) hfl
    have hg2 := O2.at O.co (by simpa using Ne.symm hfg)
    generalize List.set ah1 f (.dct (dcE gO (putE L z (o ++ y) om))) = ah2 at O2 hf2 hg2 ⊢
    refine ⟨by show 2 ≤ sizeLine; decide, ?_⟩
    try rw [cmp_in]
    rw [in2i, ex_some, as_b, ex_some, decide_eq_false (by omega)]
    walk_at "ko_bo_K06c"
    rw [YesS.nil]
    try walk_at "ko_li_K06c"
    refine ⟨by show 2 ≤ sizeLine; decide, ?_⟩
    try rw [cmp_in]
    rw [in2i, ex_some, as_b, ex_some, decide_eq_false (by omega)]
    walk_at "ko_bo_K06c"
    rw [YesS.nil]
    try walk_at "ko_li_K06c"
    rw [ix_ref hg2]
    refine ⟨.int c, rfl, ?_⟩
    try walk_at "ko_ar_K06c"
    rw [int_b, decide_eq_true (by omega), ex_some]
    try walk_at "ko_ar_K06c"
    walk_at "ko_bo_K06c"
    refine ⟨ah2.set g (.lst [.int (c + 1)]), by rw [put_ref hg2]; rfl, ?_⟩
    have hgl := (List.getElem?_eq_some_iff.mp hg2).1
    have O3 := Oth.set (ah := ah2) (n := g) (o := .lst [.int (c + 1)])
    try walk_at "ko_ev_K06c"
    exact ⟨by show 2 ≤ sizeLine; decide, by first | rfl | trivial, ⟨O3.at hf2 (by simpa using hfg), List.getElem?_set_self hgl⟩, (O2.mono (by simp)).trans (O3.mono (by simp))⟩
  | syn hw h ha =>
    rename_i z p _
    rw [h]
    walk_at "ko_bo_K06c"
    try walk_at "ko_ev_K06c"
    try walk_at "ko_li_K06c"
    try walk_at "ko_ar_K06c"
    rw [decide_eq_false (by omega)]
    walk_at "ko_bo_K06c"
    try walk_at "ko_ev_K06c"
    try walk_at "ko_li_K06c"
    try walk_at "ko_ar_K06c"
    rw [decide_eq_true (by omega)]
    walk_at "ko_bo_K06c"
    refine ⟨_, dni_refD O.ow, ?_⟩
    rw [ha, as_b, ex_some]
    walk_at "ko_bo_K06c"
    try walk_at "ko_ev_K06c"
    try walk_at "ko_li_K06c"
    try walk_at "ko_ar_K06c"
    rw [decide_eq_false (by omega)]
    walk_at "ko_bo_K06c"
    try walk_at "ko_ev_K06c"
    try walk_at "ko_li_K06c"
    try walk_at "ko_ar_K06c"
    refine ⟨by show 2 ≤ sizeLine; decide, ?_⟩
    try rw [cmp_in]
    rw [in2i, ex_some, as_b, ex_some, decide_eq_true (by omega)]
    walk_at "ko_bo_K06c"
    try walk_at "ko_ev_K06c"
    try walk_at "ko_li_K06c"
    have lp' := lp _ (at_mem ha)
    rw [sub_refD O.ow ha, ex_some]
    refine ⟨.str p.1, rfl, _, rfl, .str p.1, rfl, .int p.1.length, by rw [len_s, if_pos (by rw [sz]; exact Nat.le_trans lp' (by decide))], by show 2 ≤ sizeLine; decide, _, put_refD O.ow (by rw [dct_len]; exact hl), ?_⟩
    rw [dc_put (g := gO) (t := p.1) (m := p.1.length) rfl]
    have hfl := (List.getElem?_eq_some_iff.mp O.ow).1
    have O2 := Oth.set (ah := ah1) (n := f) (o := .dct (dcE gO (putE L z p.1 p.1.length)))
    have hf2 := List.getElem?_set_self (a := AO.dct (dcE gO (putE L z p.1 p.1.length))) hfl
    have hg2 := O2.at O.co (by simpa using Ne.symm hfg)
    generalize List.set ah1 f (.dct (dcE gO (putE L z p.1 p.1.length))) = ah2 at O2 hf2 hg2 ⊢
    refine ⟨by show 2 ≤ sizeLine; decide, ?_⟩
    try rw [cmp_in]
    rw [in2i, ex_some, as_b, ex_some, decide_eq_false (by omega)]
    walk_at "ko_bo_K06c"
    rw [YesS.nil]
    try walk_at "ko_li_K06c"
    rw [ix_ref hg2]
    refine ⟨.int c, rfl, ?_⟩
    try walk_at "ko_ar_K06c"
    rw [int_b, decide_eq_true (by omega), ex_some]
    try walk_at "ko_ar_K06c"
    walk_at "ko_bo_K06c"
    refine ⟨ah2.set g (.lst [.int (c + 1)]), by rw [put_ref hg2]; rfl, ?_⟩
    have hgl := (List.getElem?_eq_some_iff.mp hg2).1
    have O3 := Oth.set (ah := ah2) (n := g) (o := .lst [.int (c + 1)])
    try walk_at "ko_ev_K06c"
    exact ⟨by show 2 ≤ sizeLine; decide, by first | rfl | trivial, ⟨O3.at hf2 (by simpa using hfg), List.getElem?_set_self hgl⟩, (O2.mono (by simp)).trans (O3.mono (by simp))⟩
  | drp hw h ha =>
    rename_i z p _
    rw [h]
    walk_at "ko_bo_K06c"
    try walk_at "ko_ev_K06c"
    try walk_at "ko_li_K06c"
    try walk_at "ko_ar_K06c"
    rw [decide_eq_false (by omega)]
    walk_at "ko_bo_K06c"
    try walk_at "ko_ev_K06c"
    try walk_at "ko_li_K06c"
    try walk_at "ko_ar_K06c"
    rw [decide_eq_true (by omega)]
    walk_at "ko_bo_K06c"
    refine ⟨_, dni_refD O.ow, ?_⟩
    rw [ha, as_b, ex_some]
    walk_at "ko_bo_K06c"
    try walk_at "ko_ev_K06c"
    try walk_at "ko_li_K06c"
    try walk_at "ko_ar_K06c"
    rw [decide_eq_false (by omega)]
    walk_at "ko_bo_K06c"
    try walk_at "ko_ev_K06c"
    try walk_at "ko_li_K06c"
    try walk_at "ko_ar_K06c"
    refine ⟨by show 2 ≤ sizeLine; decide, ?_⟩
    try rw [cmp_in]
    rw [in2i, ex_some, as_b, ex_some, decide_eq_false (by omega)]
    walk_at "ko_bo_K06c"
    rw [YesS.nil]
    try walk_at "ko_li_K06c"
    refine ⟨by show 2 ≤ sizeLine; decide, ?_⟩
    try rw [cmp_in]
    rw [in2i, ex_some, as_b, ex_some, decide_eq_true (by omega)]
    walk_at "ko_bo_K06c"
    try walk_at "ko_ev_K06c"
    try walk_at "ko_li_K06c"
    refine ⟨by rw [as_refD O.ow]; rfl, _, pop_refD (v := gO p) O.ow (by rw [dc_val, ha]; rfl), ?_⟩
    dsimp only
    rw [dc_drop]
    have hfl := (List.getElem?_eq_some_iff.mp O.ow).1
    have O2 := Oth.set (ah := ah1) (n := f) (o := .dct (dcE gO (dropE L z)))
    have hf2 := List.getElem?_set_self (a := AO.dct (dcE gO (dropE L z))) hfl
    have hg2 := O2.at O.co (by simpa using Ne.symm hfg)
    generalize List.set ah1 f (.dct (dcE gO (dropE L z))) = ah2 at O2 hf2 hg2 ⊢
    rw [ix_ref hg2]
    refine ⟨.int c, rfl, ?_⟩
    try walk_at "ko_ar_K06c"
    rw [int_b, decide_eq_true (by omega), ex_some]
    try walk_at "ko_ar_K06c"
    walk_at "ko_bo_K06c"
    refine ⟨ah2.set g (.lst [.int (c + 1)]), by rw [put_ref hg2]; rfl, ?_⟩
    have hgl := (List.getElem?_eq_some_iff.mp hg2).1
    have O3 := Oth.set (ah := ah2) (n := g) (o := .lst [.int (c + 1)])
    try walk_at "ko_ev_K06c"
    exact ⟨by show 2 ≤ sizeLine; decide, by first | rfl | trivial, ⟨O3.at hf2 (by simpa using hfg), List.getElem?_set_self hgl⟩, (O2.mono (by simp)).trans (O3.mono (by simp))⟩
  | red hw h ha =>
    rename_i z p _
    rw [h]
    walk_at "ko_bo_K06c"
    try walk_at "ko_ev_K06c"
    try walk_at "ko_li_K06c"
    try walk_at "ko_ar_K06c"
    rw [decide_eq_false (by omega)]
    walk_at "ko_bo_K06c"
    try walk_at "ko_ev_K06c"
    try walk_at "ko_li_K06c"
    try walk_at "ko_ar_K06c"
    rw [decide_eq_true (by omega)]
    walk_at "ko_bo_K06c"
    refine ⟨_, dni_refD O.ow, ?_⟩
    rw [ha, as_b, ex_some]
    walk_at "ko_bo_K06c"
    try walk_at "ko_ev_K06c"
    try walk_at "ko_li_K06c"
    try walk_at "ko_ar_K06c"
    rw [decide_eq_false (by omega)]
    walk_at "ko_bo_K06c"
    try walk_at "ko_ev_K06c"
    try walk_at "ko_li_K06c"
    try walk_at "ko_ar_K06c"
    refine ⟨by show 2 ≤ sizeLine; decide, ?_⟩
    try rw [cmp_in]
    rw [in2i, ex_some, as_b, ex_some, decide_eq_false (by omega)]
    walk_at "ko_bo_K06c"
    rw [YesS.nil]
    try walk_at "ko_li_K06c"
    refine ⟨by show 2 ≤ sizeLine; decide, ?_⟩
    try rw [cmp_in]
    rw [in2i, ex_some, as_b, ex_some, decide_eq_false (by omega)]
    walk_at "ko_bo_K06c"
    rw [YesS.nil]
    try walk_at "ko_li_K06c"
    have hf2 := O.ow
    have hg2 := O.co
    rw [ix_ref hg2]
    refine ⟨.int c, rfl, ?_⟩
    try walk_at "ko_ar_K06c"
    rw [int_b, decide_eq_false (by omega), ex_some]
    try walk_at "ko_ar_K06c"
    walk_at "ko_bo_K06c"
    rw [Int.add_zero]
    have hgl := (List.getElem?_eq_some_iff.mp hg2).1
    have O3 := Oth.set (ah := ah1) (n := g) (o := .lst [.int c])
    refine ⟨ah1.set g (.lst [.int c]), by rw [put_ref hg2]; rfl, ?_⟩
    rw [YesS.nil]
    try walk_at "ko_ev_K06c"
    try walk_at "ko_li_K06c"
    have hf3 := O3.at hf2 (by simpa using hfg)
    refine ⟨_, sub_refD hf3 ha, ?_⟩
    try walk_at "ko_ar_K06c"
    rw [int_b, decide_eq_false (by omega), ex_some]
    try walk_at "ko_ar_K06c"
    walk_at "ko_bo_K06c"
    exact ⟨.str p.1, rfl, by show 2 ≤ sizeLine; decide, by first | rfl | trivial, ⟨hf3, List.getElem?_set_self hgl⟩, O3.mono (by simp)⟩
  | syd hw h ha =>
    rename_i z p _
    rw [h]
    walk_at "ko_bo_K06c"
    try walk_at "ko_ev_K06c"
    try walk_at "ko_li_K06c"
    try walk_at "ko_ar_K06c"
    rw [decide_eq_false (by omega)]
    walk_at "ko_bo_K06c"
    try walk_at "ko_ev_K06c"
    try walk_at "ko_li_K06c"
    try walk_at "ko_ar_K06c"
    rw [decide_eq_true (by omega)]
    walk_at "ko_bo_K06c"
    refine ⟨_, dni_refD O.ow, ?_⟩
    rw [ha, as_b, ex_some]
    walk_at "ko_bo_K06c"
    try walk_at "ko_ev_K06c"
    try walk_at "ko_li_K06c"
    try walk_at "ko_ar_K06c"
    rw [decide_eq_false (by omega)]
    walk_at "ko_bo_K06c"
    try walk_at "ko_ev_K06c"
    try walk_at "ko_li_K06c"
    try walk_at "ko_ar_K06c"
    refine ⟨by show 2 ≤ sizeLine; decide, ?_⟩
    try rw [cmp_in]
    rw [in2i, ex_some, as_b, ex_some, decide_eq_false (by omega)]
    walk_at "ko_bo_K06c"
    rw [YesS.nil]
    try walk_at "ko_li_K06c"
    refine ⟨by show 2 ≤ sizeLine; decide, ?_⟩
    try rw [cmp_in]
    rw [in2i, ex_some, as_b, ex_some, decide_eq_false (by omega)]
    walk_at "ko_bo_K06c"
    rw [YesS.nil]
    try walk_at "ko_li_K06c"
    have hf2 := O.ow
    have hg2 := O.co
    rw [ix_ref hg2]
    refine ⟨.int c, rfl, ?_⟩
    try walk_at "ko_ar_K06c"
    rw [int_b, decide_eq_false (by omega), ex_some]
    try walk_at "ko_ar_K06c"
    walk_at "ko_bo_K06c"
    rw [Int.add_zero]
    have hgl := (List.getElem?_eq_some_iff.mp hg2).1
    have O3 := Oth.set (ah := ah1) (n := g) (o := .lst [.int c])
    refine ⟨ah1.set g (.lst [.int c]), by rw [put_ref hg2]; rfl, ?_⟩
    rw [YesS.nil]
    try walk_at "ko_ev_K06c"
    try walk_at "ko_li_K06c"
    have hf3 := O3.at hf2 (by simpa using hfg)
    refine ⟨_, sub_refD hf3 ha, ?_⟩
    try walk_at "ko_ar_K06c"
    rw [int_b, decide_eq_true (by omega), ex_some]
    try walk_at "ko_ar_K06c"
    walk_at "ko_bo_K06c"
    exact ⟨.int p.2, rfl, by show 2 ≤ sizeLine; decide, by first | rfl | trivial, ⟨hf3, List.getElem?_set_self hgl⟩, O3.mono (by simp)⟩
end K06

/-! k06: what is told. -/
namespace K06
open PySem L2 Ko NumText
local macro_rules | `(tactic| walk_at "ko_ev_K06d") => `(tactic| simp only [YesS.fin, semD, den, mkE, mkT, mkX, mkS, YesS.seq, YesS.nil, YesS.ret, YesS.ifS, YesS.asg, y_c, y_v, y_f2, y_f1, y_fA, y_nil, y_cons, y_tup, y_lst, y_lstM, y_dic0, y_tF, y_bF, y_tAnd, y_tOr, y_tNot, y_not, y_and, y_or, y_if, y_call, y_kw, y_chain, y_slc, y_pN, y_pS, y_isi, y_ms, y_src, y_rng1, y_comp, y_yes, s_exp, s_par2, s_sub, s_for, y_mcall, y_new, y_dget, y_dpop, y_dicN, y_dicC, y_lstC, y_srt, y_srtM, y_app', s_putD, s_att, s_del, ops_call, ops_ar, Yes.ok, nu_isascii, nu_isprintable, nu_isalpha, nu_islower, nu_isdigit, nu_join, nu_count, nu_startswith, nu_endswith, nu_zfill, nu_stripC])
local macro_rules | `(tactic| walk_at "ko_ar_K06d") => `(tactic| simp only [ex_some, ex_ite, bin_add, bin_sub, bin_mul, bin_div, bin_mod, bin_pow, add_ii, sub_ii, mul_ii, div_ii, mod_ii, pow_ii, neg_i, cmp_eq, cmp_ne, cmp_lt, cmp_le, cmp_gt, cmp_ge, cmp_is, cmp_isn, cmp_in, cmp_nin, lt_ii, le_ii, gt_ii, ge_ii, eq_ii, ne_ii, tru_b, tru_i, as_b, int_i, abs_i, put_nm, put_tup, put_lst])
local macro_rules | `(tactic| walk_at "ko_li_K06d") => `(tactic| simp only [List.getElem?_cons_zero, List.getElem?_cons_succ, List.set_cons_succ, List.set_cons_zero, putl_nil, putl_cons, put_nm, put_tup, put_lst, Option.bind_some])
local macro_rules | `(tactic| walk_at "ko_bo_K06d") => `(tactic| simp only [Bool.not_true, Bool.not_false, if_true, if_false, Bool.false_eq_true, reduceIte, Option.isSome_none, Option.isSome_some])
theorem fd_told : findD ds "_law_told" = some d__law_told := by rfl
def toldB : T := match t__law_told with | .cons (.sTry b _) _ => b | t => t
def toldH : List Hd := match t__law_told with | .cons (.sTry _ h) _ => h | _ => []
theorem told_eq {k : Nat} {d w v t : AV} {ah : AH} : cl ds (k + 2) "_law_told" [d, w, v, t] ah = (seqF (tryF ((den (ops ds (k + 1)) toldB).x) toldH) nilF [some d, some w, some v, some t, none] ah).fin := by
  rw [cl_eq fd_told]; rfl
theorem told_0 {k d : Nat} {v t : AV} {x : EX} {ah : AH} {L : List Ent} {c : Int} (K : Dsk ah d L c) (h : cl ds (k + 1) "Disk.write" [.ref d, v, t] ah = .ex x ah) : (den (ops ds (k + 1)) toldB).x [some (.ref d), some (.int (0 : Nat)), some v, some t, none] ah = .ex x [some (.ref d), some (.int (0 : Nat)), some v, some t, none] ah := by
  simp only [toldB, t__law_told, den, mkX, mkT, mkE, cmp_eq, cmp_lt]
  exact sx_if (ah1 := ah) ⟨rfl, rfl⟩ (sx_ret (lst2x (mx (v := .ref d) (f := "Disk.write") (xs := [v, t]) (call := cl ds (k + 1)) (ar := arD ds) rfl (K.met rfl) rfl dk.r_Disk_write.symm h)))
theorem told_1 {k d : Nat} {v t : AV} {x : EX} {ah : AH} {L : List Ent} {c : Int} (K : Dsk ah d L c) (h : cl ds (k + 1) "Disk.write" [.ref d, v, t] ah = .ex x ah) : (den (ops ds (k + 1)) toldB).x [some (.ref d), some (.int (1 : Nat)), some v, some t, none] ah = .ex x [some (.ref d), some (.int (1 : Nat)), some v, some t, none] ah := by
  simp only [toldB, t__law_told, den, mkX, mkT, mkE, cmp_eq, cmp_lt]
  refine Eq.trans (sx_skip (ah1 := ah) (by exact ⟨rfl, rfl⟩)) ?_
  exact sx_if (ah1 := ah) ⟨rfl, rfl⟩ (sx_ret (lst2x (mx (v := .ref d) (f := "Disk.write") (xs := [v, t]) (call := cl ds (k + 1)) (ar := arD ds) rfl (K.met rfl) rfl dk.r_Disk_write.symm h)))
theorem told_2 {k d : Nat} {v t : AV} {x : EX} {ah : AH} {L : List Ent} {c : Int} (K : Dsk ah d L c) (h : cl ds (k + 1) "Disk.sync" [.ref d, v] ah = .ex x ah) : (den (ops ds (k + 1)) toldB).x [some (.ref d), some (.int (2 : Nat)), some v, some t, none] ah = .ex x [some (.ref d), some (.int (2 : Nat)), some v, some t, none] ah := by
  simp only [toldB, t__law_told, den, mkX, mkT, mkE, cmp_eq, cmp_lt]
  refine Eq.trans (sx_skip (ah1 := ah) (by exact ⟨rfl, rfl⟩)) ?_
  refine Eq.trans (sx_skip (ah1 := ah) (by exact ⟨rfl, rfl⟩)) ?_
  exact sx_if (ah1 := ah) ⟨rfl, rfl⟩ (sx_ret (lst2x (ifx (c := true) rfl (mx (v := .ref d) (f := "Disk.sync") (xs := [v]) (call := cl ds (k + 1)) (ar := arD ds) rfl (K.met rfl) rfl dk.r_Disk_sync.symm h))))
theorem told_3 {k d : Nat} {v t : AV} {x : EX} {ah : AH} {L : List Ent} {c : Int} (K : Dsk ah d L c) (h : cl ds (k + 1) "Disk.sync" [.ref d, v] ah = .ex x ah) : (den (ops ds (k + 1)) toldB).x [some (.ref d), some (.int (3 : Nat)), some v, some t, none] ah = .ex x [some (.ref d), some (.int (3 : Nat)), some v, some t, none] ah := by
  simp only [toldB, t__law_told, den, mkX, mkT, mkE, cmp_eq, cmp_lt]
  refine Eq.trans (sx_skip (ah1 := ah) (by exact ⟨rfl, rfl⟩)) ?_
  refine Eq.trans (sx_skip (ah1 := ah) (by exact ⟨rfl, rfl⟩)) ?_
  exact sx_if (ah1 := ah) ⟨rfl, rfl⟩ (sx_ret (lst2x (ifx (c := false) rfl (mx (v := .ref d) (f := "Disk.sync") (xs := [v]) (call := cl ds (k + 1)) (ar := arD ds) rfl (K.met rfl) rfl dk.r_Disk_sync.symm h))))
theorem told_4 {k d : Nat} {v t : AV} {x : EX} {ah : AH} {L : List Ent} {c : Int} (K : Dsk ah d L c) (h : cl ds (k + 1) "Disk.drop" [.ref d, v] ah = .ex x ah) : (den (ops ds (k + 1)) toldB).x [some (.ref d), some (.int (4 : Nat)), some v, some t, none] ah = .ex x [some (.ref d), some (.int (4 : Nat)), some v, some t, none] ah := by
  simp only [toldB, t__law_told, den, mkX, mkT, mkE, cmp_eq, cmp_lt]
  refine Eq.trans (sx_skip (ah1 := ah) (by exact ⟨rfl, rfl⟩)) ?_
  refine Eq.trans (sx_skip (ah1 := ah) (by exact ⟨rfl, rfl⟩)) ?_
  refine Eq.trans (sx_skip (ah1 := ah) (by exact ⟨rfl, rfl⟩)) ?_
  exact sx_if (ah1 := ah) ⟨rfl, rfl⟩ (sx_ret (lst2x (ifx (c := true) rfl (mx (v := .ref d) (f := "Disk.drop") (xs := [v]) (call := cl ds (k + 1)) (ar := arD ds) rfl (K.met rfl) rfl dk.r_Disk_drop.symm h))))
theorem told_5 {k d : Nat} {v t : AV} {x : EX} {ah : AH} {L : List Ent} {c : Int} (K : Dsk ah d L c) (h : cl ds (k + 1) "Disk.drop" [.ref d, v] ah = .ex x ah) : (den (ops ds (k + 1)) toldB).x [some (.ref d), some (.int (5 : Nat)), some v, some t, none] ah = .ex x [some (.ref d), some (.int (5 : Nat)), some v, some t, none] ah := by
  simp only [toldB, t__law_told, den, mkX, mkT, mkE, cmp_eq, cmp_lt]
  refine Eq.trans (sx_skip (ah1 := ah) (by exact ⟨rfl, rfl⟩)) ?_
  refine Eq.trans (sx_skip (ah1 := ah) (by exact ⟨rfl, rfl⟩)) ?_
  refine Eq.trans (sx_skip (ah1 := ah) (by exact ⟨rfl, rfl⟩)) ?_
  exact sx_if (ah1 := ah) ⟨rfl, rfl⟩ (sx_ret (lst2x (ifx (c := false) rfl (mx (v := .ref d) (f := "Disk.drop") (xs := [v]) (call := cl ds (k + 1)) (ar := arD ds) rfl (K.met rfl) rfl dk.r_Disk_drop.symm h))))
theorem told_6 {k d : Nat} {v t : AV} {x : EX} {ah : AH} {L : List Ent} {c : Int} (K : Dsk ah d L c) (h : cl ds (k + 1) "Disk.read" [.ref d, v] ah = .ex x ah) : (den (ops ds (k + 1)) toldB).x [some (.ref d), some (.int (6 : Nat)), some v, some t, none] ah = .ex x [some (.ref d), some (.int (6 : Nat)), some v, some t, none] ah := by
  simp only [toldB, t__law_told, den, mkX, mkT, mkE, cmp_eq, cmp_lt]
  refine Eq.trans (sx_skip (ah1 := ah) (by exact ⟨rfl, rfl⟩)) ?_
  refine Eq.trans (sx_skip (ah1 := ah) (by exact ⟨rfl, rfl⟩)) ?_
  refine Eq.trans (sx_skip (ah1 := ah) (by exact ⟨rfl, rfl⟩)) ?_
  refine Eq.trans (sx_skip (ah1 := ah) (by exact ⟨rfl, rfl⟩)) ?_
  exact sx_if (ah1 := ah) ⟨rfl, rfl⟩ (sx_ret (lst2x (ifx (c := true) rfl (mx (v := .ref d) (f := "Disk.read") (xs := [v]) (call := cl ds (k + 1)) (ar := arD ds) rfl (K.met rfl) rfl dk.r_Disk_read.symm h))))
theorem told_7 {k d : Nat} {v t : AV} {x : EX} {ah : AH} {L : List Ent} {c : Int} (K : Dsk ah d L c) (h : cl ds (k + 1) "Disk.read" [.ref d, v] ah = .ex x ah) : (den (ops ds (k + 1)) toldB).x [some (.ref d), some (.int (7 : Nat)), some v, some t, none] ah = .ex x [some (.ref d), some (.int (7 : Nat)), some v, some t, none] ah := by
  simp only [toldB, t__law_told, den, mkX, mkT, mkE, cmp_eq, cmp_lt]
  refine Eq.trans (sx_skip (ah1 := ah) (by exact ⟨rfl, rfl⟩)) ?_
  refine Eq.trans (sx_skip (ah1 := ah) (by exact ⟨rfl, rfl⟩)) ?_
  refine Eq.trans (sx_skip (ah1 := ah) (by exact ⟨rfl, rfl⟩)) ?_
  refine Eq.trans (sx_skip (ah1 := ah) (by exact ⟨rfl, rfl⟩)) ?_
  exact sx_if (ah1 := ah) ⟨rfl, rfl⟩ (sx_ret (lst2x (ifx (c := false) rfl (mx (v := .ref d) (f := "Disk.read") (xs := [v]) (call := cl ds (k + 1)) (ar := arD ds) rfl (K.met rfl) rfl dk.r_Disk_read.symm h))))
theorem told_8 {k d : Nat} {v t : AV} {x : EX} {ah : AH} {L : List Ent} {c : Int} (K : Dsk ah d L c) (h : cl ds (k + 1) "Disk.synced" [.ref d, v] ah = .ex x ah) : (den (ops ds (k + 1)) toldB).x [some (.ref d), some (.int (8 : Nat)), some v, some t, none] ah = .ex x [some (.ref d), some (.int (8 : Nat)), some v, some t, none] ah := by
  simp only [toldB, t__law_told, den, mkX, mkT, mkE, cmp_eq, cmp_lt]
  refine Eq.trans (sx_skip (ah1 := ah) (by exact ⟨rfl, rfl⟩)) ?_
  refine Eq.trans (sx_skip (ah1 := ah) (by exact ⟨rfl, rfl⟩)) ?_
  refine Eq.trans (sx_skip (ah1 := ah) (by exact ⟨rfl, rfl⟩)) ?_
  refine Eq.trans (sx_skip (ah1 := ah) (by exact ⟨rfl, rfl⟩)) ?_
  refine Eq.trans (sx_skip (ah1 := ah) (by exact ⟨rfl, rfl⟩)) ?_
  exact sx_ret (lst2x (ifx (c := true) rfl (mx (v := .ref d) (f := "Disk.synced") (xs := [v]) (call := cl ds (k + 1)) (ar := arD ds) rfl (K.met rfl) rfl dk.r_Disk_synced.symm h)))
theorem told_9 {k d : Nat} {v t : AV} {x : EX} {ah : AH} {L : List Ent} {c : Int} (K : Dsk ah d L c) (h : cl ds (k + 1) "Disk.synced" [.ref d, v] ah = .ex x ah) : (den (ops ds (k + 1)) toldB).x [some (.ref d), some (.int (9 : Nat)), some v, some t, none] ah = .ex x [some (.ref d), some (.int (9 : Nat)), some v, some t, none] ah := by
  simp only [toldB, t__law_told, den, mkX, mkT, mkE, cmp_eq, cmp_lt]
  refine Eq.trans (sx_skip (ah1 := ah) (by exact ⟨rfl, rfl⟩)) ?_
  refine Eq.trans (sx_skip (ah1 := ah) (by exact ⟨rfl, rfl⟩)) ?_
  refine Eq.trans (sx_skip (ah1 := ah) (by exact ⟨rfl, rfl⟩)) ?_
  refine Eq.trans (sx_skip (ah1 := ah) (by exact ⟨rfl, rfl⟩)) ?_
  refine Eq.trans (sx_skip (ah1 := ah) (by exact ⟨rfl, rfl⟩)) ?_
  exact sx_ret (lst2x (ifx (c := false) rfl (mx (v := .ref d) (f := "Disk.synced") (xs := [v]) (call := cl ds (k + 1)) (ar := arD ds) rfl (K.met rfl) rfl dk.r_Disk_synced.symm h)))
theorem told_N {k d w : Nat} {v t : AV} {ah : AH} (h : (den (ops ds (k + 1)) toldB).x [some (.ref d), some (.int w), some v, some t, none] ah = .ex (xN v) [some (.ref d), some (.int w), some v, some t, none] ah) : cl ds (k + 2) "_law_told" [.ref d, .int w, v, t] ah = .ok (.lst [.str "name", v]) ah := by
  rw [told_eq]
  show SR.fin (seqF (tryF _ toldH) nilF _ ah) = _
  unfold seqF
  rw [sx_try h]
  rfl
theorem told_T {k d w : Nat} {v t : AV} {ah : AH} (h : (den (ops ds (k + 1)) toldB).x [some (.ref d), some (.int w), some v, some t, none] ah = .ex (xT t) [some (.ref d), some (.int w), some v, some t, none] ah) : cl ds (k + 2) "_law_told" [.ref d, .int w, v, t] ah = .ok (.lst [.str "text", t]) ah := by
  rw [told_eq]
  show SR.fin (seqF (tryF _ toldH) nilF _ ah) = _
  unfold seqF
  rw [sx_try h]
  rfl
theorem told_F {k d w : Nat} {v t : AV} {ah : AH} (h : (den (ops ds (k + 1)) toldB).x [some (.ref d), some (.int w), some v, some t, none] ah = .ex (xF v) [some (.ref d), some (.int w), some v, some t, none] ah) : cl ds (k + 2) "_law_told" [.ref d, .int w, v, t] ah = .ok (.lst [.str "none", v]) ah := by
  rw [told_eq]
  show SR.fin (seqF (tryF _ toldH) nilF _ ah) = _
  unfold seqF
  rw [sx_try h]
  rfl
end K06

/-! k06: what is told, well. -/
namespace K06
open PySem L2 Ko NumText
local macro_rules | `(tactic| walk_at "ko_ev_K06e") => `(tactic| simp only [YesS.fin, semD, den, mkE, mkT, mkX, mkS, YesS.seq, YesS.nil, YesS.ret, YesS.ifS, YesS.asg, y_c, y_v, y_f2, y_f1, y_fA, y_nil, y_cons, y_tup, y_lst, y_lstM, y_dic0, y_tF, y_bF, y_tAnd, y_tOr, y_tNot, y_not, y_and, y_or, y_if, y_call, y_kw, y_chain, y_slc, y_pN, y_pS, y_isi, y_ms, y_src, y_rng1, y_comp, y_yes, s_exp, s_par2, s_sub, s_for, y_mcall, y_new, y_dget, y_dpop, y_dicN, y_dicC, y_lstC, y_srt, y_srtM, y_app', s_putD, s_att, s_del, ops_call, ops_ar, Yes.ok, nu_isascii, nu_isprintable, nu_isalpha, nu_islower, nu_isdigit, nu_join, nu_count, nu_startswith, nu_endswith, nu_zfill, nu_stripC])
local macro_rules | `(tactic| walk_at "ko_ar_K06e") => `(tactic| simp only [ex_some, ex_ite, bin_add, bin_sub, bin_mul, bin_div, bin_mod, bin_pow, add_ii, sub_ii, mul_ii, div_ii, mod_ii, pow_ii, neg_i, cmp_eq, cmp_ne, cmp_lt, cmp_le, cmp_gt, cmp_ge, cmp_is, cmp_isn, cmp_in, cmp_nin, lt_ii, le_ii, gt_ii, ge_ii, eq_ii, ne_ii, tru_b, tru_i, as_b, int_i, abs_i, put_nm, put_tup, put_lst])
local macro_rules | `(tactic| walk_at "ko_li_K06e") => `(tactic| simp only [List.getElem?_cons_zero, List.getElem?_cons_succ, List.set_cons_succ, List.set_cons_zero, putl_nil, putl_cons, put_nm, put_tup, put_lst, Option.bind_some])
local macro_rules | `(tactic| walk_at "ko_bo_K06e") => `(tactic| simp only [Bool.not_true, Bool.not_false, if_true, if_false, Bool.false_eq_true, reduceIte, Option.isSome_none, Option.isSome_some])
theorem tok_0 {k d : Nat} {v t : AV} {ah : AH} {L : List Ent} {c : Int} {P : AV → AH → Prop} (K : Dsk ah d L c) (h : Yes (cl ds (k + 1) "Disk.write" [.ref d, v, t] ah) fun r ah' => P (.lst [.str "told", r]) ah') : Yes (cl ds (k + 2) "_law_told" [.ref d, .int (0 : Nat), v, t] ah) P := by
  rw [told_eq, YesS.fin, YesS.seq]
  refine sx_tryOk ?_
  unfold toldB t__law_told
  walk_at "ko_ev_K06e"
  try walk_at "ko_li_K06e"
  try walk_at "ko_ar_K06e"
  rw [if_pos (by decide)]
  try walk_at "ko_ev_K06e"
  try walk_at "ko_li_K06e"
  exact ⟨_, K.met rfl, dk.r_Disk_write.symm, h.imp fun v ah1 q => ⟨by show 2 ≤ sizeLine; decide, q⟩⟩
theorem tok_1 {k d : Nat} {v t : AV} {ah : AH} {L : List Ent} {c : Int} {P : AV → AH → Prop} (K : Dsk ah d L c) (h : Yes (cl ds (k + 1) "Disk.write" [.ref d, v, t] ah) fun r ah' => P (.lst [.str "told", r]) ah') : Yes (cl ds (k + 2) "_law_told" [.ref d, .int (1 : Nat), v, t] ah) P := by
  rw [told_eq, YesS.fin, YesS.seq]
  refine sx_tryOk ?_
  unfold toldB t__law_told
  walk_at "ko_ev_K06e"
  try walk_at "ko_li_K06e"
  try walk_at "ko_ar_K06e"
  rw [if_neg (by decide)]
  try walk_at "ko_ev_K06e"
  try walk_at "ko_li_K06e"
  try walk_at "ko_ar_K06e"
  rw [if_pos (by decide)]
  try walk_at "ko_ev_K06e"
  try walk_at "ko_li_K06e"
  exact ⟨_, K.met rfl, ⟨rfl, rfl⟩, dk.r_Disk_write.symm, h.imp fun v ah1 q => ⟨by show 2 ≤ sizeLine; decide, q⟩⟩
theorem tok_2 {k d : Nat} {v t : AV} {ah : AH} {L : List Ent} {c : Int} {P : AV → AH → Prop} (K : Dsk ah d L c) (h : Yes (cl ds (k + 1) "Disk.sync" [.ref d, v] ah) fun r ah' => P (.lst [.str "told", r]) ah') : Yes (cl ds (k + 2) "_law_told" [.ref d, .int (2 : Nat), v, t] ah) P := by
  rw [told_eq, YesS.fin, YesS.seq]
  refine sx_tryOk ?_
  unfold toldB t__law_told
  walk_at "ko_ev_K06e"
  try walk_at "ko_li_K06e"
  try walk_at "ko_ar_K06e"
  rw [if_neg (by decide)]
  try walk_at "ko_ev_K06e"
  try walk_at "ko_li_K06e"
  try walk_at "ko_ar_K06e"
  rw [if_neg (by decide)]
  try walk_at "ko_ev_K06e"
  try walk_at "ko_li_K06e"
  try walk_at "ko_ar_K06e"
  rw [if_pos (by decide)]
  try walk_at "ko_ev_K06e"
  try walk_at "ko_li_K06e"
  try walk_at "ko_ar_K06e"
  rw [if_pos (by decide)]
  try walk_at "ko_ev_K06e"
  try walk_at "ko_li_K06e"
  exact ⟨_, K.met rfl, dk.r_Disk_sync.symm, h.imp fun v ah1 q => ⟨by show 2 ≤ sizeLine; decide, q⟩⟩
theorem tok_3 {k d : Nat} {v t : AV} {ah : AH} {L : List Ent} {c : Int} {P : AV → AH → Prop} (K : Dsk ah d L c) (h : Yes (cl ds (k + 1) "Disk.sync" [.ref d, v] ah) fun r ah' => P (.lst [.str "told", r]) ah') : Yes (cl ds (k + 2) "_law_told" [.ref d, .int (3 : Nat), v, t] ah) P := by
  rw [told_eq, YesS.fin, YesS.seq]
  refine sx_tryOk ?_
  unfold toldB t__law_told
  walk_at "ko_ev_K06e"
  try walk_at "ko_li_K06e"
  try walk_at "ko_ar_K06e"
  rw [if_neg (by decide)]
  try walk_at "ko_ev_K06e"
  try walk_at "ko_li_K06e"
  try walk_at "ko_ar_K06e"
  rw [if_neg (by decide)]
  try walk_at "ko_ev_K06e"
  try walk_at "ko_li_K06e"
  try walk_at "ko_ar_K06e"
  rw [if_pos (by decide)]
  try walk_at "ko_ev_K06e"
  try walk_at "ko_li_K06e"
  try walk_at "ko_ar_K06e"
  rw [if_neg (by decide)]
  try walk_at "ko_ev_K06e"
  try walk_at "ko_li_K06e"
  exact ⟨_, K.met rfl, ⟨rfl, rfl⟩, dk.r_Disk_sync.symm, h.imp fun v ah1 q => ⟨by show 2 ≤ sizeLine; decide, q⟩⟩
theorem tok_4 {k d : Nat} {v t : AV} {ah : AH} {L : List Ent} {c : Int} {P : AV → AH → Prop} (K : Dsk ah d L c) (h : Yes (cl ds (k + 1) "Disk.drop" [.ref d, v] ah) fun r ah' => P (.lst [.str "told", r]) ah') : Yes (cl ds (k + 2) "_law_told" [.ref d, .int (4 : Nat), v, t] ah) P := by
  rw [told_eq, YesS.fin, YesS.seq]
  refine sx_tryOk ?_
  unfold toldB t__law_told
  walk_at "ko_ev_K06e"
  try walk_at "ko_li_K06e"
  try walk_at "ko_ar_K06e"
  rw [if_neg (by decide)]
  try walk_at "ko_ev_K06e"
  try walk_at "ko_li_K06e"
  try walk_at "ko_ar_K06e"
  rw [if_neg (by decide)]
  try walk_at "ko_ev_K06e"
  try walk_at "ko_li_K06e"
  try walk_at "ko_ar_K06e"
  rw [if_neg (by decide)]
  try walk_at "ko_ev_K06e"
  try walk_at "ko_li_K06e"
  try walk_at "ko_ar_K06e"
  rw [if_pos (by decide)]
  try walk_at "ko_ev_K06e"
  try walk_at "ko_li_K06e"
  try walk_at "ko_ar_K06e"
  rw [if_pos (by decide)]
  try walk_at "ko_ev_K06e"
  try walk_at "ko_li_K06e"
  exact ⟨_, K.met rfl, dk.r_Disk_drop.symm, h.imp fun v ah1 q => ⟨by show 2 ≤ sizeLine; decide, q⟩⟩
theorem tok_5 {k d : Nat} {v t : AV} {ah : AH} {L : List Ent} {c : Int} {P : AV → AH → Prop} (K : Dsk ah d L c) (h : Yes (cl ds (k + 1) "Disk.drop" [.ref d, v] ah) fun r ah' => P (.lst [.str "told", r]) ah') : Yes (cl ds (k + 2) "_law_told" [.ref d, .int (5 : Nat), v, t] ah) P := by
  rw [told_eq, YesS.fin, YesS.seq]
  refine sx_tryOk ?_
  unfold toldB t__law_told
  walk_at "ko_ev_K06e"
  try walk_at "ko_li_K06e"
  try walk_at "ko_ar_K06e"
  rw [if_neg (by decide)]
  try walk_at "ko_ev_K06e"
  try walk_at "ko_li_K06e"
  try walk_at "ko_ar_K06e"
  rw [if_neg (by decide)]
  try walk_at "ko_ev_K06e"
  try walk_at "ko_li_K06e"
  try walk_at "ko_ar_K06e"
  rw [if_neg (by decide)]
  try walk_at "ko_ev_K06e"
  try walk_at "ko_li_K06e"
  try walk_at "ko_ar_K06e"
  rw [if_pos (by decide)]
  try walk_at "ko_ev_K06e"
  try walk_at "ko_li_K06e"
  try walk_at "ko_ar_K06e"
  rw [if_neg (by decide)]
  try walk_at "ko_ev_K06e"
  try walk_at "ko_li_K06e"
  exact ⟨_, K.met rfl, ⟨rfl, rfl⟩, dk.r_Disk_drop.symm, h.imp fun v ah1 q => ⟨by show 2 ≤ sizeLine; decide, q⟩⟩
theorem tok_6 {k d : Nat} {v t : AV} {ah : AH} {L : List Ent} {c : Int} {P : AV → AH → Prop} (K : Dsk ah d L c) (h : Yes (cl ds (k + 1) "Disk.read" [.ref d, v] ah) fun r ah' => P (.lst [.str "told", r]) ah') : Yes (cl ds (k + 2) "_law_told" [.ref d, .int (6 : Nat), v, t] ah) P := by
  rw [told_eq, YesS.fin, YesS.seq]
  refine sx_tryOk ?_
  unfold toldB t__law_told
  walk_at "ko_ev_K06e"
  try walk_at "ko_li_K06e"
  try walk_at "ko_ar_K06e"
  rw [if_neg (by decide)]
  try walk_at "ko_ev_K06e"
  try walk_at "ko_li_K06e"
  try walk_at "ko_ar_K06e"
  rw [if_neg (by decide)]
  try walk_at "ko_ev_K06e"
  try walk_at "ko_li_K06e"
  try walk_at "ko_ar_K06e"
  rw [if_neg (by decide)]
  try walk_at "ko_ev_K06e"
  try walk_at "ko_li_K06e"
  try walk_at "ko_ar_K06e"
  rw [if_neg (by decide)]
  try walk_at "ko_ev_K06e"
  try walk_at "ko_li_K06e"
  try walk_at "ko_ar_K06e"
  rw [if_pos (by decide)]
  try walk_at "ko_ev_K06e"
  try walk_at "ko_li_K06e"
  try walk_at "ko_ar_K06e"
  rw [if_pos (by decide)]
  try walk_at "ko_ev_K06e"
  try walk_at "ko_li_K06e"
  exact ⟨_, K.met rfl, dk.r_Disk_read.symm, h.imp fun v ah1 q => ⟨by show 2 ≤ sizeLine; decide, q⟩⟩
theorem tok_7 {k d : Nat} {v t : AV} {ah : AH} {L : List Ent} {c : Int} {P : AV → AH → Prop} (K : Dsk ah d L c) (h : Yes (cl ds (k + 1) "Disk.read" [.ref d, v] ah) fun r ah' => P (.lst [.str "told", r]) ah') : Yes (cl ds (k + 2) "_law_told" [.ref d, .int (7 : Nat), v, t] ah) P := by
  rw [told_eq, YesS.fin, YesS.seq]
  refine sx_tryOk ?_
  unfold toldB t__law_told
  walk_at "ko_ev_K06e"
  try walk_at "ko_li_K06e"
  try walk_at "ko_ar_K06e"
  rw [if_neg (by decide)]
  try walk_at "ko_ev_K06e"
  try walk_at "ko_li_K06e"
  try walk_at "ko_ar_K06e"
  rw [if_neg (by decide)]
  try walk_at "ko_ev_K06e"
  try walk_at "ko_li_K06e"
  try walk_at "ko_ar_K06e"
  rw [if_neg (by decide)]
  try walk_at "ko_ev_K06e"
  try walk_at "ko_li_K06e"
  try walk_at "ko_ar_K06e"
  rw [if_neg (by decide)]
  try walk_at "ko_ev_K06e"
  try walk_at "ko_li_K06e"
  try walk_at "ko_ar_K06e"
  rw [if_pos (by decide)]
  try walk_at "ko_ev_K06e"
  try walk_at "ko_li_K06e"
  try walk_at "ko_ar_K06e"
  rw [if_neg (by decide)]
  try walk_at "ko_ev_K06e"
  try walk_at "ko_li_K06e"
  exact ⟨_, K.met rfl, ⟨rfl, rfl⟩, dk.r_Disk_read.symm, h.imp fun v ah1 q => ⟨by show 2 ≤ sizeLine; decide, q⟩⟩
theorem tok_8 {k d : Nat} {v t : AV} {ah : AH} {L : List Ent} {c : Int} {P : AV → AH → Prop} (K : Dsk ah d L c) (h : Yes (cl ds (k + 1) "Disk.synced" [.ref d, v] ah) fun r ah' => P (.lst [.str "told", r]) ah') : Yes (cl ds (k + 2) "_law_told" [.ref d, .int (8 : Nat), v, t] ah) P := by
  rw [told_eq, YesS.fin, YesS.seq]
  refine sx_tryOk ?_
  unfold toldB t__law_told
  walk_at "ko_ev_K06e"
  try walk_at "ko_li_K06e"
  try walk_at "ko_ar_K06e"
  rw [if_neg (by decide)]
  try walk_at "ko_ev_K06e"
  try walk_at "ko_li_K06e"
  try walk_at "ko_ar_K06e"
  rw [if_neg (by decide)]
  try walk_at "ko_ev_K06e"
  try walk_at "ko_li_K06e"
  try walk_at "ko_ar_K06e"
  rw [if_neg (by decide)]
  try walk_at "ko_ev_K06e"
  try walk_at "ko_li_K06e"
  try walk_at "ko_ar_K06e"
  rw [if_neg (by decide)]
  try walk_at "ko_ev_K06e"
  try walk_at "ko_li_K06e"
  try walk_at "ko_ar_K06e"
  rw [if_neg (by decide)]
  try walk_at "ko_ev_K06e"
  try walk_at "ko_li_K06e"
  try walk_at "ko_ar_K06e"
  rw [if_pos (by decide)]
  try walk_at "ko_ev_K06e"
  try walk_at "ko_li_K06e"
  exact ⟨_, K.met rfl, dk.r_Disk_synced.symm, h.imp fun v ah1 q => ⟨by show 2 ≤ sizeLine; decide, q⟩⟩
theorem tok_9 {k d : Nat} {v t : AV} {ah : AH} {L : List Ent} {c : Int} {P : AV → AH → Prop} (K : Dsk ah d L c) (h : Yes (cl ds (k + 1) "Disk.synced" [.ref d, v] ah) fun r ah' => P (.lst [.str "told", r]) ah') : Yes (cl ds (k + 2) "_law_told" [.ref d, .int (9 : Nat), v, t] ah) P := by
  rw [told_eq, YesS.fin, YesS.seq]
  refine sx_tryOk ?_
  unfold toldB t__law_told
  walk_at "ko_ev_K06e"
  try walk_at "ko_li_K06e"
  try walk_at "ko_ar_K06e"
  rw [if_neg (by decide)]
  try walk_at "ko_ev_K06e"
  try walk_at "ko_li_K06e"
  try walk_at "ko_ar_K06e"
  rw [if_neg (by decide)]
  try walk_at "ko_ev_K06e"
  try walk_at "ko_li_K06e"
  try walk_at "ko_ar_K06e"
  rw [if_neg (by decide)]
  try walk_at "ko_ev_K06e"
  try walk_at "ko_li_K06e"
  try walk_at "ko_ar_K06e"
  rw [if_neg (by decide)]
  try walk_at "ko_ev_K06e"
  try walk_at "ko_li_K06e"
  try walk_at "ko_ar_K06e"
  rw [if_neg (by decide)]
  try walk_at "ko_ev_K06e"
  try walk_at "ko_li_K06e"
  try walk_at "ko_ar_K06e"
  rw [if_neg (by decide)]
  try walk_at "ko_ev_K06e"
  try walk_at "ko_li_K06e"
  exact ⟨_, K.met rfl, ⟨rfl, rfl⟩, dk.r_Disk_synced.symm, h.imp fun v ah1 q => ⟨by show 2 ≤ sizeLine; decide, q⟩⟩
/-- what the law's reading of a text and the disk's have in common -/
structure TxV (ah : AH) (t : AV) : Prop where
  ok : VOk ah t
  len : ∀ z, t = .str z → z.length ≤ 300
  ch : ∀ z, t = .str z → ∀ c ∈ Ls z, c < 1114112
  no : txB t = false → sgB t = false ∨ t = .str ""
  yes : ∀ z, t = .str z → txB (.str z) = true → sgB (.str z) = true ∧ z ≠ ""
theorem c_told {k d w : Nat} {ah : AH} {L L' : List Ent} {c c' : Int} {v t x : AV} {u : Str} (K : Dsk ah d L c) (s : Stp L c w v t u x L' c') (V : VOk ah v) (T : TxV ah t) (nd : (nms L).Nodup) (hl : L.length < 1000) (lp : ∀ e ∈ L, e.2.1.length ≤ 100000) :
    Yes (cl ds (k + 4) "_law_told" [.ref d, .int w, v, t] ah) fun r ah' => r = .lst [.str u, x] ∧ Dsk ah' d L' c' ∧ Oth [d, d + 1, d + 2] ah ah' := by
  have yes_ok : ∀ {r : Ot AV} {a : AV} {P : AV → AH → Prop}, r = .ok a ah → P a ah → Yes r P := fun {r a P} e p => by rw [e]; exact p
  cases s with
  | nam hw h =>
    have hx := x_chkN dk (k := k) (d := d) V h
    refine yes_ok (told_N (k := k + 2) ?_) ⟨rfl, K, Oth.rfl'⟩
    match w, hw with
    | 0, _ => exact told_0 K (x_writeN dk (k := k + 1) V h)
    | 1, _ => exact told_1 K (x_writeN dk (k := k + 1) V h)
    | 2, _ => exact told_2 K (x_sync dk K hx)
    | 3, _ => exact told_3 K (x_sync dk K hx)
    | 4, _ => exact told_4 K (x_drop dk K hx)
    | 5, _ => exact told_5 K (x_drop dk K hx)
    | 6, _ => exact told_6 K (x_read dk K hx)
    | 7, _ => exact told_7 K (x_read dk K hx)
    | 8, _ => exact told_8 K (x_synced dk K hx)
    | 9, _ => exact told_9 K (x_synced dk K hx)
  | txt hw h ht =>
    refine yes_ok (told_T (k := k + 2) ?_) ⟨rfl, K, Oth.rfl'⟩
    rcases hw with rfl | rfl
    · exact told_0 K (x_writeT dk (k := k + 1) T.ok h (T.no ht))
    · exact told_1 K (x_writeT dk (k := k + 1) T.ok h (T.no ht))
  | non h2 hw h ha =>
    have hx := x_chkF dk (k := k) K h (by rw [ha]; rfl)
    refine yes_ok (told_F (k := k + 2) ?_) ⟨rfl, K, Oth.rfl'⟩
    match w, hw, h2 with
    | 2, _, _ => exact told_2 K (x_sync dk K hx)
    | 3, _, _ => exact told_3 K (x_sync dk K hx)
    | 4, _, _ => exact told_4 K (x_drop dk K hx)
    | 5, _, _ => exact told_5 K (x_drop dk K hx)
    | 6, _, _ => exact told_6 K (x_read dk K hx)
    | 7, _, _ => exact told_7 K (x_read dk K hx)
    | 8, _, _ => exact told_8 K (x_synced dk K hx)
    | 9, _, _ => exact told_9 K (x_synced dk K hx)
    | 0, _, h => omega
    | 1, _, h => omega
  | wr hw h ht =>
    obtain ⟨t1, t2⟩ := T.yes _ rfl ht
    have q := c_write dk (k := k + 1) K hl (Nat.le_trans (T.len _ rfl) (by decide)) lp h t1 t2
    rcases hw with rfl | rfl
    · exact tok_0 (k := k + 2) K (q.imp fun r ah1 ⟨e, q1, q2⟩ => ⟨by rw [e], q1, q2⟩)
    · exact tok_1 (k := k + 2) K (q.imp fun r ah1 ⟨e, q1, q2⟩ => ⟨by rw [e], q1, q2⟩)
  | syn hw h ha =>
    have q := c_sync dk (k := k) K nd hl (lp _ (at_mem ha)) h ha
    rcases hw with rfl | rfl
    · exact tok_2 (k := k + 2) K (q.imp fun r ah1 ⟨e, q1, q2⟩ => ⟨by rw [e], q1, q2.mono (by simp)⟩)
    · exact tok_3 (k := k + 2) K (q.imp fun r ah1 ⟨e, q1, q2⟩ => ⟨by rw [e], q1, q2.mono (by simp)⟩)
  | drp hw h ha =>
    have q := c_drop dk (k := k) K h ha
    rcases hw with rfl | rfl
    · exact tok_4 (k := k + 2) K (q.imp fun r ah1 ⟨e, q1, q2⟩ => ⟨by rw [e], q1, q2⟩)
    · exact tok_5 (k := k + 2) K (q.imp fun r ah1 ⟨e, q1, q2⟩ => ⟨by rw [e], q1, q2⟩)
  | red hw h ha =>
    have q := c_read dk (k := k) K h ha
    rcases hw with rfl | rfl
    · exact tok_6 (k := k + 2) K (q.imp fun r ah1 ⟨e, q1⟩ => ⟨by rw [e], q1 ▸ K, q1 ▸ Oth.rfl'⟩)
    · exact tok_7 (k := k + 2) K (q.imp fun r ah1 ⟨e, q1⟩ => ⟨by rw [e], q1 ▸ K, q1 ▸ Oth.rfl'⟩)
  | syd hw h ha =>
    have q := c_synced dk (k := k) K h ha
    rcases hw with rfl | rfl
    · exact tok_8 (k := k + 2) K (q.imp fun r ah1 ⟨e, q1⟩ => ⟨by rw [e], q1 ▸ K, q1 ▸ Oth.rfl'⟩)
    · exact tok_9 (k := k + 2) K (q.imp fun r ah1 ⟨e, q1⟩ => ⟨by rw [e], q1 ▸ K, q1 ▸ Oth.rfl'⟩)
end K06

/-! k06: what is told is what is due; the disk and the law tell alike. -/
namespace K06
open PySem L2 Ko NumText
local macro_rules | `(tactic| walk_at "ko_ev_K06f") => `(tactic| simp only [YesS.fin, semD, den, mkE, mkT, mkX, mkS, YesS.seq, YesS.nil, YesS.ret, YesS.ifS, YesS.asg, y_c, y_v, y_f2, y_f1, y_fA, y_nil, y_cons, y_tup, y_lst, y_lstM, y_dic0, y_tF, y_bF, y_tAnd, y_tOr, y_tNot, y_not, y_and, y_or, y_if, y_call, y_kw, y_chain, y_slc, y_pN, y_pS, y_isi, y_ms, y_src, y_rng1, y_comp, y_yes, s_exp, s_par2, s_sub, s_for, y_mcall, y_new, y_dget, y_dpop, y_dicN, y_dicC, y_lstC, y_srt, y_srtM, y_app', s_putD, s_att, s_del, ops_call, ops_ar, Yes.ok, nu_isascii, nu_isprintable, nu_isalpha, nu_islower, nu_isdigit, nu_join, nu_count, nu_startswith, nu_endswith, nu_zfill, nu_stripC])
local macro_rules | `(tactic| walk_at "ko_ar_K06f") => `(tactic| simp only [ex_some, ex_ite, bin_add, bin_sub, bin_mul, bin_div, bin_mod, bin_pow, add_ii, sub_ii, mul_ii, div_ii, mod_ii, pow_ii, neg_i, cmp_eq, cmp_ne, cmp_lt, cmp_le, cmp_gt, cmp_ge, cmp_is, cmp_isn, cmp_in, cmp_nin, lt_ii, le_ii, gt_ii, ge_ii, eq_ii, ne_ii, tru_b, tru_i, as_b, int_i, abs_i, put_nm, put_tup, put_lst])
local macro_rules | `(tactic| walk_at "ko_li_K06f") => `(tactic| simp only [List.getElem?_cons_zero, List.getElem?_cons_succ, List.set_cons_succ, List.set_cons_zero, putl_nil, putl_cons, put_nm, put_tup, put_lst, Option.bind_some])
local macro_rules | `(tactic| walk_at "ko_bo_K06f") => `(tactic| simp only [Bool.not_true, Bool.not_false, if_true, if_false, Bool.false_eq_true, reduceIte, Option.isSome_none, Option.isSome_some])
theorem fd_same : findD ds "_law_same" = some d__law_same := by rfl
theorem fd_alike : findD ds "_law_alike" = some d__law_alike := by rfl
theorem repr_big {a : AV} (h : okA a = true) (hb : bkA a ≤ 100000) (hd : dpA a ≤ 60) : ∃ z, ∀ ah, reprF ah a = some (.str z) := by
  obtain ⟨d, e, h1, h2, h3, h4⟩ := okA_dat h
  refine ⟨d.shown, fun ah => ?_⟩
  have eh : datH ah a = some d := dat_H e
  unfold reprF
  rw [eh, Option.bind_some, if_pos]
  refine ⟨h1, ?_, by omega⟩
  have := PyData.shown_le_bulk 20 (by decide) d h2
  have hs : sizeLine = 16777216 := by decide
  omega
theorem repr_as' {ah : AH} {a v : AV} {d : PyData} (h1 : Ko.dat v = some d) (h2 : datH ah a = some d) (ok : okA v = true) (hb : bkA v ≤ 100000) (hd : dpA v ≤ 60) : ∃ z, reprF ah a = some (.str z) := by
  obtain ⟨z, hz⟩ := repr_big ok hb hd
  refine ⟨z, ?_⟩
  rw [← hz ah]
  unfold reprF
  rw [h2, dat_H h1]
/-- a thing that is told -/
structure Ths (ah : AH) (b : Nat) (x : AV) : Prop where
  ex : ∃ v, Thg ah x v ∧ okA v = true ∧ bkA v ≤ 20000 ∧ dpA v ≤ 6
  lo : ∀ m, x = .ref m → b ≤ m
theorem repr_pair {ah : AH} {t v : AV} {w : Str} (h : Thg ah t v) (V1 : okA v = true) (V2 : bkA v ≤ 50000) (V3 : dpA v ≤ 10) (hw : okA (.str w) = true ∧ bkA (.str w) ≤ 10) : ∃ z, biF .repr ah [.lst [.str w, t]] = some (.str z) := by
  obtain ⟨d, e1, e2⟩ := h.dat V1
  refine repr_as' (v := .lst [.str w, v]) (d := .list [.str w, d]) ?_ ?_ ?_ ?_ ?_
  · simp only [Ko.dat, datL, e1, Option.bind_some, Option.map_some]
  · simp only [datH, datHL, e2, Option.bind_some, Option.map_some]
  · simp only [okA, okL, V1, Bool.and_true]
    have := hw.1
    simpa only [okA] using this
  · have := hw.2
    simp only [bkA, bkL] at *
    omega
  · simp only [dpA, dpL]
    omega
theorem nes {ah : AH} {z : Str} : neF ah (.str z) (.str z) = some (.bl false) := by
  show some (AV.bl (!decide (z = z))) = _
  rw [decide_eq_true rfl]; rfl
theorem bkL_app : ∀ xs ys : List AV, bkL (xs ++ ys) = bkL xs + bkL ys
  | [], ys => by simp [bkL]
  | x :: xs, ys => by simp only [List.cons_append, bkL, bkL_app xs ys]; omega
theorem dpL_app : ∀ xs ys : List AV, dpL (xs ++ ys) = max (dpL xs) (dpL ys)
  | [], ys => by simp [dpL]
  | x :: xs, ys => by simp only [List.cons_append, dpL, dpL_app xs ys]; omega
theorem c_same {k b : Nat} {x : AV} {u : Str} {ah : AH} (h : Ths ah b x) (hu : u = "name" ∨ u = "text" ∨ u = "none" ∨ u = "told") : Yes (cl ds (k + 1) "_law_same" [.lst [.str u, x], .lst [.str u, x]] ah) fun r ah' => r = .bl true ∧ (ah' = ah ∨ ∃ m o, x = .ref m ∧ b ≤ m ∧ ah' = ah.set m o) := by
  obtain ⟨v, T, o1, o2, o3⟩ := h.ex
  have hw : okA (.str u) = true ∧ bkA (.str u) ≤ 10 := by rcases hu with rfl | rfl | rfl | rfl <;> exact ⟨by decide +kernel, by decide +kernel⟩
  obtain ⟨z, hz⟩ := repr_pair T o1 (by omega) (by omega) hw
  rw [cl_eq fd_same]
  simp only [d__law_same, t__law_same]
  walk_at "ko_ev_K06f"
  simp only [show startA ["told", "due", "handed"] [.lst [.str u, x], .lst [.str u, x]] = [some (.lst [.str u, x]), some (.lst [.str u, x]), none] from rfl]
  walk_at "ko_li_K06f"
  rw [hz]
  refine ⟨_, rfl, _, rfl, ?_⟩
  rw [cmp_ne, nes, ex_some, as_b, ex_some]
  walk_at "ko_bo_K06f"
  try walk_at "ko_ev_K06f"
  try walk_at "ko_li_K06f"
  refine ⟨.str u, rfl, ?_⟩
  rw [cmp_eq, eq_ss, ex_some, as_b, ex_some]
  have nl : ∀ t, tyA ah x = some t → [Ty.list].any (isTy t) = false → ∀ (P : Prop), True := fun _ _ _ _ => trivial
  by_cases ht : u = "told"
  · rw [decide_eq_true ht]
    walk_at "ko_bo_K06f"
    try walk_at "ko_ev_K06f"
    exact ⟨by first | rfl | trivial, .inl (by first | rfl | trivial)⟩
  · rw [decide_eq_false ht]
    walk_at "ko_bo_K06f"
    cases T with
    | lst e =>
      rename_i n xs
      refine ⟨.ref n, rfl, "list", ty_refL e, true, rfl, ?_⟩
      walk_at "ko_bo_K06f"
      try walk_at "ko_ev_K06f"
      try walk_at "ko_li_K06f"
      have hb : ∀ ys : List AV, ys.length ≤ bkL ys := fun ys => by
        induction ys with
        | nil => exact Nat.le_refl _
        | cons y ys ih => simp only [List.length_cons, bkL]; omega
      have hlen : xs.length < sizeLine := by
        have := hb xs
        simp only [bkA] at *
        rw [sz]
        omega
      refine ⟨.ref n, rfl, ?_, ah.set n (.lst (xs ++ [.str "more"])), ?_, ?_⟩
      · show (match ah[n]? with | some (.lst _) => true | _ => false) = true
        rw [e]
      · show (match ah[n]? with | some (.lst xs) => if xs.length < sizeLine then some (ah.set n (.lst (xs ++ [AV.str "more"]))) else none | _ => none) = _
        rw [e]
        show (if xs.length < sizeLine then _ else _) = _
        rw [if_pos hlen]
      have h' : (ah.set n (.lst (xs ++ [.str "more"])))[n]? = some (.lst (xs ++ [.str "more"])) := List.getElem?_set_self (List.getElem?_eq_some_iff.mp e).1
      simp only [okA, bkA, dpA] at o1 o2 o3
      have m1 : okL [.str "more"] = true := by decide +kernel
      have m2 : bkL [.str "more"] ≤ 10 := by decide +kernel
      have m3 : dpL [.str "more"] = 0 := by decide +kernel
      obtain ⟨z', hz'⟩ := repr_pair (w := u) (.lst h') (by simp only [okA, okL_app, o1, m1, Bool.and_self]) (by simp only [bkA, bkL_app]; omega) (by simp only [dpA, dpL_app]; omega) hw
      rw [hz']
      refine ⟨_, rfl, _, rfl, _, by rw [eq_ss, decide_eq_true rfl], by first | rfl | trivial, .inr ⟨n, _, rfl, h.lo n rfl, by first | rfl | trivial⟩⟩
    | dct e =>
      refine ⟨_, rfl, "dict", ty_refD e, false, rfl, ?_⟩
      walk_at "ko_bo_K06f"
      try walk_at "ko_ev_K06f"
      exact ⟨by first | rfl | trivial, .inl (by first | rfl | trivial)⟩
    | _ =>
      refine ⟨_, rfl, _, rfl, false, rfl, ?_⟩
      walk_at "ko_bo_K06f"
      try walk_at "ko_ev_K06f"
      exact ⟨by first | rfl | trivial, .inl (by first | rfl | trivial)⟩
end K06

/-! k06: the disk and the law tell alike. -/
namespace K06
open PySem L2 Ko NumText
local macro_rules | `(tactic| walk_at "ko_ev_K06g") => `(tactic| simp only [YesS.fin, semD, den, mkE, mkT, mkX, mkS, YesS.seq, YesS.nil, YesS.ret, YesS.ifS, YesS.asg, y_c, y_v, y_f2, y_f1, y_fA, y_nil, y_cons, y_tup, y_lst, y_lstM, y_dic0, y_tF, y_bF, y_tAnd, y_tOr, y_tNot, y_not, y_and, y_or, y_if, y_call, y_kw, y_chain, y_slc, y_pN, y_pS, y_isi, y_ms, y_src, y_rng1, y_comp, y_yes, s_exp, s_par2, s_sub, s_for, y_mcall, y_new, y_dget, y_dpop, y_dicN, y_dicC, y_lstC, y_srt, y_srtM, y_app', s_putD, s_att, s_del, ops_call, ops_ar, Yes.ok, nu_isascii, nu_isprintable, nu_isalpha, nu_islower, nu_isdigit, nu_join, nu_count, nu_startswith, nu_endswith, nu_zfill, nu_stripC])
local macro_rules | `(tactic| walk_at "ko_ar_K06g") => `(tactic| simp only [ex_some, ex_ite, bin_add, bin_sub, bin_mul, bin_div, bin_mod, bin_pow, add_ii, sub_ii, mul_ii, div_ii, mod_ii, pow_ii, neg_i, cmp_eq, cmp_ne, cmp_lt, cmp_le, cmp_gt, cmp_ge, cmp_is, cmp_isn, cmp_in, cmp_nin, lt_ii, le_ii, gt_ii, ge_ii, eq_ii, ne_ii, tru_b, tru_i, as_b, int_i, abs_i, put_nm, put_tup, put_lst])
local macro_rules | `(tactic| walk_at "ko_li_K06g") => `(tactic| simp only [List.getElem?_cons_zero, List.getElem?_cons_succ, List.set_cons_succ, List.set_cons_zero, putl_nil, putl_cons, put_nm, put_tup, put_lst, Option.bind_some])
local macro_rules | `(tactic| walk_at "ko_bo_K06g") => `(tactic| simp only [Bool.not_true, Bool.not_false, if_true, if_false, Bool.false_eq_true, reduceIte, Option.isSome_none, Option.isSome_some])
/-- the files at the turn N -/
structure LInv (L : List Ent) (N : Nat) : Prop where
  ok : LOk L N
  nm : ∀ e ∈ L, nmB (.str e.1) = true
  mr : ∀ e ∈ L, 0 ≤ e.2.2 ∧ e.2.2 ≤ 300 * N
theorem LInv.nil : LInv [] 0 := ⟨LOk.nil, fun e he => absurd he List.not_mem_nil, fun e he => absurd he List.not_mem_nil⟩
theorem LInv.mono {L : List Ent} {N M : Nat} (h : LInv L N) (q : N ≤ M) : LInv L M := ⟨h.ok.mono q, h.nm, fun e he => by have := h.mr e he; omega⟩
theorem nm_ch {z : Str} (h : nmB (.str z) = true) : (∀ c ∈ Ls z, c < 1114112) ∧ z.length ≤ 12 := by
  obtain ⟨y, e, h1, h2, h3⟩ := nm_str h
  cases e
  refine ⟨fun c hc => ?_, h2⟩
  have q : (Ls "abcdefghijklmnopqrstuvwxyz0123456789-").all (fun c => decide (c < 1114112)) = true := by decide +kernel
  exact of_decide_eq_true (List.all_eq_true.mp q c (of_decide_eq_true (List.all_eq_true.mp h3 c hc)))
theorem put_mem {L : List Ent} {z t : Str} {m : Int} {e : Ent} (he : e ∈ putE L z t m) : e ∈ L ∨ (e.1 = z ∧ e.2 = (t, m)) := by
  unfold putE at he
  split at he
  · obtain ⟨u, h1, rfl⟩ := List.mem_map.mp he
    by_cases q : u.1 = z
    · rw [if_pos q]; exact .inr ⟨q, rfl⟩
    · rw [if_neg q]; exact .inl h1
  · rcases List.mem_append.mp he with q | q
    · exact .inl q
    · rw [List.mem_singleton.mp q]; exact .inr ⟨rfl, rfl⟩
theorem LInv.put {L : List Ent} {N : Nat} {z t : Str} {m : Int} (h : LInv L N) (hz : nmB (.str z) = true) (lt : t.length ≤ 300 * (N + 1)) (ht : ∀ c ∈ Ls t, c < 1114112) (hm : 0 ≤ m ∧ m ≤ 300 * (N + 1)) : LInv (putE L z t m) (N + 1) := by
  obtain ⟨z1, z2⟩ := nm_ch hz
  refine ⟨h.ok.put lt ht z1 (by omega), fun e he => ?_, fun e he => ?_⟩
  · rcases put_mem he with q | ⟨q, _⟩
    · exact h.nm e q
    · rw [q]; exact hz
  · rcases put_mem he with q | ⟨_, q⟩
    · have := h.mr e q; omega
    · rw [q]; exact hm
theorem LInv.stp {L L' : List Ent} {c c' : Int} {w N : Nat} {v t x : AV} {u : Str} (h : LInv L N) (s : Stp L c w v t u x L' c') (tl : ∀ z, t = .str z → z.length ≤ 300) (tc : ∀ z, t = .str z → ∀ c ∈ Ls z, c < 1114112) : LInv L' (N + 1) := by
  cases s with
  | wr hw hz ht =>
    rename_i z y
    have a1 := tl y rfl
    have a2 := tc y rfl
    cases q : atE L z with
    | none =>
      refine h.put hz ?_ (fun c hc => ?_) (by show (0 : Int) ≤ 0 ∧ (0 : Int) ≤ _; omega)
      · show (("" : Str) ++ y).length ≤ _
        rw [Str.length_append]
        have : ("" : Str).length = 0 := by decide +kernel
        omega
      · rw [ls_app, List.mem_append] at hc
        rcases hc with hc | hc
        · exact absurd (show c ∈ ([] : List Nat) from (show Ls ("" : Str) = [] from by decide +kernel) ▸ hc) List.not_mem_nil
        · exact a2 c hc
    | some p =>
      have hp := h.ok.tx _ (at_mem q)
      have hm := h.mr _ (at_mem q)
      refine h.put hz ?_ (fun c hc => ?_) ?_
      · show (p.1 ++ y).length ≤ _
        rw [Str.length_append]
        have := hp.1
        dsimp only at this
        omega
      · rw [ls_app, List.mem_append] at hc
        rcases hc with hc | hc
        · exact hp.2.1 c hc
        · exact a2 c hc
      · show 0 ≤ p.2 ∧ p.2 ≤ _
        dsimp only at hm
        omega
  | syn hw hz ha =>
    have hp := h.ok.tx _ (at_mem ha)
    have := hp.1
    dsimp only at this
    exact h.put hz (by omega) hp.2.1 (by omega)
  | drp hw hz ha =>
    refine LInv.mono (N := N) ⟨h.ok.drop, fun e he => h.nm e (List.mem_filter.mp he).1, fun e he => h.mr e (List.mem_filter.mp he).1⟩ (by omega)
  | _ => exact h.mono (by omega)
theorem strs_dat : ∀ l : List Str, (∀ z ∈ l, ∀ c ∈ Ls z, c < 1114112) → datL (l.map .str) = some (l.map .str) ∧ PyData.canLayAll0 (l.map .str) = true ∧ PyData.depthAll (l.map .str) = 0 ∧ PyData.eqvAll (l.map .str) (l.map .str) = true
  | [], _ => ⟨rfl, by simp only [List.map_nil, PyData.canLayAll0], by simp only [List.map_nil, PyData.depthAll], by simp only [List.map_nil, PyData.eqvAll]⟩
  | z :: l, h => by
    obtain ⟨e, h1, h2, h3⟩ := strs_dat l fun w hw => h w (List.mem_cons_of_mem _ hw)
    have T := h z (List.mem_cons_self ..)
    have hz : PyData.strOk z = true := by
      unfold PyData.strOk
      have : z.cps.all (fun c => decide (c < 0x110000)) = z.cps.toList.all (fun c => decide (c < 0x110000)) := by simp
      rw [this]
      exact List.all_eq_true.mpr fun c hc => decide_eq_true (T c hc)
    refine ⟨by simp only [List.map_cons, datL, dat, Option.bind_some, e, Option.map_some], by simp only [List.map_cons, PyData.canLayAll0, PyData.canLay0, hz, h1, Bool.and_self], by simp only [List.map_cons, PyData.depthAll, PyData.depth, h2]; rfl, ?_⟩
    simp only [List.map_cons, PyData.eqvAll, PyData.eqv, h3]
    simp
theorem lst_eqD {ah : AH} {n : Nat} {l : List Str} (h : ∀ z ∈ l, ∀ c ∈ Ls z, c < 1114112) (h1 : ah[n]? = some (.lst (l.map .str))) : eqD ah (.ref n) (.lst (l.map .str)) = some true := by
  obtain ⟨e, c1, c2, c3⟩ := strs_dat l h
  have q : datH ah (.ref n) = some (.list (l.map .str)) := by
    show datR ah n = _
    unfold datR
    rw [h1]
    show (datL (l.map .str)).map PyData.list = _
    rw [e]; rfl
  have q2 : datH ah (.lst (l.map .str)) = some (.list (l.map .str)) := dat_H (by simp only [dat, e, Option.map_some])
  have s : SeqAt.shaped (.list (l.map .str)) = true := by
    unfold SeqAt.shaped
    simp only [PyData.canLay0, PyData.depth, c1, c2]
    rfl
  unfold eqD
  rw [q, q2, Option.bind_some, Option.bind_some, if_pos ⟨s, s⟩]
  simp only [PyData.eqv, c3]
theorem repr_one {L : List Ent} {N : Nat} {z : Str} {p : Str × Int} (h : LInv L N) (hN : N ≤ 30) (ha : atE L z = some p) : (∃ r, ∀ ah, biF .repr ah [.lst [.str p.1, .int p.2]] = some (.str r)) ∧ ∃ r, ∀ ah, biF .repr ah [.lst [.int p.2, .str p.1]] = some (.str r) := by
  have h1 := h.ok.tx _ (at_mem ha)
  have h2 := h.mr _ (at_mem ha)
  dsimp only at h1 h2
  have o1 : okA (.str p.1) = true := by
    simp only [okA]
    exact List.all_eq_true.mpr fun c hc => decide_eq_true (h1.2.1 c hc)
  have o2 : okA (.int p.2) = true := by
    simp only [okA]
    exact decide_eq_true (by omega)
  have b1 : bkA (.str p.1) ≤ 9100 := by
    have : p.1.cps.size = p.1.length := rfl
    simp only [bkA]
    omega
  have b2 : bkA (.int p.2) ≤ 10 := by simp only [bkA]; omega
  have d1 : dpA (.str p.1) = 0 := rfl
  have d2 : dpA (.int p.2) = 0 := rfl
  refine ⟨repr_big ?_ ?_ ?_, repr_big ?_ ?_ ?_⟩
  · simp only [okA, okL] at *
    rw [o1, o2]; rfl
  · simp only [bkA, bkL] at *
    omega
  · simp only [dpA, dpL] at *
    omega
  · simp only [okA, okL] at *
    rw [o1, o2]; rfl
  · simp only [bkA, bkL] at *
    omega
  · simp only [dpA, dpL] at *
    omega
theorem Oth.new {S : List Nat} {a b : AH} {n : Nat} {o : AO} (h : Oth S a b) (hn : a.length ≤ n) : Oth S a (b.set n o) := ⟨by rw [List.length_set]; exact h.len, fun m hm hs => by rw [List.getElem?_set_ne (by omega)]; exact h.eq m hm hs⟩
theorem c_alike {k d f g N : Nat} {ah : AH} {L : List Ent} {c : Int} (K : Dsk ah d L c) (O : Own ah f g L c) (I : LInv L N) (hN : N ≤ 30) (hc : 0 ≤ c ∧ c ≤ 1000) : Yes (cl ds (k + 4) "_law_alike" [.ref d, .ref f, .ref g] ah) fun r ah' => r = .bl true ∧ Oth [] ah ah' := by
  have hl : L.length < 60 := by have := I.ok.len; omega
  have ln : (nms L).length < 64 := by unfold nms; rw [List.length_map]; omega
  have nch : ∀ z ∈ srtS (nms L), ∀ c ∈ Ls z, c < 1114112 := fun z hz => by
    have := (srtS_perm (nms L)).mem_iff.mp hz
    obtain ⟨e, h1, rfl⟩ := List.mem_map.mp this
    exact (nm_ch (I.nm e h1)).1
  have nat : ∀ z, z ∈ srtS (nms L) → nmB (.str z) = true ∧ ∃ p, atE L z = some p := fun z hz => by
    have := (srtS_perm (nms L)).mem_iff.mp hz
    refine ⟨?_, at_of this⟩
    obtain ⟨e, h1, rfl⟩ := List.mem_map.mp this
    exact I.nm e h1
  have hlist := list_refD O.ow
  have body : ∀ (z : Str) (b4 : Option AV) (ah : AH), z ∈ srtS (nms L) → Dsk ah d L c → Own ah f g L c → (∃ r, biF .repr ah [.lst [.int ((atE L z).getD ("", 0)).2, .str ((atE L z).getD ("", 0)).1]] = some (.str r)) ∧ ∃ r, biF .repr ah [.lst [.str ((atE L z).getD ("", 0)).1, .int ((atE L z).getD ("", 0)).2]] = some (.str r) := fun z b4 ah hz _ _ => by
    obtain ⟨_, p, hp⟩ := nat z hz
    obtain ⟨⟨r1, h1⟩, r2, h2⟩ := repr_one I hN hp
    rw [hp]
    exact ⟨⟨r2, h2 ah⟩, r1, h1 ah⟩
  rw [cl_eq fd_alike]
  simp only [semD, d__law_alike]
  rw [YesS.fin, show startA ["disk", "files", "counts", "name", "names"] [.ref d, .ref f, .ref g] = [some (.ref d), some (.ref f), some (.ref g), none, none] from rfl]
  unfold t__law_alike
  rw [den_cons, YesS.seq]
  refine YesS.imp (N := fun ρ ah' => ah' = ah ∧ ∃ b, ρ = [some (.ref d), some (.ref f), some (.ref g), b, none]) (R := fun _ _ => False) ?_ (fun ρ ah' ⟨e0, b, e1⟩ => ?_) (fun _ _ h => h.elim)
  · walk_at "ko_ev_K06g"
    walk_at "ko_li_K06g"
    rw [ix_ref O.co]
    refine ⟨.int c, rfl, ?_⟩
    try walk_at "ko_ar_K06g"
    refine ⟨by decide, ?_⟩
    have hs : srtA ah (.lst ((nms L).map .str)) = some ((srtS (nms L)).map .str) := srt_lst ln
    have loop : ∀ zs : List Str, (∀ z ∈ zs, z ∈ srtS (nms L)) → YesS
        (forV always (TP.nm 3) (seqF (ifS (bF (f2 neF (fA (biF BI.repr) (aCons (lstF (aCons (mcallF [("Disk", "Disk.synced")] (ops ds (k + 3)).call (ops ds (k + 3)).ar "synced" (vF 0) (aCons (vF 3) aNil)) (aCons (mcallF [("Disk", "Disk.read")] (ops ds (k + 3)).call (ops ds (k + 3)).ar "read" (vF 0) (aCons (vF 3) aNil)) aNil))) aNil)) (fA (biF BI.repr) (aCons (f1 revA (f2 dsubA (vF 1) (vF 3))) aNil)))) (seqF (retF (cF (AV.bl false))) nilF) nilF) nilF)
          (zs.map .str) [some (.ref d), some (.ref f), some (.ref g), none, none] ah) (fun ρ ah' => ah' = ah ∧ ∃ b, ρ = [some (.ref d), some (.ref f), some (.ref g), b, none]) (fun _ _ => False) := fun zs hzs => by
      refine forV_ok' (fun r ρ ah' => ah' = ah ∧ (∃ ws : List Str, r = ws.map .str ∧ ∀ w ∈ ws, w ∈ srtS (nms L)) ∧ ∃ b, ρ = [some (.ref d), some (.ref f), some (.ref g), b, none]) _ _ _ ⟨rfl, ⟨zs, rfl, hzs⟩, _, rfl⟩ (fun ρ ah' ⟨e0, _, e1⟩ => ⟨e0, e1⟩) fun x xs ρ ah' ⟨e0, ⟨ws, e1, e2⟩, b, e3⟩ => ?_
      subst e0 e3
      match ws, e1 with
      | w :: ws, e1 =>
        rw [List.map_cons, List.cons.injEq] at e1
        obtain ⟨rfl, rfl⟩ := e1
        obtain ⟨hn, p, hp⟩ := nat w (e2 w (List.mem_cons_self ..))
        obtain ⟨⟨r1, h1⟩, r2, h2⟩ := repr_one I hN hp
        refine ⟨_, rfl, ?_⟩
        walk_at "ko_ev_K06g"
        walk_at "ko_li_K06g"
        refine ⟨_, K.met rfl, dk.r_Disk_synced.symm, (c_synced dk K hn hp).imp fun r ah1 ⟨e1, e2'⟩ => ?_⟩
        subst e1 e2'
        refine ⟨_, K.met rfl, dk.r_Disk_read.symm, (c_read dk K hn hp).imp fun r ah1 ⟨e1, e2'⟩ => ?_⟩
        subst e1 e2'
        refine ⟨by show 2 ≤ sizeLine; decide, _, h2 _, _, sub_refD O.ow hp, .lst [.int p.2, .str p.1], rfl, _, h2 _, _, nes, ?_⟩
        rw [as_b, ex_some]
        walk_at "ko_bo_K06g"
        exact ⟨by first | rfl | trivial, ⟨ws, rfl, fun u hu => e2 u (List.mem_cons_of_mem _ hu)⟩, _, rfl⟩
    by_cases q : c % 2 = 0
    · rw [if_pos (decide_eq_true q), hlist, ex_some, hs, ex_some]
      refine ⟨.lst ((srtS (nms L)).map AV.str).reverse, rfl, _, src_l, ?_⟩
      rw [← List.map_reverse]
      exact loop _ fun z hz => List.mem_reverse.mp hz
    · rw [if_neg (by simpa using q)]
      refine ⟨by show 0 ≤ sizeLine; decide, _, src_l, ?_⟩
      exact loop [] fun z hz => absurd hz List.not_mem_nil
  subst e0 e1
  walk_at "ko_ev_K06g"
  try walk_at "ko_li_K06g"
  refine ⟨_, K.met rfl, dk.r_Disk_names.symm, (c_names dk K (by omega)).imp fun r ah1 ⟨e1, e2⟩ => ?_⟩
  subst e1 e2
  try walk_at "ko_li_K06g"
  have h0 : (ah' ++ [AO.lst ((srtS (nms L)).map .str)])[ah'.length]? = some (.lst ((srtS (nms L)).map .str)) := by simp
  have O1 := Oth.app (S := []) (ah := ah') (tl := [AO.lst ((srtS (nms L)).map .str)])
  have K1 := K.oth O1 (by simp) (by simp) (by simp)
  have W1 := O.oth O1 (by simp) (by simp)
  generalize hn : ah'.length = n at h0 ⊢
  generalize ah' ++ [AO.lst ((srtS (nms L)).map .str)] = ah1 at h0 O1 K1 W1 ⊢
  refine ⟨"list", ty_refL h0, true, rfl, ?_⟩
  walk_at "ko_bo_K06g"
  try walk_at "ko_ev_K06g"
  try walk_at "ko_li_K06g"
  rw [list_refD W1.ow, ex_some, srt_lst ln, ex_some]
  have ne1 : neF ah1 (.ref n) (.lst ((srtS (nms L)).map .str)) = some (.bl false) := by
    show (eqD ah1 _ _).map (fun c => AV.bl (!c)) = _
    rw [lst_eqD nch h0]; rfl
  try rw [cmp_ne]
  rw [ne1, ex_some, as_b, ex_some]
  walk_at "ko_bo_K06g"
  refine ⟨_, K1.met rfl, dk.r_Disk_ops.symm, (c_ops dk K1).imp fun r ah2 ⟨e1, e2⟩ => ?_⟩
  subst e1 e2
  obtain ⟨rc, hrc⟩ := repr_big (a := .int c) (by simp only [okA]; exact decide_eq_true (by omega)) (by simp only [bkA]; omega) (by simp only [dpA]; omega)
  refine ⟨_, hrc _, ?_⟩
  rw [ix_ref W1.co]
  refine ⟨.int c, rfl, _, hrc _, ?_⟩
  try rw [cmp_ne]
  rw [nes, ex_some, as_b, ex_some]
  walk_at "ko_bo_K06g"
  try walk_at "ko_ev_K06g"
  try walk_at "ko_li_K06g"
  have hnl : n < ah2.length := (List.getElem?_eq_some_iff.mp h0).1
  refine ⟨by show (match ah2[n]? with | some (.lst _) => true | _ => false) = true; rw [h0], ah2.set n (.lst ((srtS (nms L)).map .str ++ [.str "a"])), ?_, ?_⟩
  · show (match ah2[n]? with | some (.lst xs) => if xs.length < sizeLine then some (ah2.set n (.lst (xs ++ [AV.str "a"]))) else none | _ => none) = _
    rw [h0]
    show (if _ < sizeLine then _ else _) = _
    rw [if_pos (by rw [List.length_map, (srtS_perm (nms L)).length_eq, sz]; omega)]
  have h1 : (ah2.set n (.lst ((srtS (nms L)).map .str ++ [.str "a"])))[n]? = some (.lst ((srtS (nms L)).map .str ++ [.str "a"])) := List.getElem?_set_self hnl
  have hix : ixN ((srtS (nms L)).map AV.str ++ [AV.str "a"]).length 0 = some 0 := by
    unfold ixN
    rw [if_pos (by decide), if_pos (by rw [List.length_append]; simp)]; rfl
  rw [put_ref h1, hix]
  refine ⟨_, rfl, ?_⟩
  dsimp only
  rw [List.set_set]
  have O2 := Oth.new (o := AO.lst (((srtS (nms L)).map AV.str ++ [AV.str "a"]).set 0 (.str "zz"))) O1 (show ah'.length ≤ n from Nat.le_of_eq hn)
  have K2 := K.oth O2 (by simp) (by simp) (by simp)
  have W2 := O.oth O2 (by simp) (by simp)
  generalize ah2.set n (AO.lst (((srtS (nms L)).map AV.str ++ [AV.str "a"]).set 0 (.str "zz"))) = ah3 at O2 K2 W2 ⊢
  rw [list_refD W2.ow, ex_some, srt_lst ln, ex_some]
  refine ⟨_, src_l, ?_⟩
  refine forV_ok' (fun r ρ ah' => ah' = ah3 ∧ (∃ ws : List Str, r = ws.map .str ∧ ∀ w ∈ ws, w ∈ srtS (nms L)) ∧ ∃ b, ρ = [some (.ref d), some (.ref f), some (.ref g), b, some (.ref n)]) _ _ _ ⟨rfl, ⟨_, rfl, fun w h => h⟩, _, rfl⟩ (fun ρ ah4 ⟨e0, _, b, e1⟩ => ?_) fun x xs ρ ah4 ⟨e0, ⟨ws, e1, e2⟩, b, e3⟩ => ?_
  · subst e0 e1
    try walk_at "ko_li_K06g"
    refine ⟨_, K2.met rfl, dk.r_Disk_names.symm, (c_names dk K2 (by omega)).imp fun r ah5 ⟨e1, e2⟩ => ?_⟩
    subst e1 e2
    try walk_at "ko_li_K06g"
    have h5 : (ah4 ++ [AO.lst ((srtS (nms L)).map .str)])[ah4.length]? = some (.lst ((srtS (nms L)).map .str)) := by simp
    have O5 := O2.trans (Oth.app (S := []) (tl := [AO.lst ((srtS (nms L)).map .str)]))
    have W5 := O.oth O5 (by simp) (by simp)
    generalize ah4.length = n5 at h5 ⊢
    generalize ah4 ++ [AO.lst ((srtS (nms L)).map .str)] = ah5 at h5 O5 W5 ⊢
    rw [list_refD W5.ow, ex_some, srt_lst ln, ex_some]
    refine ⟨.bl true, ?_, by first | rfl | trivial, O5⟩
    show (eqD ah5 _ _).map AV.bl = _
    rw [lst_eqD nch h5]; rfl
  · subst e0 e3
    match ws, e1 with
    | w :: ws, e1 =>
      rw [List.map_cons, List.cons.injEq] at e1
      obtain ⟨rfl, rfl⟩ := e1
      obtain ⟨hn, p, hp⟩ := nat w (e2 w (List.mem_cons_self ..))
      obtain ⟨⟨r1, h1⟩, r2, h2⟩ := repr_one I hN hp
      refine ⟨_, rfl, ?_⟩
      walk_at "ko_ev_K06g"
      walk_at "ko_li_K06g"
      refine ⟨_, K2.met rfl, dk.r_Disk_read.symm, (c_read dk K2 hn hp).imp fun r ah1 ⟨e1, e2'⟩ => ?_⟩
      subst e1 e2'
      refine ⟨_, K2.met rfl, dk.r_Disk_synced.symm, (c_synced dk K2 hn hp).imp fun r ah1 ⟨e1, e2'⟩ => ?_⟩
      subst e1 e2'
      refine ⟨by show 2 ≤ sizeLine; decide, _, h1 _, _, sub_refD W2.ow hp, _, h1 _, _, nes, ?_⟩
      rw [as_b, ex_some]
      walk_at "ko_bo_K06g"
      exact ⟨by first | rfl | trivial, ⟨ws, rfl, fun u hu => e2 u (List.mem_cons_of_mem _ hu)⟩, _, rfl⟩
end K06

/-! k06: names and texts drawn. -/
namespace K06
open PySem L2 Ko NumText
local macro_rules | `(tactic| walk_at "ko_ev_K06i") => `(tactic| simp only [YesS.fin, semD, den, mkE, mkT, mkX, mkS, YesS.seq, YesS.nil, YesS.ret, YesS.ifS, YesS.asg, y_c, y_v, y_f2, y_f1, y_fA, y_nil, y_cons, y_tup, y_lst, y_lstM, y_dic0, y_tF, y_bF, y_tAnd, y_tOr, y_tNot, y_not, y_and, y_or, y_if, y_call, y_kw, y_chain, y_slc, y_pN, y_pS, y_isi, y_ms, y_src, y_rng1, y_comp, y_yes, s_exp, s_par2, s_sub, s_for, y_mcall, y_new, y_dget, y_dpop, y_dicN, y_dicC, y_lstC, y_srt, y_srtM, y_app', s_putD, s_att, s_del, ops_call, ops_ar, Yes.ok, nu_isascii, nu_isprintable, nu_isalpha, nu_islower, nu_isdigit, nu_join, nu_count, nu_startswith, nu_endswith, nu_zfill, nu_stripC])
local macro_rules | `(tactic| walk_at "ko_ar_K06i") => `(tactic| simp only [ex_some, ex_ite, bin_add, bin_sub, bin_mul, bin_div, bin_mod, bin_pow, add_ii, sub_ii, mul_ii, div_ii, mod_ii, pow_ii, neg_i, cmp_eq, cmp_ne, cmp_lt, cmp_le, cmp_gt, cmp_ge, cmp_is, cmp_isn, cmp_in, cmp_nin, lt_ii, le_ii, gt_ii, ge_ii, eq_ii, ne_ii, tru_b, tru_i, as_b, int_i, abs_i, put_nm, put_tup, put_lst])
local macro_rules | `(tactic| walk_at "ko_li_K06i") => `(tactic| simp only [List.getElem?_cons_zero, List.getElem?_cons_succ, List.set_cons_succ, List.set_cons_zero, putl_nil, putl_cons, put_nm, put_tup, put_lst, Option.bind_some])
local macro_rules | `(tactic| walk_at "ko_bo_K06i") => `(tactic| simp only [Bool.not_true, Bool.not_false, if_true, if_false, Bool.false_eq_true, reduceIte, Option.isSome_none, Option.isSome_some])
theorem asc : ∀ c, c < 128 → Unicode.isPrintable c = decide (32 ≤ c ∧ c ≤ 126) := by
  have h : (List.range 128).all (fun c => decide (Unicode.isPrintable c = decide (32 ≤ c ∧ c ≤ 126))) = true := by decide +kernel
  exact fun c hc => of_decide_eq_true (List.all_eq_true.mp h c (List.mem_range.mpr hc))
theorem sg_ok {z : Str} (h : ∀ c ∈ Ls z, 32 ≤ c ∧ c ≤ 126) : Txt.isascii z = true ∧ Txt.isprintable z = true := by
  have a : ∀ p : Nat → Bool, z.cps.all p = z.cps.toList.all p := fun p => by simp
  unfold Txt.isascii Txt.isprintable
  rw [a, a]
  refine ⟨List.all_eq_true.mpr fun c hc => decide_eq_true (by have := h c hc; omega), List.all_eq_true.mpr fun c hc => ?_⟩
  rw [asc c (by have := h c hc; omega)]
  exact decide_eq_true (h c hc)
theorem np_of {z : Str} {c : Nat} (hc : c ∈ Ls z) (h : c = 10 ∨ c = 9) : sgB (.str z) = false := by
  have : Txt.isprintable z = false := by
    unfold Txt.isprintable
    rw [show ∀ p : Nat → Bool, z.cps.all p = z.cps.toList.all p from fun p => by simp]
    refine List.all_eq_false.mpr ⟨c, hc, ?_⟩
    rcases h with rfl | rfl <;> decide +kernel
  show (Txt.isascii z && Txt.isprintable z) = false
  rw [this, Bool.and_false]
theorem cut_le {z : Str} {lo hi : Option Int} : (cutS z lo hi).length ≤ z.length := by
  have e : Ls (cutS z lo hi) = ((Ls z).drop (HT.sIx z.length 0 lo)).take (HT.sIx z.length z.length hi - HT.sIx z.length 0 lo) := by unfold cutS; exact List.toList_toArray ..
  rw [len_ls, e, List.length_take, List.length_drop, ← len_ls]
  omega
/-- a sign put into a text -/
theorem ix_s {ah : AH} {z : Str} {k c : Nat} (h : (Ls z)[k]? = some c) (hl : z.length ≤ 200000) : ixF ah (.str z) (.int k) = some (.str ⟨#[c]⟩) := by
  have hk := (List.getElem?_eq_some_iff.mp h).1
  show (if z.length ≤ sizeLine then (atI (Ls z) (k : Int)).map fun c => AV.str ⟨#[c]⟩ else none) = _
  rw [if_pos (by rw [sz]; omega), atI_nat hk, Option.map_some, (List.getElem?_eq_some_iff.mp h).2]
theorem fd_word : findD ds "_law_word" = some d__law_word := by rfl
theorem fd_pool : findD ds "_law_pool" = some d__law_pool := by rfl
theorem fd_anyn : findD ds "_law_any_name" = some d__law_any_name := by rfl
theorem fd_anyt : findD ds "_law_any_text" = some d__law_any_text := by rfl
theorem val_str {z : Str} (h : ∀ c ∈ Ls z, c < 1114112) : okA (.str z) = true ∧ bkA (.str z) ≤ z.length + 10 ∧ dpA (.str z) = 0 := by
  refine ⟨?_, ?_, rfl⟩
  · simp only [okA]
    exact List.all_eq_true.mpr fun c hc => decide_eq_true (h c hc)
  · have : z.cps.size = z.length := rfl
    simp only [bkA]
    omega
/-- what may be passed as a name or a text -/
structure NamV (ah : AH) (b : Nat) (v : AV) : Prop where
  ok : VOk ah v
  ch : ∀ z, v = .str z → ∀ c ∈ Ls z, c < 1114112
  len : ∀ z, v = .str z → z.length ≤ 300
  th : Ths ah b v
theorem nam_str {ah : AH} {b : Nat} {z : Str} (h : ∀ c ∈ Ls z, c < 1114112) (l : z.length ≤ 300) : NamV ah b (.str z) :=
  ⟨⟨⟨_, rfl⟩, fun y e => by cases e; omega⟩, fun y e => by cases e; exact h, fun y e => by cases e; exact l, ⟨_, .str z, (val_str h).1, by have := (val_str h).2.1; omega, by rw [(val_str h).2.2]; decide⟩, fun m e => by cases e⟩
theorem tx_of {ah : AH} {z : Str} (h : ∀ c ∈ Ls z, mkB c = true ∨ c = 10 ∨ c = 9) (l : z.length ≤ 300) : TxV ah (.str z) := by
  have hc : ∀ c ∈ Ls z, c < 1114112 := fun c hc => by
    rcases h c hc with q | q | q
    · have := mk_print q; omega
    · omega
    · omega
  refine ⟨⟨⟨_, rfl⟩, fun y e => by cases e; omega⟩, fun y e => by cases e; exact l, fun y e => by cases e; exact hc, fun ht => ?_, fun y e ht => ?_⟩
  · by_cases h0 : z.length = 0
    · refine .inr ?_
      have : z = "" := str_ext (by
        rw [len_ls] at h0
        rw [List.eq_nil_of_length_eq_zero h0]
        decide +kernel)
      rw [this]
    · have ht : (decide (z.length ≠ 0) && (Ls z).all mkB) = false := ht
      rw [decide_eq_true h0, Bool.true_and] at ht
      obtain ⟨c, h1, h2⟩ := List.all_eq_false.mp ht
      exact .inl (np_of h1 ((h c h1).resolve_left h2))
  · cases e
    have ht : (decide (z.length ≠ 0) && (Ls z).all mkB) = true := ht
    rw [Bool.and_eq_true, decide_eq_true_eq] at ht
    obtain ⟨s1, s2⟩ := sg_ok (z := z) fun c hc => mk_print (List.all_eq_true.mp ht.2 c hc)
    refine ⟨?_, fun e => ht.1 (by rw [e]; decide +kernel)⟩
    show (Txt.isascii z && Txt.isprintable z) = true
    rw [s1, s2]; rfl
theorem tx_no {ah : AH} {v : AV} (h : VOk ah v) (ns : ∀ z, v ≠ .str z) : TxV ah v := ⟨h, fun z e => absurd e (ns z), fun z e => absurd e (ns z), fun _ => .inl (by cases v <;> first | rfl | exact absurd rfl (ns _)), fun z e => absurd e (ns z)⟩
theorem c_word {k n : Nat} {F ah : AH} {c most : Int} {letters : Str} {p : Nat → Prop} (hp : Chs p letters) (h1 : 1 ≤ letters.length) (h2 : letters.length ≤ 1000) (hm : 1 ≤ most ∧ most ≤ 100) (B : Box F ah n c) (hc : c ≤ 80000) :
    Yes (cl ds (k + 2) "_law_word" [.ref n, .str letters, .int most] ah) fun v ah' => ∃ z, v = .str z ∧ Chs p z ∧ 1 ≤ z.length ∧ (z.length : Int) ≤ most ∧ Box F ah' n (c + 1 + most) := by
  rw [cl_eq fd_word]
  simp only [d__law_word, t__law_word]
  walk_at "ko_ev_K06i"
  simp only [show startA ["box", "signs", "most", "turn"] [.ref n, .str letters, .int most] = [some (.ref n), some (.str letters), some (.int most), none] from rfl]
  walk_at "ko_li_K06i"
  refine ⟨rfl, drw.arity.symm, (take_ok drw B (by omega) hm.1 (by omega)).imp fun y ah2 ⟨j, e, j0, j1, B⟩ => ?_⟩
  subst e
  try walk_at "ko_ar_K06i"
  rw [rng_src (by omega) (by omega), ex_some]
  have hN : (rngL 0 (1 + j).toNat).length = (1 + j).toNat := rngL_length ..
  refine compV_ok (fun r acc ah => Ones p acc ∧ acc.length + r.length = (1 + j).toNat ∧ Box F ah n (c + 1 + acc.length)) _ [] ah2 ⟨.nil, by simp [hN], by simpa using B⟩ (fun acc ah ⟨o, l, B⟩ => ?_) fun x r acc ah ⟨o, l, B⟩ => ?_
  · simp only [List.length_nil, Nat.add_zero] at l
    obtain ⟨z, e, q1, q2⟩ := join_ones (ah := ah) o (by omega)
    exact ⟨_, e, z, rfl, q1, by omega, by omega, B.mono (by omega)⟩
  · refine ⟨[some (.ref n), some (.str letters), some (.int most), some x], rfl, ?_⟩
    rw [y_yes, if_pos rfl]
    rw [List.length_cons] at l
    walk_at "ko_ev_K06i"
    try walk_at "ko_li_K06i"
    rw [len_s, if_pos (by rw [sz]; omega), ex_some]
    refine ⟨drw.arity.symm, (take_ok drw B (by omega) (by omega) (by omega)).imp fun y ah3 ⟨m, e, m0, m1, B⟩ => ?_⟩
    subst e
    obtain ⟨ch, h3, h4⟩ := ix_str (F := F) (ah := ah3) (z := letters) m0 m1 h2
    exact ⟨_, h4, by rw [sz]; omega, o.snoc (hp ch h3), by rw [List.length_append, List.length_singleton]; omega, B.mono (by rw [List.length_append, List.length_singleton]; omega)⟩
def pool : List Str := ["ab", "a", "abc", "a-", "a0", "10", "9", "-", "log-0010", "log-0002", "zzzzzzzzzzzz", "b"]
theorem c_pool {k : Nat} {ah : AH} : Yes (cl ds (k + 1) "_law_pool" [] ah) fun v ah' => v = .lst (pool.map .str) ∧ ah' = ah := by
  rw [cl_eq fd_pool]
  exact ⟨rfl, rfl⟩
theorem pool_ok : ∀ z ∈ pool, (∀ c ∈ Ls z, c < 1114112) ∧ z.length ≤ 300 := by
  have h : pool.all (fun z => (Ls z).all (fun c => decide (c < 1114112)) && decide (z.length ≤ 300)) = true := by decide +kernel
  intro z hz
  have := List.all_eq_true.mp h z hz
  rw [Bool.and_eq_true, decide_eq_true_eq] at this
  exact ⟨fun c hc => of_decide_eq_true (List.all_eq_true.mp this.1 c hc), this.2⟩
theorem poolV {ah : AH} {b : Nat} {m : Int} (h0 : 0 ≤ m) (h1 : m < 12) : ∃ v, atI (pool.map AV.str) m = some v ∧ NamV ah b v := by
  obtain ⟨x, hx, e⟩ := atI_in (xs := pool.map AV.str) h0 (by show m < 12; omega)
  obtain ⟨z, hz, rfl⟩ := List.mem_map.mp hx
  exact ⟨_, e, nam_str (pool_ok z hz).1 (pool_ok z hz).2⟩
theorem strs_ne {ah : AH} {zs : List Str} (h : ∀ z ∈ zs, ∀ c ∈ Ls z, c < 1114112) : neF ah (.lst (zs.map .str)) (.lst []) = some (.bl (!decide (zs = []))) := by
  obtain ⟨e, c1, c2, c3⟩ := strs_dat zs h
  have q : datH ah (.lst (zs.map .str)) = some (.list (zs.map .str)) := dat_H (by simp only [dat, e, Option.map_some])
  have q2 : datH ah (.lst []) = some (.list []) := rfl
  have s : SeqAt.shaped (.list (zs.map .str)) = true := by
    unfold SeqAt.shaped
    simp only [PyData.canLay0, PyData.depth, c1, c2]
    rfl
  have s2 : SeqAt.shaped (.list []) = true := by decide +kernel
  show (eqD ah _ _).map (fun c => AV.bl (!c)) = _
  unfold eqD
  rw [q, q2, Option.bind_some, Option.bind_some, if_pos ⟨s, s2⟩]
  cases zs <;> simp only [List.map_nil, List.map_cons, PyData.eqv, PyData.eqvAll, Option.map_some] <;> rfl
end K06

/-! k06: names and texts drawn. -/
namespace K06
open PySem L2 Ko NumText
local macro_rules | `(tactic| walk_at "ko_ev_K06j") => `(tactic| simp only [YesS.fin, semD, den, mkE, mkT, mkX, mkS, YesS.seq, YesS.nil, YesS.ret, YesS.ifS, YesS.asg, y_c, y_v, y_f2, y_f1, y_fA, y_nil, y_cons, y_tup, y_lst, y_lstM, y_dic0, y_tF, y_bF, y_tAnd, y_tOr, y_tNot, y_not, y_and, y_or, y_if, y_call, y_kw, y_chain, y_slc, y_pN, y_pS, y_isi, y_ms, y_src, y_rng1, y_comp, y_yes, s_exp, s_par2, s_sub, s_for, y_mcall, y_new, y_dget, y_dpop, y_dicN, y_dicC, y_lstC, y_srt, y_srtM, y_app', s_putD, s_att, s_del, ops_call, ops_ar, Yes.ok, nu_isascii, nu_isprintable, nu_isalpha, nu_islower, nu_isdigit, nu_join, nu_count, nu_startswith, nu_endswith, nu_zfill, nu_stripC])
local macro_rules | `(tactic| walk_at "ko_ar_K06j") => `(tactic| simp only [ex_some, ex_ite, bin_add, bin_sub, bin_mul, bin_div, bin_mod, bin_pow, add_ii, sub_ii, mul_ii, div_ii, mod_ii, pow_ii, neg_i, cmp_eq, cmp_ne, cmp_lt, cmp_le, cmp_gt, cmp_ge, cmp_is, cmp_isn, cmp_in, cmp_nin, lt_ii, le_ii, gt_ii, ge_ii, eq_ii, ne_ii, tru_b, tru_i, as_b, int_i, abs_i, put_nm, put_tup, put_lst])
local macro_rules | `(tactic| walk_at "ko_li_K06j") => `(tactic| simp only [List.getElem?_cons_zero, List.getElem?_cons_succ, List.set_cons_succ, List.set_cons_zero, putl_nil, putl_cons, put_nm, put_tup, put_lst, Option.bind_some])
local macro_rules | `(tactic| walk_at "ko_bo_K06j") => `(tactic| simp only [Bool.not_true, Bool.not_false, if_true, if_false, Bool.false_eq_true, reduceIte, Option.isSome_none, Option.isSome_some])
theorem ls_one (c : Nat) : Ls (⟨#[c]⟩ : Str) = [c] := rfl
theorem cutS_mem {z : Str} {lo hi : Option Int} {c : Nat} (h : c ∈ Ls (cutS z lo hi)) : c ∈ Ls z := by
  rw [show Ls (cutS z lo hi) = ((Ls z).drop (HT.sIx z.length 0 lo)).take (HT.sIx z.length z.length hi - HT.sIx z.length 0 lo) by unfold cutS; exact List.toList_toArray ..] at h
  exact List.mem_of_mem_drop (List.mem_of_mem_take h)
theorem thg_lst {ah : AH} {b m : Nat} {xs : List AV} (h : ah[m]? = some (.lst xs)) (o1 : okL xs = true) (o2 : bkL xs ≤ 1000) (o3 : dpL xs ≤ 3) (hb : b ≤ m) : NamV ah b (.ref m) :=
  ⟨⟨⟨_, ty_refL h⟩, fun z e => by cases e⟩, fun z e => (by cases e), fun z e => (by cases e), ⟨_, .lst h, by simpa only [okA] using o1, by simp only [bkA]; omega, by simp only [dpA]; omega⟩, fun k e => by cases e; exact hb⟩
theorem thg_dct {ah : AH} {b m : Nat} {xs : List (Key × AV)} (h : ah[m]? = some (.dct xs)) (o1 : okK xs = true) (o2 : bkK xs ≤ 1000) (o3 : dpK xs ≤ 3) (hb : b ≤ m) : NamV ah b (.ref m) :=
  ⟨⟨⟨_, ty_refD h⟩, fun z e => by cases e⟩, fun z e => (by cases e), fun z e => (by cases e), ⟨_, .dct h, by simpa only [okA] using o1, by simp only [bkA]; omega, by simp only [dpA]; omega⟩, fun k e => by cases e; exact hb⟩
theorem nam_flat {ah : AH} {b : Nat} {v : AV} (h : v = .non ∨ v = .int 0 ∨ v = .int 7 ∨ v = .bl true ∨ v = .tup [.str "a"] ∨ v = .tup [.str "a", .str "b"]) : NamV ah b v := by
  rcases h with rfl | rfl | rfl | rfl | rfl | rfl
  · exact ⟨⟨⟨_, rfl⟩, fun z e => by cases e⟩, fun z e => (by cases e), fun z e => (by cases e), ⟨_, .non, by decide +kernel, by decide +kernel, by decide +kernel⟩, fun m e => by cases e⟩
  · exact ⟨⟨⟨_, rfl⟩, fun z e => by cases e⟩, fun z e => (by cases e), fun z e => (by cases e), ⟨_, .int _, by decide +kernel, by decide +kernel, by decide +kernel⟩, fun m e => by cases e⟩
  · exact ⟨⟨⟨_, rfl⟩, fun z e => by cases e⟩, fun z e => (by cases e), fun z e => (by cases e), ⟨_, .int _, by decide +kernel, by decide +kernel, by decide +kernel⟩, fun m e => by cases e⟩
  · exact ⟨⟨⟨_, rfl⟩, fun z e => by cases e⟩, fun z e => (by cases e), fun z e => (by cases e), ⟨_, .bl _, by decide +kernel, by decide +kernel, by decide +kernel⟩, fun m e => by cases e⟩
  · exact ⟨⟨⟨_, rfl⟩, fun z e => by cases e⟩, fun z e => (by cases e), fun z e => (by cases e), ⟨_, .tup _, by decide +kernel, by decide +kernel, by decide +kernel⟩, fun m e => by cases e⟩
  · exact ⟨⟨⟨_, rfl⟩, fun z e => by cases e⟩, fun z e => (by cases e), fun z e => (by cases e), ⟨_, .tup _, by decide +kernel, by decide +kernel, by decide +kernel⟩, fun m e => by cases e⟩
def an1 : T := match t__law_any_name with | .cons a _ => a | t => t
def an2 : T := match t__law_any_name with | .cons _ (.cons a _) => a | t => t
def an3 : T := match t__law_any_name with | .cons _ (.cons _ a) => a | t => t
theorem an_split : t__law_any_name = .cons an1 (.cons an2 an3) := rfl
theorem sg37 : Chs (fun c => c < 128) "abcdefghijklmnopqrstuvwxyz0123456789-" := by
  have h : (Ls "abcdefghijklmnopqrstuvwxyz0123456789-").all (fun c => decide (c < 128)) = true := by decide +kernel
  exact fun c hc => of_decide_eq_true (List.all_eq_true.mp h c hc)
/-- what is drawn -/
def Drn (ah : AH) (n : Nat) (c : Int) (v : AV) (ah' : AH) : Prop := NamV ah' ah.length v ∧ Box ah' ah' n (c + 60) ∧ Oth [n] ah ah'
theorem drn_str {ah ah' : AH} {n : Nat} {c c' : Int} {z : Str} (hn : n < ah.length) (h1 : ∀ c ∈ Ls z, c < 1114112) (h2 : z.length ≤ 300) (B : Box ah ah' n c') (h3 : c' ≤ c + 60) : Drn ah n c (.str z) ah' := ⟨nam_str h1 h2, B.here.mono h3, Oth.ofBox B hn⟩
theorem any_tail {k n f : Nat} {ah ah2 : AH} {c way : Int} {kn : AV} (hn : n < ah.length) (B : Box ah ah2 n (c + 1)) (hc : c ≤ 60000) (j0 : 0 ≤ way) (j1 : way < 10) : YesS ((den (ops ds (k + 2)) an3).x [some (.ref n), some (.ref f), some (.int way), some kn, none, none] ah2) (fun _ _ => False) (fun v ah' => Drn ah n c v ah') := by
  have w1 : ∀ z : Str, Chs (fun c => c < 128) z → ∀ c ∈ Ls z, c < 1114112 := fun z h c hc => Nat.lt_trans (h c hc) (by decide)
  have l37 : ("abcdefghijklmnopqrstuvwxyz0123456789-" : Str).length = 37 := by decide +kernel
  simp only [an3, t__law_any_name]
  walk_at "ko_ev_K06j"
  try walk_at "ko_li_K06j"
  try walk_at "ko_ar_K06j"
  by_cases g1 : way < 7
  · rw [decide_eq_true g1]
    walk_at "ko_bo_K06j"
    try walk_at "ko_ev_K06j"
    try walk_at "ko_li_K06j"
    refine ⟨rfl, c_pool.imp fun v ah3 ⟨e1, e2⟩ => ?_⟩
    subst e1 e2
    refine ⟨drw.arity.symm, (take_ok drw B (by omega) (by decide) (by decide)).imp fun y ah4 ⟨m, e, m0, m1, B⟩ => ?_⟩
    subst e
    obtain ⟨v, e, V⟩ := poolV (ah := ah4) (b := ah.length) m0 m1
    exact ⟨v, e, V, B.here.mono (by omega), Oth.ofBox B hn⟩
  rw [decide_eq_false g1]
  walk_at "ko_bo_K06j"
  try walk_at "ko_ev_K06j"
  try walk_at "ko_li_K06j"
  try walk_at "ko_ar_K06j"
  by_cases g2 : way = 7
  · rw [decide_eq_true g2]
    walk_at "ko_bo_K06j"
    try walk_at "ko_ev_K06j"
    try walk_at "ko_li_K06j"
    refine ⟨rfl, c_lsig.imp fun v ah3 ⟨e1, e2⟩ => ?_⟩
    subst e1 e2
    refine ⟨rfl, (c_word sg37 (by rw [l37]; decide) (by rw [l37]; decide) (by decide) B (by omega)).imp fun v ah4 ⟨z, e, z1, z2, z3, B⟩ => ?_⟩
    subst e
    exact drn_str hn (w1 z z1) (by omega) B (by omega)
  rw [decide_eq_false g2]
  walk_at "ko_bo_K06j"
  try walk_at "ko_ev_K06j"
  try walk_at "ko_li_K06j"
  refine ⟨rfl, c_lsig.imp fun v ah3 ⟨e1, e2⟩ => ?_⟩
  subst e1 e2
  refine ⟨rfl, (c_word sg37 (by rw [l37]; decide) (by rw [l37]; decide) (by decide) B (by omega)).imp fun v ah4 ⟨z, e, z1, z2, z3, B⟩ => ?_⟩
  subst e
  try walk_at "ko_li_K06j"
  rw [len_s, if_pos (by rw [sz]; omega), ex_some]
  try walk_at "ko_ar_K06j"
  refine ⟨drw.arity.symm, (take_ok drw B (by omega) (by omega) (by omega)).imp fun y ah5 ⟨s, e, s0, s1, B⟩ => ?_⟩
  subst e
  try walk_at "ko_li_K06j"
  try walk_at "ko_ar_K06j"
  by_cases g3 : way = 8
  · rw [decide_eq_true g3]
    walk_at "ko_bo_K06j"
    try walk_at "ko_ev_K06j"
    try walk_at "ko_li_K06j"
    refine ⟨s, rfl, ?_⟩
    rw [slc_s, if_pos (by rw [sz]; omega), ex_some]
    refine ⟨drw.arity.symm, (take_ok drw B (by omega) (by decide) (by decide)).imp fun y ah6 ⟨m, e, m0, m1, B⟩ => ?_⟩
    subst e
    obtain ⟨ch, h3, h4⟩ := ix_str (F := ah) (ah := ah6) (z := "A_ .\n/~:\t") m0 m1 (by decide +kernel)
    have hch : ch < 128 := by
      have h : (Ls "A_ .\n/~:\t").all (fun c => decide (c < 128)) = true := by decide +kernel
      exact of_decide_eq_true (List.all_eq_true.mp h ch h3)
    have e1 : (⟨#[ch]⟩ : Str).length = 1 := rfl
    have q1 := cut_le (z := z) (lo := none) (hi := some s)
    have q2 := cut_le (z := z) (lo := some s) (hi := none)
    rw [h4, ex_some, add_ss, if_pos (by rw [e1, sz]; omega), ex_some]
    refine ⟨s, rfl, ?_⟩
    rw [slc_s, if_pos (by rw [sz]; omega), ex_some, add_ss, if_pos (by rw [Str.length_append, e1, sz]; omega), ex_some]
    refine drn_str hn (fun c hc => ?_) (by rw [Str.length_append, Str.length_append, e1]; omega) B (by omega)
    rw [ls_app, ls_app, List.mem_append, List.mem_append] at hc
    rcases hc with (hc | hc) | hc
    · exact w1 z z1 c (cutS_mem hc)
    · rw [ls_one, List.mem_singleton] at hc; omega
    · exact w1 z z1 c (cutS_mem hc)
  rw [decide_eq_false g3]
  walk_at "ko_bo_K06j"
  try walk_at "ko_ev_K06j"
  try walk_at "ko_li_K06j"
  refine ⟨by show 1 ≤ sizeLine; decide, by show 1 ≤ sizeLine; decide, by show 2 ≤ sizeLine; decide, by show 1 ≤ sizeLine; decide, [(.inr "a", .int 1)], rfl, by show 10 ≤ sizeLine; decide, drw.arity.symm, ?_⟩
  have O5 := Oth.ofBox B hn
  have p1 : (ah5 ++ [AO.lst [.str "a"]] ++ [AO.dct [(.inr "a", .int 1)]])[ah5.length]? = some (.lst [.str "a"]) := by
    rw [List.getElem?_append_left (by simp)]; simp
  have p2 : (ah5 ++ [AO.lst [.str "a"]] ++ [AO.dct [(.inr "a", .int 1)]])[(ah5 ++ [AO.lst [.str "a"]]).length]? = some (.dct [(.inr "a", .int 1)]) := by simp
  have O6 := (O5.trans (Oth.app (S := [n]) (tl := [AO.lst [.str "a"]]))).trans (Oth.app (S := [n]) (tl := [AO.dct [(.inr "a", .int 1)]]))
  have B6 := (B.here.app (tl := [AO.lst [.str "a"]])).app (tl := [AO.dct [(.inr "a", .int 1)]])
  have b1 : ah.length ≤ ah5.length := O5.len
  have b2 : ah.length ≤ (ah5 ++ [AO.lst [AV.str "a"]]).length := by rw [List.length_append]; omega
  generalize ah5.length = m1 at p1 b1 ⊢
  generalize (ah5 ++ [AO.lst [AV.str "a"]]).length = m2 at p2 b2 ⊢
  generalize ah5 ++ [AO.lst [AV.str "a"]] ++ [AO.dct [(.inr "a", .int 1)]] = ah6 at p1 p2 O6 B6 ⊢
  have hn6 := B6.lt
  refine (take_ok drw B6 (by omega) (by decide) (by decide)).imp fun y ah7 ⟨m, e, m0, m1', B⟩ => ?_
  subst e
  have O7 := O6.trans (Oth.ofBox B hn6)
  have p1 := B.keeps (by omega) p1
  have p2 := B.keeps (by omega) p2
  obtain ⟨x, hx, e⟩ := atI_in (xs := [.str "", .str "abcdefghijkl0", .non, .int 7, .bl true, .ref m1, .tup [.str "a"], .ref m2, .int 0, AV.str "Log-0001"]) m0 (by show m < 10; omega)
  refine ⟨x, e, ?_, B.here.mono (by omega), O7⟩
  simp only [List.mem_cons, List.not_mem_nil, or_false] at hx
  have st : ∀ z : Str, (Ls z).all (fun c => decide (c < 1114112)) = true → z.length ≤ 300 → NamV ah7 ah.length (.str z) := fun z h l => nam_str (fun c hc => of_decide_eq_true (List.all_eq_true.mp h c hc)) l
  rcases hx with rfl | rfl | rfl | rfl | rfl | rfl | rfl | rfl | rfl | rfl
  · exact st _ (by decide +kernel) (by decide +kernel)
  · exact st _ (by decide +kernel) (by decide +kernel)
  · exact nam_flat (by simp)
  · exact nam_flat (by simp)
  · exact nam_flat (by simp)
  · exact thg_lst p1 (by decide +kernel) (by decide +kernel) (by decide +kernel) b1
  · exact nam_flat (by simp)
  · exact thg_dct p2 (by decide +kernel) (by decide +kernel) (by decide +kernel) b2
  · exact nam_flat (by simp)
  · exact st _ (by decide +kernel) (by decide +kernel)
theorem c_anyn {k n f N : Nat} {ah : AH} {c : Int} {L : List Ent} (B : Box ah ah n c) (hc : c ≤ 60000) (hf : ah[f]? = some (.dct (dcE gO L))) (fn : f ≠ n) (I : LInv L N) (hN : N ≤ 30) :
    Yes (cl ds (k + 3) "_law_any_name" [.ref n, .ref f] ah) fun v ah' => Drn ah n c v ah' := by
  have ln : (nms L).length < 64 := by have := I.ok.len; unfold nms; rw [List.length_map]; omega
  have ns : ∀ z ∈ srtS (nms L), (∀ c ∈ Ls z, c < 1114112) ∧ z.length ≤ 12 := fun z hz => by
    have := (srtS_perm (nms L)).mem_iff.mp hz
    obtain ⟨e, h1, rfl⟩ := List.mem_map.mp this
    exact nm_ch (I.nm e h1)
  have hn := B.lt
  rw [cl_eq fd_anyn]
  simp only [semD, d__law_any_name]
  rw [YesS.fin, show startA ["box", "files", "way", "known", "good", "spot"] [.ref n, .ref f] = [some (.ref n), some (.ref f), none, none, none, none] from rfl, an_split, den_cons, YesS.seq]
  simp only [an1, t__law_any_name]
  walk_at "ko_ev_K06j"
  try walk_at "ko_li_K06j"
  refine ⟨drw.arity.symm, (take_ok drw B (by omega) (by decide) (by decide)).imp fun y ah2 ⟨way, e, j0, j1, B⟩ => ?_⟩
  subst e
  have hf2 := B.keeps fn hf
  rw [list_refD hf2, ex_some, srt_lst ln, ex_some]
  try walk_at "ko_li_K06j"
  refine YesS.imp (N := fun ρ ah' => ah' = ah2 ∧ ρ = [some (.ref n), some (.ref f), some (.int way), some (.lst ((srtS (nms L)).map .str)), none, none]) (R := fun v ah' => Drn ah n c v ah') ?_ (fun ρ ah' ⟨e0, e1⟩ => by subst e0 e1; exact (any_tail hn B hc j0 j1).imp (fun _ _ h => h.elim) fun _ _ h => h) (fun _ _ h => h)
  simp only [an2, t__law_any_name]
  walk_at "ko_ev_K06j"
  try walk_at "ko_li_K06j"
  try walk_at "ko_ar_K06j"
  by_cases g1 : way < 4
  · rw [decide_eq_true g1]
    walk_at "ko_bo_K06j"
    refine ⟨by show 0 ≤ sizeLine; decide, ?_⟩
    try rw [cmp_ne]
    rw [strs_ne fun z hz => (ns z hz).1, ex_some, as_b, ex_some]
    by_cases g2 : srtS (nms L) = []
    · rw [decide_eq_true g2]
      walk_at "ko_bo_K06j"
      exact ⟨by first | rfl | trivial, by first | rfl | trivial⟩
    · rw [decide_eq_false g2]
      walk_at "ko_bo_K06j"
      try walk_at "ko_ev_K06j"
      try walk_at "ko_li_K06j"
      have hl : (srtS (nms L)).length = (nms L).length := (srtS_perm (nms L)).length_eq
      have h1 : 1 ≤ (srtS (nms L)).length := by
        cases q : srtS (nms L) with
        | nil => exact absurd q g2
        | cons _ _ => simp
      rw [len_l, ex_some, List.length_map]
      refine ⟨drw.arity.symm, (take_ok drw B (by omega) (by omega) (by omega)).imp fun y ah4 ⟨m, e, m0, m1, B⟩ => ?_⟩
      subst e
      obtain ⟨x, hx, e⟩ := atI_in (xs := (srtS (nms L)).map AV.str) m0 (by rw [List.length_map]; exact m1)
      obtain ⟨z, hz, rfl⟩ := List.mem_map.mp hx
      exact ⟨_, e, drn_str hn (ns z hz).1 (by have := (ns z hz).2; omega) B (by omega)⟩
  · rw [decide_eq_false g1]
    walk_at "ko_bo_K06j"
    exact ⟨by first | rfl | trivial, by first | rfl | trivial⟩
end K06

/-! k06: texts drawn. -/
namespace K06
open PySem L2 Ko NumText
local macro_rules | `(tactic| walk_at "ko_ev_K06k") => `(tactic| simp only [YesS.fin, semD, den, mkE, mkT, mkX, mkS, YesS.seq, YesS.nil, YesS.ret, YesS.ifS, YesS.asg, y_c, y_v, y_f2, y_f1, y_fA, y_nil, y_cons, y_tup, y_lst, y_lstM, y_dic0, y_tF, y_bF, y_tAnd, y_tOr, y_tNot, y_not, y_and, y_or, y_if, y_call, y_kw, y_chain, y_slc, y_pN, y_pS, y_isi, y_ms, y_src, y_rng1, y_comp, y_yes, s_exp, s_par2, s_sub, s_for, y_mcall, y_new, y_dget, y_dpop, y_dicN, y_dicC, y_lstC, y_srt, y_srtM, y_app', s_putD, s_att, s_del, ops_call, ops_ar, Yes.ok, nu_isascii, nu_isprintable, nu_isalpha, nu_islower, nu_isdigit, nu_join, nu_count, nu_startswith, nu_endswith, nu_zfill, nu_stripC])
local macro_rules | `(tactic| walk_at "ko_ar_K06k") => `(tactic| simp only [ex_some, ex_ite, bin_add, bin_sub, bin_mul, bin_div, bin_mod, bin_pow, add_ii, sub_ii, mul_ii, div_ii, mod_ii, pow_ii, neg_i, cmp_eq, cmp_ne, cmp_lt, cmp_le, cmp_gt, cmp_ge, cmp_is, cmp_isn, cmp_in, cmp_nin, lt_ii, le_ii, gt_ii, ge_ii, eq_ii, ne_ii, tru_b, tru_i, as_b, int_i, abs_i, put_nm, put_tup, put_lst])
local macro_rules | `(tactic| walk_at "ko_li_K06k") => `(tactic| simp only [List.getElem?_cons_zero, List.getElem?_cons_succ, List.set_cons_succ, List.set_cons_zero, putl_nil, putl_cons, put_nm, put_tup, put_lst, Option.bind_some])
local macro_rules | `(tactic| walk_at "ko_bo_K06k") => `(tactic| simp only [Bool.not_true, Bool.not_false, if_true, if_false, Bool.false_eq_true, reduceIte, Option.isSome_none, Option.isSome_some])
theorem mk_ch {z : Str} (h : Chs (fun c => mkB c = true) z) : ∀ c ∈ Ls z, c < 1114112 := fun c hc => by
  have := mk_print (h c hc)
  omega
theorem marks_ok : Chs (fun c => mkB c = true) marks := fun c hc => decide_eq_true hc
theorem marks_len : 1 ≤ marks.length ∧ marks.length ≤ 1000 := by decide +kernel
theorem mk_x : mkB 120 = true := by decide +kernel
theorem cut_sum {z : Str} {s : Int} (h : 0 ≤ s) : (cutS z none (some s)).length + (cutS z (some s) none).length ≤ z.length := by
  have e : ∀ lo hi, (cutS z lo hi).length = (((Ls z).drop (HT.sIx z.length 0 lo)).take (HT.sIx z.length z.length hi - HT.sIx z.length 0 lo)).length := fun lo hi => by
    rw [len_ls, show Ls (cutS z lo hi) = ((Ls z).drop (HT.sIx z.length 0 lo)).take (HT.sIx z.length z.length hi - HT.sIx z.length 0 lo) by unfold cutS; exact List.toList_toArray ..]
  have i1 : ∀ d, HT.sIx z.length d (some s) = min s.toNat z.length := fun d => by
    show (if s < 0 then _ else min s.toNat z.length) = _
    rw [if_neg (by omega)]
  have i2 : HT.sIx z.length z.length none = z.length := rfl
  have i3 : HT.sIx z.length 0 none = 0 := rfl
  rw [e, e, i1, i1, i2, i3]
  simp only [List.length_take, List.length_drop, ← len_ls]
  omega
theorem c_anyt {k n : Nat} {ah : AH} {c : Int} (B : Box ah ah n c) (hc : c ≤ 60000) :
    Yes (cl ds (k + 4) "_law_any_text" [.ref n] ah) fun v ah' => TxV ah' v ∧ Drn ah n c v ah' := by
  have hn := B.lt
  rw [cl_eq fd_anyt]
  simp only [d__law_any_text, t__law_any_text]
  walk_at "ko_ev_K06k"
  simp only [show startA ["box", "way", "good", "spot"] [.ref n] = [some (.ref n), none, none, none] from rfl]
  walk_at "ko_li_K06k"
  refine ⟨drw.arity.symm, (take_ok drw B (by omega) (by decide) (by decide)).imp fun y ah2 ⟨way, e, j0, j1, B⟩ => ?_⟩
  subst e
  refine ⟨rfl, c_marks.imp fun v ah3 ⟨e1, e2⟩ => ?_⟩
  subst e1 e2
  refine ⟨rfl, (c_word marks_ok marks_len.1 marks_len.2 (by decide) B (by omega)).imp fun v ah4 ⟨z, e, z1, z2, z3, B⟩ => ?_⟩
  subst e
  try walk_at "ko_li_K06k"
  try walk_at "ko_ar_K06k"
  by_cases g0 : way = 0
  · rw [decide_eq_true g0]
    walk_at "ko_bo_K06k"
    try walk_at "ko_ev_K06k"
    try walk_at "ko_li_K06k"
    refine ⟨by show 1 ≤ sizeLine; decide, by show 2 ≤ sizeLine; decide, by show 0 ≤ sizeLine; decide, [], rfl, by show 7 ≤ sizeLine; decide, drw.arity.symm, ?_⟩
    have O5 := Oth.ofBox B hn
    have p1 : (ah4 ++ [AO.lst [.str "ab"]] ++ [AO.dct []])[ah4.length]? = some (.lst [.str "ab"]) := by
      rw [List.getElem?_append_left (by simp)]; simp
    have p2 : (ah4 ++ [AO.lst [.str "ab"]] ++ [AO.dct []])[(ah4 ++ [AO.lst [.str "ab"]]).length]? = some (.dct []) := by simp
    have O6 := (O5.trans (Oth.app (S := [n]) (tl := [AO.lst [.str "ab"]]))).trans (Oth.app (S := [n]) (tl := [AO.dct []]))
    have B6 := (B.here.app (tl := [AO.lst [.str "ab"]])).app (tl := [AO.dct []])
    have b1 : ah.length ≤ ah4.length := O5.len
    have b2 : ah.length ≤ (ah4 ++ [AO.lst [AV.str "ab"]]).length := by rw [List.length_append]; omega
    generalize ah4.length = m1 at p1 b1 ⊢
    generalize (ah4 ++ [AO.lst [AV.str "ab"]]).length = m2 at p2 b2 ⊢
    generalize ah4 ++ [AO.lst [AV.str "ab"]] ++ [AO.dct []] = ah6 at p1 p2 O6 B6 ⊢
    have hn6 := B6.lt
    refine (take_ok drw B6 (by omega) (by decide) (by decide)).imp fun y ah7 ⟨m, e, m0, m1', B⟩ => ?_
    subst e
    have O7 := O6.trans (Oth.ofBox B hn6)
    have p1 := B.keeps (by omega) p1
    have p2 := B.keeps (by omega) p2
    obtain ⟨x, hx, e⟩ := atI_in (xs := [AV.str "", .non, .int 0, .ref m1, .tup [.str "a", .str "b"], .bl true, .ref m2]) m0 (by show m < 7; omega)
    have key : TxV ah7 x ∧ NamV ah7 ah.length x := by
      simp only [List.mem_cons, List.not_mem_nil, or_false] at hx
      rcases hx with rfl | rfl | rfl | rfl | rfl | rfl | rfl
      · have e0 : Ls ("" : Str) = [] := by decide +kernel
        exact ⟨tx_of (fun c hc => by rw [e0] at hc; cases hc) (by decide +kernel), nam_str (fun c hc => by rw [e0] at hc; cases hc) (by decide +kernel)⟩
      · have V : NamV ah7 ah.length .non := nam_flat (by simp)
        exact ⟨tx_no V.ok fun z => by simp, V⟩
      · have V : NamV ah7 ah.length (.int 0) := nam_flat (by simp)
        exact ⟨tx_no V.ok fun z => by simp, V⟩
      · have V : NamV ah7 ah.length (.ref m1) := thg_lst p1 (by decide +kernel) (by decide +kernel) (by decide +kernel) b1
        exact ⟨tx_no V.ok fun z => by simp, V⟩
      · have V : NamV ah7 ah.length (.tup [.str "a", .str "b"]) := nam_flat (by simp)
        exact ⟨tx_no V.ok fun z => by simp, V⟩
      · have V : NamV ah7 ah.length (.bl true) := nam_flat (by simp)
        exact ⟨tx_no V.ok fun z => by simp, V⟩
      · have V : NamV ah7 ah.length (.ref m2) := thg_dct p2 (by decide +kernel) (by decide +kernel) (by decide +kernel) b2
        exact ⟨tx_no V.ok fun z => by simp, V⟩
    exact ⟨x, e, key.1, key.2, B.here.mono (by omega), O7⟩
  rw [decide_eq_false g0]
  walk_at "ko_bo_K06k"
  try walk_at "ko_ev_K06k"
  try walk_at "ko_li_K06k"
  try walk_at "ko_ar_K06k"
  by_cases g1 : way = 1
  · rw [decide_eq_true g1]
    walk_at "ko_bo_K06k"
    try walk_at "ko_ev_K06k"
    try walk_at "ko_li_K06k"
    refine ⟨by show 3 ≤ sizeLine; decide, drw.arity.symm, (take_ok drw B (by omega) (by decide) (by decide)).imp fun y ah5 ⟨m, e, m0, m1, B⟩ => ?_⟩
    subst e
    obtain ⟨x, hx, e⟩ := atI_in (xs := [AV.int 0, .int 0, .int 150]) m0 (by show m < 3; omega)
    have hj : ∃ j : Int, x = .int j ∧ 0 ≤ j ∧ j ≤ 150 := by
      simp only [List.mem_cons, List.not_mem_nil, or_false] at hx
      rcases hx with rfl | rfl | rfl
      · exact ⟨_, rfl, by decide, by decide⟩
      · exact ⟨_, rfl, by decide, by decide⟩
      · exact ⟨_, rfl, by decide, by decide⟩
    obtain ⟨j, rfl, q0, q1⟩ := hj
    refine ⟨_, e, ?_⟩
    have lx : ("x" : Str).length = 1 := by decide +kernel
    have ml : (Txt.mul "x" j).length ≤ 150 := by
      have := PyProof.Rows.len_mul "x" j
      rw [lx, if_neg (by simpa using q0)] at this
      omega
    have mc : Chs (fun c => mkB c = true) (Txt.mul "x" j) := chs_mul (fun c hc => by
      rw [show ("x" : Str).cps.toList = [120] from by decide +kernel] at hc
      rw [List.mem_singleton.mp hc]; exact mk_x)
    rw [mul_s, if_pos ⟨q0, by rw [lx, sz]; omega, by omega⟩, ex_some, add_ss, if_pos (by rw [sz]; omega), ex_some]
    have gc : Chs (fun c => mkB c = true) (Txt.mul "x" j ++ z) := fun c hc => by
      have hc : c ∈ Ls (Txt.mul "x" j ++ z) := hc
      rw [ls_app, List.mem_append] at hc
      rcases hc with hc | hc
      · exact mc c hc
      · exact z1 c hc
    have gl : (Txt.mul "x" j ++ z).length ≤ 174 := by rw [Str.length_append]; omega
    generalize Txt.mul "x" j ++ z = y at gc gl ⊢
    try walk_at "ko_li_K06k"
    rw [len_s, if_pos (by rw [sz]; omega), ex_some]
    try walk_at "ko_ar_K06k"
    refine ⟨drw.arity.symm, (take_ok drw B (by omega) (by omega) (by omega)).imp fun _ ah6 ⟨s, e, s0, s1, B⟩ => ?_⟩
    subst e
    try walk_at "ko_li_K06k"
    refine ⟨s, rfl, ?_⟩
    rw [slc_s, if_pos (by rw [sz]; omega), ex_some]
    refine ⟨drw.arity.symm, (take_ok drw B (by omega) (by decide) (by decide)).imp fun _ ah7 ⟨m', e, m0', m1', B⟩ => ?_⟩
    subst e
    have hm : ∃ u : Nat, (u = 10 ∨ u = 9) ∧ ixF ah7 (.str "\n\t") (.int m') = some (.str ⟨#[u]⟩) := by
      rcases (by omega : m' = 0 ∨ m' = 1) with rfl | rfl
      · exact ⟨10, .inl rfl, ix_s (k := 0) (by decide +kernel) (by decide +kernel)⟩
      · exact ⟨9, .inr rfl, ix_s (k := 1) (by decide +kernel) (by decide +kernel)⟩
    obtain ⟨u, hu, eu⟩ := hm
    have e1 : (⟨#[u]⟩ : Str).length = 1 := rfl
    have q1 := cut_le (z := y) (lo := none) (hi := some s)
    have q2 := cut_le (z := y) (lo := some s) (hi := none)
    rw [eu, ex_some, add_ss, if_pos (by rw [e1, sz]; omega), ex_some]
    refine ⟨s, rfl, ?_⟩
    rw [slc_s, if_pos (by rw [sz]; omega), ex_some, add_ss, if_pos (by rw [Str.length_append, e1, sz]; omega), ex_some]
    have hall : ∀ c ∈ Ls (cutS y none (some s) ++ ⟨#[u]⟩ ++ cutS y (some s) none), mkB c = true ∨ c = 10 ∨ c = 9 := fun c hc => by
      rw [ls_app, ls_app, List.mem_append, List.mem_append] at hc
      rcases hc with (hc | hc) | hc
      · exact .inl (gc c (cutS_mem hc))
      · rw [ls_one, List.mem_singleton] at hc; subst hc; exact .inr hu
      · exact .inl (gc c (cutS_mem hc))
    have q3 := cut_sum (z := y) s0
    have hlen : (cutS y none (some s) ++ ⟨#[u]⟩ ++ cutS y (some s) none).length ≤ 300 := by rw [Str.length_append, Str.length_append, e1]; omega
    refine ⟨tx_of hall hlen, drn_str hn (fun c hc => ?_) hlen B (by omega)⟩
    rcases hall c hc with q | q | q
    · have := mk_print q; omega
    · omega
    · omega
  rw [decide_eq_false g1]
  walk_at "ko_bo_K06k"
  try walk_at "ko_ev_K06k"
  try walk_at "ko_li_K06k"
  exact ⟨tx_of (fun c hc => .inl (z1 c hc)) (by omega), drn_str hn (mk_ch z1) (by omega) B (by omega)⟩
end K06

/-! k06: one step. -/
namespace K06
open PySem L2 Ko NumText
local macro_rules | `(tactic| walk_at "ko_ev_K06l") => `(tactic| simp only [YesS.fin, semD, den, mkE, mkT, mkX, mkS, YesS.seq, YesS.nil, YesS.ret, YesS.ifS, YesS.asg, y_c, y_v, y_f2, y_f1, y_fA, y_nil, y_cons, y_tup, y_lst, y_lstM, y_dic0, y_tF, y_bF, y_tAnd, y_tOr, y_tNot, y_not, y_and, y_or, y_if, y_call, y_kw, y_chain, y_slc, y_pN, y_pS, y_isi, y_ms, y_src, y_rng1, y_comp, y_yes, s_exp, s_par2, s_sub, s_for, y_mcall, y_new, y_dget, y_dpop, y_dicN, y_dicC, y_lstC, y_srt, y_srtM, y_app', s_putD, s_att, s_del, ops_call, ops_ar, Yes.ok, nu_isascii, nu_isprintable, nu_isalpha, nu_islower, nu_isdigit, nu_join, nu_count, nu_startswith, nu_endswith, nu_zfill, nu_stripC])
local macro_rules | `(tactic| walk_at "ko_ar_K06l") => `(tactic| simp only [ex_some, ex_ite, bin_add, bin_sub, bin_mul, bin_div, bin_mod, bin_pow, add_ii, sub_ii, mul_ii, div_ii, mod_ii, pow_ii, neg_i, cmp_eq, cmp_ne, cmp_lt, cmp_le, cmp_gt, cmp_ge, cmp_is, cmp_isn, cmp_in, cmp_nin, lt_ii, le_ii, gt_ii, ge_ii, eq_ii, ne_ii, tru_b, tru_i, as_b, int_i, abs_i, put_nm, put_tup, put_lst])
local macro_rules | `(tactic| walk_at "ko_li_K06l") => `(tactic| simp only [List.getElem?_cons_zero, List.getElem?_cons_succ, List.set_cons_succ, List.set_cons_zero, putl_nil, putl_cons, put_nm, put_tup, put_lst, Option.bind_some])
local macro_rules | `(tactic| walk_at "ko_bo_K06l") => `(tactic| simp only [Bool.not_true, Bool.not_false, if_true, if_false, Bool.false_eq_true, reduceIte, Option.isSome_none, Option.isSome_some])
theorem Thg.oth {ah ah' : AH} {b : Nat} {v v0 : AV} {S : List Nat} (h : Thg ah v v0) (lo : ∀ m, v = .ref m → b ≤ m) (O : Oth S ah ah') (hS : ∀ s ∈ S, s < b) : Thg ah' v v0 := by
  have nin : ∀ m, b ≤ m → m ∉ S := fun m hm q => by have := hS m q; omega
  cases h with
  | lst e => exact .lst (O.at e (nin _ (lo _ rfl)))
  | dct e => exact .dct (O.at e (nin _ (lo _ rfl)))
  | non => exact .non
  | bl b => exact .bl b
  | int i => exact .int i
  | str z => exact .str z
  | tup xs => exact .tup xs
theorem Ths.oth {ah ah' : AH} {b : Nat} {v : AV} {S : List Nat} (h : Ths ah b v) (O : Oth S ah ah') (hS : ∀ s ∈ S, s < b) : Ths ah' b v := by
  obtain ⟨v0, h1, h2⟩ := h.ex
  exact ⟨⟨v0, Thg.oth h1 h.lo O hS, h2⟩, h.lo⟩
theorem NamV.oth {ah ah' : AH} {b : Nat} {v : AV} {S : List Nat} (h : NamV ah b v) (O : Oth S ah ah') (hS : ∀ s ∈ S, s < b) : NamV ah' b v := by
  have t := h.th.oth O hS
  obtain ⟨v0, t1, _⟩ := t.ex
  exact ⟨⟨t1.ty, h.ok.len⟩, h.ch, h.len, t⟩
theorem NamV.lower {ah : AH} {a b : Nat} {v : AV} (h : NamV ah b v) (q : a ≤ b) : NamV ah a v := ⟨h.ok, h.ch, h.len, h.th.ex, fun m e => Nat.le_trans q (h.th.lo m e)⟩
theorem TxV.oth {ah ah' : AH} {b : Nat} {v : AV} (h : TxV ah v) (n : NamV ah' b v) : TxV ah' v := ⟨n.ok, h.len, h.ch, h.no, h.yes⟩
theorem stp_word {L L' : List Ent} {c c' : Int} {w : Nat} {v t x : AV} {u : Str} (s : Stp L c w v t u x L' c') : (u = "name" ∨ u = "text" ∨ u = "none" ∨ u = "told") ∧ c ≤ c' ∧ c' ≤ c + 1 := by
  cases s with
  | nam _ _ => exact ⟨.inl rfl, by omega, by omega⟩
  | txt _ _ _ => exact ⟨.inr (.inl rfl), by omega, by omega⟩
  | non _ _ _ _ => exact ⟨.inr (.inr (.inl rfl)), by omega, by omega⟩
  | wr _ _ _ => exact ⟨.inr (.inr (.inr rfl)), by omega, by omega⟩
  | syn _ _ _ => exact ⟨.inr (.inr (.inr rfl)), by omega, by omega⟩
  | drp _ _ _ => exact ⟨.inr (.inr (.inr rfl)), by omega, by omega⟩
  | red _ _ _ => exact ⟨.inr (.inr (.inr rfl)), by omega, by omega⟩
  | syd _ _ _ => exact ⟨.inr (.inr (.inr rfl)), by omega, by omega⟩
theorem ths_out {ah : AH} {b N : Nat} {L L' : List Ent} {c c' : Int} {w : Nat} {v t x : AV} {u : Str} (s : Stp L c w v t u x L' c') (V : NamV ah b v) (T : NamV ah b t) (I : LInv L N) (hN : N ≤ 30) : Ths ah b x := by
  cases s with
  | nam _ _ => exact V.th
  | txt _ _ _ => exact T.th
  | non _ _ _ _ => exact V.th
  | red _ _ ha =>
    have h1 := I.ok.tx _ (at_mem ha)
    dsimp only at h1
    obtain ⟨o1, o2, o3⟩ := val_str h1.2.1
    exact ⟨⟨_, .str _, o1, by omega, by omega⟩, fun m e => by cases e⟩
  | syd _ _ ha =>
    have h2 := I.mr _ (at_mem ha)
    dsimp only at h2
    exact ⟨⟨_, .int _, by simp only [okA]; exact decide_eq_true (by omega), by simp only [bkA]; omega, by simp only [dpA]; omega⟩, fun m e => by cases e⟩
  | _ => exact ⟨⟨_, .non, by decide +kernel, by decide +kernel, by decide +kernel⟩, fun m e => by cases e⟩
/-- one call, due and told -/
theorem c_step {k b d f g w N : Nat} {ah : AH} {L : List Ent} {c : Int} {v t : AV} (hw : w < 10) (K : Dsk ah d L c) (O : Own ah f g L c) (I : LInv L N) (hN : N ≤ 29) (V : NamV ah b v) (T : TxV ah t) (T' : NamV ah b t)
    (hd : d + 2 < b) (hf : f < b) (hg : g < b) (hfg : f ≠ g) (df : f ∉ [d, d + 1, d + 2]) (dg : g ∉ [d, d + 1, d + 2]) :
    Yes (cl ds (k + 4) "_law_due" [.ref f, .ref g, .int w, v, t] ah) fun r ah1 => Yes (cl ds (k + 4) "_law_told" [.ref d, .int w, v, t] ah1) fun r2 ah2 => Yes (cl ds (k + 4) "_law_same" [r2, r] ah2) fun q ah3 => q = .bl true ∧
      ∃ L' c', Dsk ah3 d L' c' ∧ Own ah3 f g L' c' ∧ LInv L' (N + 1) ∧ c ≤ c' ∧ c' ≤ c + 1 ∧ ∃ m, b ≤ m ∧ Oth [d, d + 1, d + 2, f, g, m] ah ah3 := by
  obtain ⟨u, x, L', c', s⟩ := stp_ex L c hw v t
  obtain ⟨hu, u1, u2⟩ := stp_word s
  have hl : L.length < 1000 := by have := I.ok.len; omega
  have lp : ∀ e ∈ L, e.2.1.length ≤ 100000 := fun e he => by have := (I.ok.tx e he).1; omega
  have I' := I.stp s T.len T.ch
  refine (c_due O hfg s V.ok V.ch T.ok (fun z e => Nat.le_trans (T.len z e) (by decide)) T.ch hl lp).imp fun r ah1 ⟨e1, O1, q1⟩ => ?_
  subst e1
  have V1 := V.oth q1 (by simp; omega)
  have T1' := T'.oth q1 (by simp; omega)
  have T1 := T.oth T1'
  have K1 := K.oth q1 (fun h => by simp only [List.mem_cons, List.not_mem_nil, or_false] at h df dg; omega) (fun h => by simp only [List.mem_cons, List.not_mem_nil, or_false] at h df dg; omega) (fun h => by simp only [List.mem_cons, List.not_mem_nil, or_false] at h df dg; omega)
  refine (c_told K1 s V1.ok T1 I.ok.nd hl lp).imp fun r2 ah2 ⟨e2, K2, q2⟩ => ?_
  subst e2
  have O2 := O1.oth q2 df dg
  have V2 := V1.oth q2 (by simp; omega)
  have T2 := T1'.oth q2 (by simp; omega)
  have X := ths_out s V2 T2 I (by omega)
  refine (c_same (k := k + 3) X hu).imp fun q ah3 ⟨e3, q3⟩ => ⟨e3, L', c', ?_⟩
  have O12 : Oth [d, d + 1, d + 2, f, g, b] ah ah2 := (q1.mono (by simp)).trans (q2.mono (by simp))
  rcases q3 with rfl | ⟨m, o, _, hm, rfl⟩
  · exact ⟨K2, O2, I', u1, u2, b, Nat.le_refl _, O12⟩
  · have O3 := Oth.set (ah := ah2) (n := m) (o := o)
    refine ⟨K2.oth O3 (by simp; omega) (by simp; omega) (by simp; omega), O2.oth O3 (by simp; omega) (by simp; omega), I', u1, u2, m, hm, ?_⟩
    exact ((q1.mono (by simp)).trans (q2.mono (by simp))).trans (O3.mono (by simp))
end K06

/-! k06: the law. -/
namespace K06
open PySem L2 Ko NumText
local macro_rules | `(tactic| walk_at "ko_ev_K06m") => `(tactic| simp only [YesS.fin, semD, den, mkE, mkT, mkX, mkS, YesS.seq, YesS.nil, YesS.ret, YesS.ifS, YesS.asg, y_c, y_v, y_f2, y_f1, y_fA, y_nil, y_cons, y_tup, y_lst, y_lstM, y_dic0, y_tF, y_bF, y_tAnd, y_tOr, y_tNot, y_not, y_and, y_or, y_if, y_call, y_kw, y_chain, y_slc, y_pN, y_pS, y_isi, y_ms, y_src, y_rng1, y_comp, y_yes, s_exp, s_par2, s_sub, s_for, y_mcall, y_new, y_dget, y_dpop, y_dicN, y_dicC, y_lstC, y_srt, y_srtM, y_app', s_putD, s_att, s_del, ops_call, ops_ar, Yes.ok, nu_isascii, nu_isprintable, nu_isalpha, nu_islower, nu_isdigit, nu_join, nu_count, nu_startswith, nu_endswith, nu_zfill, nu_stripC])
local macro_rules | `(tactic| walk_at "ko_ar_K06m") => `(tactic| simp only [ex_some, ex_ite, bin_add, bin_sub, bin_mul, bin_div, bin_mod, bin_pow, add_ii, sub_ii, mul_ii, div_ii, mod_ii, pow_ii, neg_i, cmp_eq, cmp_ne, cmp_lt, cmp_le, cmp_gt, cmp_ge, cmp_is, cmp_isn, cmp_in, cmp_nin, lt_ii, le_ii, gt_ii, ge_ii, eq_ii, ne_ii, tru_b, tru_i, as_b, int_i, abs_i, put_nm, put_tup, put_lst])
local macro_rules | `(tactic| walk_at "ko_li_K06m") => `(tactic| simp only [List.getElem?_cons_zero, List.getElem?_cons_succ, List.set_cons_succ, List.set_cons_zero, putl_nil, putl_cons, put_nm, put_tup, put_lst, Option.bind_some])
local macro_rules | `(tactic| walk_at "ko_bo_K06m") => `(tactic| simp only [Bool.not_true, Bool.not_false, if_true, if_false, Bool.false_eq_true, reduceIte, Option.isSome_none, Option.isSome_some])
def lw0 : T := match t_law with | .cons (.sFor _ _ b) _ => b | t => t
def lwB : T := match lw0 with | .cons _ (.cons _ (.cons (.sFor _ _ b) _)) => b | t => t
def lw1 : T := match lwB with | .cons a _ => a | t => t
def lw2 : T := match lwB with | .cons _ (.cons a _) => a | t => t
def lw3 : T := match lwB with | .cons _ (.cons _ (.cons a _)) => a | t => t
def lwT : T := match lwB with | .cons _ (.cons _ (.cons _ a)) => a | t => t
theorem lwB_split : lwB = .cons lw1 (.cons lw2 (.cons lw3 lwT)) := rfl
/-- both disks, both the law's own -/
def Two (n N : Nat) (ah : AH) : Prop := n + 11 ≤ ah.length ∧ ∃ L0 c0 L1 c1, Dsk ah (n + 1) L0 c0 ∧ Own ah (n + 7) (n + 9) L0 c0 ∧ LInv L0 N ∧ (0 ≤ c0 ∧ c0 ≤ N) ∧ Dsk ah (n + 4) L1 c1 ∧ Own ah (n + 8) (n + 10) L1 c1 ∧ LInv L1 N ∧ (0 ≤ c1 ∧ c1 ≤ N)
theorem Two.oth {n N : Nat} {ah ah' : AH} {S : List Nat} (T : Two n N ah) (O : Oth S ah ah') (hS : ∀ s ∈ S, s = n ∨ n + 11 ≤ s) : Two n N ah' := by
  obtain ⟨l, L0, c0, L1, c1, K0, O0, I0, q0, K1, O1, I1, q1⟩ := T
  have nin : ∀ m, n < m → m < n + 11 → m ∉ S := fun m h1 h2 h => by have := hS m h; omega
  exact ⟨Nat.le_trans l O.len, L0, c0, L1, c1, K0.oth O (nin _ (by omega) (by omega)) (nin _ (by omega) (by omega)) (nin _ (by omega) (by omega)), O0.oth O (nin _ (by omega) (by omega)) (nin _ (by omega) (by omega)), I0, q0,
    K1.oth O (nin _ (by omega) (by omega)) (nin _ (by omega) (by omega)) (nin _ (by omega) (by omega)), O1.oth O (nin _ (by omega) (by omega)) (nin _ (by omega) (by omega)), I1, q1⟩
theorem Two.mono {n N M : Nat} {ah : AH} (T : Two n N ah) (q : N ≤ M) : Two n M ah := by
  obtain ⟨l, L0, c0, L1, c1, K0, O0, I0, q0, K1, O1, I1, q1⟩ := T
  exact ⟨l, L0, c0, L1, c1, K0, O0, I0.mono q, by omega, K1, O1, I1.mono q, by omega⟩
def sl (n : Nat) (sc kk tn a w v t x y : Option AV) : Rho := [sc, kk, some (.ref n), some (.lst [.ref (n + 1), .ref (n + 4)]), some (.lst [.ref (n + 7), .ref (n + 8)]), some (.lst [.ref (n + 9), .ref (n + 10)]), tn, a, w, v, t, x, y]
theorem two_alike {n N o : Nat} {ah : AH} (T : Two n N ah) (hN : N ≤ 29) (ho : o < 2) : ∃ d f g, atI [AV.ref (n + 1), .ref (n + 4)] (o : Int) = some (.ref d) ∧ atI [AV.ref (n + 7), .ref (n + 8)] (o : Int) = some (.ref f) ∧ atI [AV.ref (n + 9), .ref (n + 10)] (o : Int) = some (.ref g) ∧
    Yes (cl ds 20 "_law_alike" [.ref d, .ref f, .ref g] ah) fun r ah' => r = .bl true ∧ Oth [] ah ah' := by
  obtain ⟨l, L0, c0, L1, c1, K0, O0, I0, q0, K1, O1, I1, q1⟩ := T
  rcases (by omega : o = 0 ∨ o = 1) with rfl | rfl
  · exact ⟨_, _, _, rfl, rfl, rfl, c_alike (k := 16) K0 O0 I0 (by omega) (by omega)⟩
  · exact ⟨_, _, _, rfl, rfl, rfl, c_alike (k := 16) K1 O1 I1 (by omega) (by omega)⟩
theorem two_step {n N o w b : Nat} {ah : AH} {v t : AV} (T : Two n N ah) (hN : N ≤ 28) (ho : o < 2) (hw : w < 10) (hb : n + 11 ≤ b) (V : NamV ah b v) (X : TxV ah t) (X' : NamV ah b t) : ∃ d f g, atI [AV.ref (n + 1), .ref (n + 4)] (o : Int) = some (.ref d) ∧ atI [AV.ref (n + 7), .ref (n + 8)] (o : Int) = some (.ref f) ∧ atI [AV.ref (n + 9), .ref (n + 10)] (o : Int) = some (.ref g) ∧
    Yes (cl ds 20 "_law_due" [.ref f, .ref g, .int w, v, t] ah) fun r ah1 => Yes (cl ds 20 "_law_told" [.ref d, .int w, v, t] ah1) fun r2 ah2 => Yes (cl ds 20 "_law_same" [r2, r] ah2) fun q ah3 => q = .bl true ∧ Two n (N + 1) ah3 ∧ ∃ S, n ∉ S ∧ Oth S ah ah3 := by
  obtain ⟨l, L0, c0, L1, c1, K0, O0, I0, q0, K1, O1, I1, q1⟩ := T
  rcases (by omega : o = 0 ∨ o = 1) with rfl | rfl
  · refine ⟨_, _, _, rfl, rfl, rfl, (c_step (k := 16) hw K0 O0 I0 (by omega) V X X' (by omega) (by omega) (by omega) (by omega) (by simp) (by simp)).imp fun r ah1 h1 => h1.imp fun r2 ah2 h2 => h2.imp fun q ah3 ⟨e, L', c', K', O', I', u1, u2, m, hm, O⟩ => ⟨e, ?_, _, ?_, O⟩⟩
    · refine ⟨Nat.le_trans l O.len, L', c', L1, c1, K', O', I', by omega, K1.oth O (by simp; omega) (by simp; omega) (by simp; omega), O1.oth O (by simp; omega) (by simp; omega), I1.mono (by omega), by omega⟩
    · simp; omega
  · refine ⟨_, _, _, rfl, rfl, rfl, (c_step (k := 16) hw K1 O1 I1 (by omega) V X X' (by omega) (by omega) (by omega) (by omega) (by simp) (by simp)).imp fun r ah1 h1 => h1.imp fun r2 ah2 h2 => h2.imp fun q ah3 ⟨e, L', c', K', O', I', u1, u2, m, hm, O⟩ => ⟨e, ?_, _, ?_, O⟩⟩
    · refine ⟨Nat.le_trans l O.len, L0, c0, L', c', K0.oth O (by simp; omega) (by simp; omega) (by simp; omega), O0.oth O (by simp; omega) (by simp; omega), I0.mono (by omega), by omega, K', O', I', by omega⟩
    · simp; omega
theorem tail_ok {n N o w b : Nat} {ah : AH} {C : Int} {v t : AV} {sc kk tn x y : Option AV} (B : Box ah ah n C) (T : Two n N ah) (hN : N ≤ 28) (ho : o < 2) (hw : w < 10) (hb : n + 11 ≤ b) (V : NamV ah b v) (X : TxV ah t) (X' : NamV ah b t) :
    YesS ((den (ops ds 20) lwT).x (sl n sc kk tn (some (.int o)) (some (.int w)) (some v) (some t) x y) ah) (fun ρ ah' => Box ah' ah' n C ∧ Two n (N + 1) ah' ∧ ∃ a w v t x y, ρ = sl n sc kk tn a w v t x y) (fun _ _ => False) := by
  simp only [lwT, lwB, lw0, t_law, sl]
  walk_at "ko_ev_K06m"
  try walk_at "ko_li_K06m"
  obtain ⟨d, f, g, e1, e2, e3, st⟩ := two_step T hN ho hw hb V X X'
  rw [ix_lst, e2, ex_some, ix_lst, e3, ex_some]
  refine ⟨rfl, st.imp fun rd ah1 st1 => ?_⟩
  try walk_at "ko_li_K06m"
  rw [ix_lst, e1, ex_some]
  refine ⟨rfl, st1.imp fun r2 ah2 st2 => ⟨rfl, st2.imp fun q ah3 ⟨e, T3, S, hS, O⟩ => ?_⟩⟩
  subst e
  simp only [tru_b, ex_some]
  walk_at "ko_bo_K06m"
  try walk_at "ko_ev_K06m"
  have B3 := B.oth O hS
  refine ⟨by show 2 ≤ sizeLine; decide, ?_⟩
  rw [src_l, ex_some]
  refine forV_ok' (fun r ρ ah' => (∀ x ∈ r, ∃ i : Nat, x = .int i ∧ i < 2) ∧ Box ah' ah' n C ∧ Two n (N + 1) ah' ∧ ∃ y, ρ = sl n sc kk tn (some (.int o)) (some (.int w)) (some v) (some t) (some rd) y) _ _ _ ⟨fun x hx => ?_, B3, T3, _, rfl⟩ (fun ρ ah' ⟨_, B', T', y, e⟩ => ⟨B', T', _, _, _, _, _, _, e⟩) fun x xs ρ ah' ⟨h1, B', T', y, e⟩ => ?_
  · simp only [List.mem_cons, List.not_mem_nil, or_false] at hx
    rcases hx with rfl | rfl
    · exact ⟨0, rfl, by decide⟩
    · exact ⟨1, rfl, by decide⟩
  · subst e
    obtain ⟨i, rfl, hi⟩ := h1 x (by simp)
    refine ⟨_, rfl, ?_⟩
    simp only [sl]
    walk_at "ko_ev_K06m"
    walk_at "ko_li_K06m"
    obtain ⟨d, f, g, e1, e2, e3, al⟩ := two_alike T' (by omega) hi
    rw [ix_lst, e1, ex_some, ix_lst, e2, ex_some, ix_lst, e3, ex_some]
    refine ⟨rfl, al.imp fun q ah4 ⟨e4, O4⟩ => ?_⟩
    subst e4
    simp only [tru_b, ex_some]
    walk_at "ko_bo_K06m"
    exact ⟨fun z hz => h1 z (List.mem_cons_of_mem _ hz), B'.oth O4 (by simp), T'.oth O4 (by simp), _, rfl⟩
/-- the beginning of a turn -/
theorem s_par3 {ρ : Rho} {ah : AH} {N : Rho → AH → Prop} {P : AV → AH → Prop} {i j l : Nat} {a : Rho → AH → Ot (List AV)} : YesS (parF3 i j l a ρ ah) N P ↔ Yes (a ρ ah) fun xs ah1 => match xs with | [x, y, z] => N (((ρ.set i (some x)).set j (some y)).set l (some z)) ah1 | _ => False := by
  unfold parF3
  rw [YesS.to]
  constructor <;> intro h <;> refine h.imp fun xs ah q => ?_
  · split at q
    · exact q
    · exact q.elim
  · split at q
    · exact q
    · exact q.elim
theorem body_ok {n N : Nat} {ah : AH} {C : Int} {tn : Nat} {sc kk a w v t x y : Option AV} (B : Box ah ah n C) (hC : C ≤ 40000) (T : Two n N ah) (hN : N ≤ 28) (htn : tn < 28) :
    YesS ((den (ops ds 20) lwB).x (sl n sc kk (some (.int tn)) a w v t x y) ah) (fun ρ ah' => Box ah' ah' n (C + 200) ∧ Two n (N + 1) ah' ∧ ∃ a w v t x y, ρ = sl n sc kk (some (.int tn)) a w v t x y) (fun _ _ => False) := by
  rw [lwB_split, den_cons, YesS.seq]
  simp only [lw1, lwB, lw0, t_law, sl]
  walk_at "ko_ev_K06m"
  try walk_at "ko_li_K06m"
  refine ⟨drw.arity.symm, (take_ok drw B (by omega) (by decide) (by decide)).imp fun _ ah1 ⟨o, e, o0, o1, B1⟩ => ?_⟩
  subst e
  refine ⟨by show 14 ≤ sizeLine; decide, drw.arity.symm, (take_ok drw B1 (by omega) (by decide) (by decide)).imp fun _ ah2 ⟨m, e, m0, m1, B2⟩ => ?_⟩
  subst e
  have hw0 : ∃ w0 : Nat, w0 < 10 ∧ atI [AV.int 0, AV.int 1, AV.int 0, AV.int 1, AV.int 0, AV.int 2, AV.int 3, AV.int 2, AV.int 4, AV.int 5, AV.int 6, AV.int 7, AV.int 8, AV.int 9] m = some (.int w0) := by
    obtain ⟨x, hx, e⟩ := atI_in (xs := [AV.int 0, AV.int 1, AV.int 0, AV.int 1, AV.int 0, AV.int 2, AV.int 3, AV.int 2, AV.int 4, AV.int 5, AV.int 6, AV.int 7, AV.int 8, AV.int 9]) m0 (by show m < 14; omega)
    have : ∃ w0 : Nat, w0 < 10 ∧ x = .int w0 := by
      simp only [List.mem_cons, List.not_mem_nil, or_false] at hx
      rcases hx with rfl | rfl | rfl | rfl | rfl | rfl | rfl | rfl | rfl | rfl | rfl | rfl | rfl | rfl
      · exact ⟨0, by decide, rfl⟩
      · exact ⟨1, by decide, rfl⟩
      · exact ⟨0, by decide, rfl⟩
      · exact ⟨1, by decide, rfl⟩
      · exact ⟨0, by decide, rfl⟩
      · exact ⟨2, by decide, rfl⟩
      · exact ⟨3, by decide, rfl⟩
      · exact ⟨2, by decide, rfl⟩
      · exact ⟨4, by decide, rfl⟩
      · exact ⟨5, by decide, rfl⟩
      · exact ⟨6, by decide, rfl⟩
      · exact ⟨7, by decide, rfl⟩
      · exact ⟨8, by decide, rfl⟩
      · exact ⟨9, by decide, rfl⟩
    obtain ⟨w0, h1, rfl⟩ := this
    exact ⟨w0, h1, e⟩
  obtain ⟨w0, hw0, ew⟩ := hw0
  refine ⟨_, ew, ?_⟩
  have T2 := T.oth (Oth.ofBox B2 B.lt) (by simp)
  obtain ⟨O, rfl⟩ := Int.eq_ofNat_of_zero_le o0
  have hO : O < 2 := by omega
  have hfile : ∃ f L, f ≠ n ∧ atI [AV.ref (n + 7), .ref (n + 8)] (O : Int) = some (.ref f) ∧ ah2[f]? = some (.dct (dcE gO L)) ∧ LInv L N := by
    obtain ⟨l, L0, c0, L1, c1, K0, O0, I0, q0, K1, O1, I1, q1⟩ := T2
    rcases (by omega : O = 0 ∨ O = 1) with rfl | rfl
    · exact ⟨_, L0, by omega, rfl, O0.ow, I0⟩
    · exact ⟨_, L1, by omega, rfl, O1.ow, I1⟩
  obtain ⟨f, L, fn, ef, hf, I⟩ := hfile
  simp only [lw2, lwB, lw0, t_law]
  walk_at "ko_ev_K06m"
  try walk_at "ko_li_K06m"
  rw [ix_lst, ef, ex_some]
  refine ⟨rfl, (c_anyn (k := 17) B2.here (by omega) hf fn I (by omega)).imp fun nv ah3 ⟨V, B3, O3⟩ => ⟨rfl, (c_anyt (k := 16) B3 (by omega)).imp fun tv ah4 ⟨X, X', B4, O4⟩ => ?_⟩⟩
  have T3 := T2.oth O3 (by simp)
  have T4 := T3.oth O4 (by simp)
  have V4 := (V.lower T2.1).oth O4 (by simp)
  have X4 := X'.lower T3.1
  try walk_at "ko_li_K06m"
  refine YesS.imp (N := fun ρ ah' => ∃ o' w' v', o' < 2 ∧ w' < 10 ∧ NamV ah' (n + 11) v' ∧ TxV ah' tv ∧ NamV ah' (n + 11) tv ∧ Box ah' ah' n (C + 200) ∧ Two n N ah' ∧ ρ = sl n sc kk (some (.int tn)) (some (.int (o' : Nat))) (some (.int (w' : Nat))) (some v') (some tv) x y) (R := fun _ _ => False) ?_ (fun ρ ah' ⟨o', w', v', h1, h2, h3, h4, h5, h6, h7, h8⟩ => ?_) (fun _ _ h => h.elim)
  · simp only [lw3, lwB, lw0, t_law]
    walk_at "ko_ev_K06m"
    try walk_at "ko_li_K06m"
    try walk_at "ko_ar_K06m"
    by_cases g : tn < 8
    · rw [decide_eq_true (by omega)]
      walk_at "ko_bo_K06m"
      simp only [YesS.seq, YesS.nil, s_par3]
      walk_at "ko_ev_K06m"
      try walk_at "ko_li_K06m"
      try walk_at "ko_ar_K06m"
      rw [ix_lst]
      have hw8 : ∃ w8 : Nat, w8 < 10 ∧ atI [AV.int 0, AV.int 0, AV.int 0, AV.int 0, AV.int 0, AV.int 1, AV.int 2, AV.int 3] (tn : Int) = some (.int w8) := by
        rcases (by omega : tn = 0 ∨ tn = 1 ∨ tn = 2 ∨ tn = 3 ∨ tn = 4 ∨ tn = 5 ∨ tn = 6 ∨ tn = 7) with rfl | rfl | rfl | rfl | rfl | rfl | rfl | rfl
        · exact ⟨0, by decide, rfl⟩
        · exact ⟨0, by decide, rfl⟩
        · exact ⟨0, by decide, rfl⟩
        · exact ⟨0, by decide, rfl⟩
        · exact ⟨0, by decide, rfl⟩
        · exact ⟨1, by decide, rfl⟩
        · exact ⟨2, by decide, rfl⟩
        · exact ⟨3, by decide, rfl⟩
      obtain ⟨w8, h8, e8⟩ := hw8
      refine ⟨by decide, by show 8 ≤ sizeLine; decide, _, e8, rfl, c_pool.imp fun _ ah5 ⟨e1, e2⟩ => ?_⟩
      subst e1 e2
      refine ⟨drw.arity.symm, (take_ok drw B4 (by omega) (by decide) (by decide)).imp fun _ ah6 ⟨p, e, p0, p1, B6⟩ => ?_⟩
      subst e
      obtain ⟨v', ev', V'⟩ := poolV (ah := ah6) (b := n + 11) p0 p1
      have O6 := Oth.ofBox B6 B4.lt
      have X6 := X4.oth O6 (by simp)
      exact ⟨v', ev', tn % 2, w8, v', by omega, h8, V', X.oth X6, X6, B6.here.mono (by omega), T4.oth O6 (by simp), rfl⟩
    · rw [decide_eq_false (by omega)]
      walk_at "ko_bo_K06m"
      exact ⟨O, w0, nv, hO, hw0, V4, X, X4, B4.mono (by omega), T4, rfl⟩
  · subst h8
    exact (tail_ok h6 h7 hN h1 h2 (Nat.le_refl _) h3 h4 h5).imp (fun ρ ah' ⟨q1, q2, a, w, v, t, x, y, e⟩ => ⟨q1, q2, a, w, v, t, x, y, e⟩) fun _ _ h => h
theorem box_ok2 {k : Nat} {ah : AH} {g : Int} : Yes (cl ds (k + 1) "_law_box" [.int g] ah) fun v ah' => v = .ref ah.length ∧ ah'.length = ah.length + 1 ∧ Box ah ah' ah.length 0 := by
  obtain ⟨dt, ft, hN, ht⟩ := drw.bx
  rw [cl_eq ft]
  simp only [semD, hN, ht, tBox]
  walk_at "ko_ev_K06m"
  simp only [show startA (["great"] : List Str) [.int g] = [some (.int g)] from rfl, List.getElem?_cons_zero]
  walk_at "ko_ar_K06m"
  refine ⟨⟨by decide, by decide, by decide⟩, by decide, by show 4 ≤ sizeLine; decide, trivial, by simp, _, _, _, 0, List.getElem?_concat_length, ?_, Int.emod_nonneg _ (by decide), Int.emod_lt_of_pos _ (by decide), by decide, by decide, fun m o hm e => by rw [List.getElem?_append_left (List.getElem?_eq_some_iff.mp e).1]; exact e⟩
  split <;> omega
theorem init_ok {ah : AH} : Yes (cl ds 20 "Disk.__init__" [.ref ah.length] (ah ++ [.ins "Disk" []])) fun v ah' => v = .non ∧ ah' = ah ++ [.ins "Disk" (dkF ah.length 0), .dct [], .dct []] := by
  refine (c_init dk (k := 19) (by rw [List.length_append]; simp) (by simp)).imp fun r ah1 ⟨e1, e2⟩ => ⟨e1, ?_⟩
  subst e2
  rw [List.length_append]
  show (ah ++ [AO.ins "Disk" []] ++ [AO.dct []] ++ [AO.dct []]).set ah.length (.ins "Disk" (dkF ah.length 0)) = _
  rw [List.append_assoc, List.append_assoc, List.set_append_right _ _ (Nat.le_refl _), Nat.sub_self]
  rfl
def la : T := match lw0 with | .cons a _ => a | t => t
def lb : T := match lw0 with | .cons _ (.cons a _) => a | t => t
theorem lw0_split : lw0 = .cons la (.cons lb (.cons (.sFor (.nm 6) (.rng1 (.cI 28)) lwB) .nil)) := rfl
theorem law_split : t_law = .cons (.sFor (.nm 1) (.rng1 (.bi .max (.cons (.cI 2) (.cons (.bi .min (.cons (.cI 4) (.cons (.bi .len (.cons (.var 0) .nil)) .nil))) .nil)))) lw0) (.cons (.sRet (.cB true)) .nil) := rfl
theorem outer_ok {ns : List Int} {i : Nat} (hi : i < 100) {ah : AH} {b2 b3 b4 b5 b6 b7 b8 b9 b10 b11 b12 : Option AV} : YesS ((den (ops ds 20) lw0).x [some (.lst (ns.map .int)), some (.int i), b2, b3, b4, b5, b6, b7, b8, b9, b10, b11, b12] ah) (fun ρ ah' => ∃ b1 b2 b3 b4 b5 b6 b7 b8 b9 b10 b11 b12, ρ = [some (.lst (ns.map .int)), b1, b2, b3, b4, b5, b6, b7, b8, b9, b10, b11, b12]) (fun _ _ => False) := by
  rw [lw0_split, den_cons, YesS.seq]
  simp only [la, lb, lw0, t_law]
  walk_at "ko_ev_K06m"
  try walk_at "ko_li_K06m"
  refine ⟨rfl, (cell_ok (F := []) drw hi).imp fun v ah1 ⟨e1, g, e2⟩ => ?_⟩
  subst e1 e2
  refine ⟨rfl, box_ok2.imp fun v ah2 ⟨e1, l2, B⟩ => ?_⟩
  subst e1
  simp only [YesS.seq, YesS.nil, s_par3]
  have B := B.here
  generalize ah1.length = n at l2 B ⊢
  walk_at "ko_ev_K06m"
  refine ⟨dk.r_Disk___init__.symm, init_ok.imp fun _ ah3 ⟨e1, e2⟩ => ⟨e1, dk.r_Disk___init__.symm, init_ok.imp fun _ ah4 ⟨e3, e4⟩ => ⟨e3, ?_⟩⟩⟩
  have l3 : ah3.length = n + 4 := by rw [e2, List.length_append, l2]; rfl
  have l4 : ah4.length = n + 7 := by rw [e4, List.length_append, l3]; rfl
  rw [l2] at e2
  rw [l3] at e4
  subst e1 e3
  refine ⟨by show 2 ≤ sizeLine; decide, by show 0 ≤ sizeLine; decide, [], rfl, by show 0 ≤ sizeLine; decide, [], rfl, by show 2 ≤ sizeLine; decide, by show 1 ≤ sizeLine; decide, by show 1 ≤ sizeLine; decide, by show 2 ≤ sizeLine; decide, ?_⟩
  simp only [List.length_append, l2, l3, l4, List.length_cons, List.length_nil, Nat.zero_add, Nat.add_assoc, Nat.reduceAdd]
  have hE : ah4 ++ [AO.dct []] ++ [AO.dct []] ++ [AO.lst [.int 0]] ++ [AO.lst [.int 0]] = ah2 ++ [.ins "Disk" (dkF (n + 1) 0), .dct [], .dct [], .ins "Disk" (dkF (n + 4) 0), .dct [], .dct [], .dct [], .dct [], .lst [.int 0], .lst [.int 0]] := by
    rw [e4, e2]; simp
  rw [hE]
  have B5 := B.app (tl := [.ins "Disk" (dkF (n + 1) 0), .dct [], .dct [], .ins "Disk" (dkF (n + 4) 0), .dct [], .dct [], .dct [], .dct [], .lst [.int 0], .lst [.int 0]])
  have at_ : ∀ j : Nat, (ah2 ++ [AO.ins "Disk" (dkF (n + 1) 0), .dct [], .dct [], .ins "Disk" (dkF (n + 4) 0), .dct [], .dct [], .dct [], .dct [], .lst [.int 0], .lst [.int 0]])[n + 1 + j]? = [AO.ins "Disk" (dkF (n + 1) 0), .dct [], .dct [], .ins "Disk" (dkF (n + 4) 0), .dct [], .dct [], .dct [], .dct [], .lst [.int 0], .lst [.int 0]][j]? := fun j => by
    rw [List.getElem?_append_right (by omega), l2, Nat.add_sub_cancel_left]
  have T5 : Two n 0 (ah2 ++ [AO.ins "Disk" (dkF (n + 1) 0), .dct [], .dct [], .ins "Disk" (dkF (n + 4) 0), .dct [], .dct [], .dct [], .dct [], .lst [.int 0], .lst [.int 0]]) := by
    refine ⟨by rw [List.length_append, l2]; simp, [], 0, [], 0, ⟨at_ 0, at_ 1, at_ 2⟩, ⟨at_ 6, at_ 8⟩, LInv.nil, by decide, ⟨at_ 3, at_ 4, at_ 5⟩, ⟨at_ 7, at_ 9⟩, LInv.nil, by decide⟩
  generalize ah2 ++ [AO.ins "Disk" (dkF (n + 1) 0), .dct [], .dct [], .ins "Disk" (dkF (n + 4) 0), .dct [], .dct [], .dct [], .dct [], .lst [.int 0], .lst [.int 0]] = ah5 at B5 T5 ⊢
  rw [rng_src (by decide) (by decide), ex_some]
  have hr28 : (rngL 0 (28 : Int).toNat).length = 28 := rngL_length ..
  refine forV_ok' (fun r ρ ah => (∀ x ∈ r, ∃ i : Nat, x = .int i ∧ i < 28) ∧ r.length ≤ 28 ∧ Box ah ah n (200 * (28 - r.length)) ∧ Two n (28 - r.length) ah ∧ ∃ tn a w v t x y, ρ = sl n (some (.lst (ns.map .int))) (some (.int i)) tn a w v t x y) _ _ _ ⟨fun x hx => ?_, by rw [hr28]; exact Nat.le_refl _, by rw [hr28]; exact B5, by rw [hr28]; exact T5, _, _, _, _, _, _, _, rfl⟩ (fun ρ ah ⟨_, _, _, _, tn, a, w, v, t, x, y, e⟩ => ⟨_, _, _, _, _, _, _, _, _, _, _, _, e⟩) fun x xs ρ ah ⟨h1, h2, B6, T6, tn, a, w, v, t, x', y, e⟩ => ?_
  · obtain ⟨i, e, hi⟩ := rng_mem hx
    exact ⟨i, e, hi⟩
  · subst e
    obtain ⟨tn', rfl, ht⟩ := h1 x (by simp)
    rw [List.length_cons] at h2 B6 T6
    refine ⟨sl n (some (.lst (ns.map .int))) (some (.int i)) (some (.int tn')) a w v t x' y, rfl, ?_⟩
    refine (body_ok B6 (by omega) T6 (by omega) ht).imp (fun ρ ah7 ⟨B7, T7, a, w, v, t, x, y, e⟩ => ⟨fun z hz => h1 z (List.mem_cons_of_mem _ hz), by omega, B7.mono (by omega), T7.mono (by omega), _, _, _, _, _, _, _, e⟩) fun _ _ h => h
theorem law_yes (ns : List Int) : Yes (cl ds 21 "law" [.lst (ns.map .int)] []) fun v _ => v = .bl true := by
  rw [cl_eq (show findD ds "law" = some d_law by rfl)]
  simp only [semD, d_law]
  rw [YesS.fin, show startA ["script", "k", "box", "disks", "files", "counts", "turn", "at", "way", "name", "text", "due", "other"] [.lst (ns.map .int)] = [some (.lst (ns.map .int)), none, none, none, none, none, none, none, none, none, none, none, none] from rfl, law_split]
  walk_at "ko_ev_K06m"
  walk_at "ko_li_K06m"
  rw [len_l]
  walk_at "ko_ar_K06m"
  have hmin : biF BI.min [] [.int 4, .int (ns.map AV.int).length] = some (.int (if ((ns.map AV.int).length : Int) < 4 then ((ns.map AV.int).length : Int) else 4)) := rfl
  rw [hmin]
  walk_at "ko_ar_K06m"
  generalize hm : (if ((ns.map AV.int).length : Int) < 4 then ((ns.map AV.int).length : Int) else 4) = m
  have m0 : 0 ≤ m ∧ m ≤ 4 := by rw [← hm]; split <;> omega
  have hmax : biF BI.max [] [.int 2, .int m] = some (.int (if m > 2 then m else 2)) := rfl
  rw [hmax]
  walk_at "ko_ar_K06m"
  generalize hm2 : (if m > 2 then m else 2) = m2
  have m1 : 0 ≤ m2 ∧ m2 ≤ 4 := by rw [← hm2]; split <;> omega
  rw [rng_src m1.1 (by omega)]
  walk_at "ko_ar_K06m"
  refine forV_ok' (fun r ρ ah => (∀ x ∈ r, ∃ i : Nat, x = .int i ∧ i < 100) ∧ ∃ b1 b2 b3 b4 b5 b6 b7 b8 b9 b10 b11 b12, ρ = [some (.lst (ns.map AV.int)), b1, b2, b3, b4, b5, b6, b7, b8, b9, b10, b11, b12]) _ _ _ ⟨fun x hx => ?_, _, _, _, _, _, _, _, _, _, _, _, _, rfl⟩ (fun ρ ah ⟨_, b1, b2, b3, b4, b5, b6, b7, b8, b9, b10, b11, b12, e⟩ => by first | trivial | (subst e; exact rfl)) fun x xs ρ ah ⟨h1, b1, b2, b3, b4, b5, b6, b7, b8, b9, b10, b11, b12, e⟩ => ?_
  · obtain ⟨i, e, hi⟩ := rng_mem hx
    exact ⟨i, e, by omega⟩
  subst e
  obtain ⟨i, rfl, hi⟩ := h1 x (by simp)
  have hxs : ∀ x ∈ xs, ∃ i : Nat, x = .int i ∧ i < 100 := fun y hy => h1 y (List.mem_cons_of_mem _ hy)
  refine ⟨_, rfl, ?_⟩
  exact (outer_ok hi).imp (fun ρ ah' h => ⟨hxs, h⟩) fun _ _ h => h.elim
theorem law_true : ∀ ns : List Int, ns.length ≤ 63 → ∃ ah, (ops ds 21).call "law" [.lst (ns.map .int)] [] = .ok (.bl true) ah := fun ns _ => by
  obtain ⟨a, ah, e, rfl⟩ := (law_yes ns).eq
  exact ⟨ah, e⟩
end K06

namespace K06
open PySem L2 Ko
theorem kw_ok : ds.all (kwOk tb) = true := by decide +kernel
theorem f_is_signs {K : PySem.W.Frag} {h : Heap} {mg : Str → Option Value} (X : K.In h) (G : h.Ns mainGlobals mg) {f : Addr} {oc : Value} {od an : Option Addr} {osl : Array (Option Value)} {kV doc pm cdv ct : Value} (a : PySem.W.nsIn K mainGlobals "is_signs" = some (some (.ref f))) (l : K.lookup f = some ⟨oc, od, .func (PySem.W.fnOf "is_signs" "is_signs" (defArgs d_is_signs.st) (defBody d_is_signs.st) (defScope d_is_signs.st) .none kV doc pm an cdv ct), osl⟩) (c : PySem.W.codeIn K cdv "is_signs" = true) (k : PySem.W.keepIn K (.ref f) = true) : DfF K mg d_is_signs :=
  dff_mk X G a l c k (fun _ _ _ _ _ _ us hl => match us, hl with | [_], _ => rfl) (fun _ _ _ _ _ _ e he => absurd he List.not_mem_nil)
theorem f_is_file_name {K : PySem.W.Frag} {h : Heap} {mg : Str → Option Value} (X : K.In h) (G : h.Ns mainGlobals mg) {f : Addr} {oc : Value} {od an : Option Addr} {osl : Array (Option Value)} {kV doc pm cdv ct : Value} (a : PySem.W.nsIn K mainGlobals "is_file_name" = some (some (.ref f))) (l : K.lookup f = some ⟨oc, od, .func (PySem.W.fnOf "is_file_name" "is_file_name" (defArgs d_is_file_name.st) (defBody d_is_file_name.st) (defScope d_is_file_name.st) .none kV doc pm an cdv ct), osl⟩) (c : PySem.W.codeIn K cdv "is_file_name" = true) (k : PySem.W.keepIn K (.ref f) = true) : DfF K mg d_is_file_name :=
  dff_mk X G a l c k (fun _ _ _ _ _ _ us hl => match us, hl with | [_], _ => rfl) (fun _ _ _ _ _ _ e he => absurd he List.not_mem_nil)
theorem f__law_cell {K : PySem.W.Frag} {h : Heap} {mg : Str → Option Value} (X : K.In h) (G : h.Ns mainGlobals mg) {f : Addr} {oc : Value} {od an : Option Addr} {osl : Array (Option Value)} {kV doc pm cdv ct : Value} (a : PySem.W.nsIn K mainGlobals "_law_cell" = some (some (.ref f))) (l : K.lookup f = some ⟨oc, od, .func (PySem.W.fnOf "_law_cell" "_law_cell" (defArgs d__law_cell.st) (defBody d__law_cell.st) (defScope d__law_cell.st) .none kV doc pm an cdv ct), osl⟩) (c : PySem.W.codeIn K cdv "_law_cell" = true) (k : PySem.W.keepIn K (.ref f) = true) : DfF K mg d__law_cell :=
  dff_mk X G a l c k (fun _ _ _ _ _ _ us hl => match us, hl with | [_, _], _ => rfl) (fun _ _ _ _ _ _ e he => absurd he List.not_mem_nil)
theorem f__law_box {K : PySem.W.Frag} {h : Heap} {mg : Str → Option Value} (X : K.In h) (G : h.Ns mainGlobals mg) {f : Addr} {oc : Value} {od an : Option Addr} {osl : Array (Option Value)} {kV doc pm cdv ct : Value} (a : PySem.W.nsIn K mainGlobals "_law_box" = some (some (.ref f))) (l : K.lookup f = some ⟨oc, od, .func (PySem.W.fnOf "_law_box" "_law_box" (defArgs d__law_box.st) (defBody d__law_box.st) (defScope d__law_box.st) .none kV doc pm an cdv ct), osl⟩) (c : PySem.W.codeIn K cdv "_law_box" = true) (k : PySem.W.keepIn K (.ref f) = true) : DfF K mg d__law_box :=
  dff_mk X G a l c k (fun _ _ _ _ _ _ us hl => match us, hl with | [_], _ => rfl) (fun _ _ _ _ _ _ e he => absurd he List.not_mem_nil)
theorem f__law_take {K : PySem.W.Frag} {h : Heap} {mg : Str → Option Value} (X : K.In h) (G : h.Ns mainGlobals mg) {f : Addr} {oc : Value} {od an : Option Addr} {osl : Array (Option Value)} {kV doc pm cdv ct : Value} (a : PySem.W.nsIn K mainGlobals "_law_take" = some (some (.ref f))) (l : K.lookup f = some ⟨oc, od, .func (PySem.W.fnOf "_law_take" "_law_take" (defArgs d__law_take.st) (defBody d__law_take.st) (defScope d__law_take.st) .none kV doc pm an cdv ct), osl⟩) (c : PySem.W.codeIn K cdv "_law_take" = true) (k : PySem.W.keepIn K (.ref f) = true) : DfF K mg d__law_take :=
  dff_mk X G a l c k (fun _ _ _ _ _ _ us hl => match us, hl with | [_, _], _ => rfl) (fun _ _ _ _ _ _ e he => absurd he List.not_mem_nil)
theorem f__law_signs {K : PySem.W.Frag} {h : Heap} {mg : Str → Option Value} (X : K.In h) (G : h.Ns mainGlobals mg) {f : Addr} {oc : Value} {od an : Option Addr} {osl : Array (Option Value)} {kV doc pm cdv ct : Value} (a : PySem.W.nsIn K mainGlobals "_law_signs" = some (some (.ref f))) (l : K.lookup f = some ⟨oc, od, .func (PySem.W.fnOf "_law_signs" "_law_signs" (defArgs d__law_signs.st) (defBody d__law_signs.st) (defScope d__law_signs.st) .none kV doc pm an cdv ct), osl⟩) (c : PySem.W.codeIn K cdv "_law_signs" = true) (k : PySem.W.keepIn K (.ref f) = true) : DfF K mg d__law_signs :=
  dff_mk X G a l c k (fun _ _ _ _ _ _ us hl => match us, hl with | [], _ => rfl) (fun _ _ _ _ _ _ e he => absurd he List.not_mem_nil)
theorem f__law_marks {K : PySem.W.Frag} {h : Heap} {mg : Str → Option Value} (X : K.In h) (G : h.Ns mainGlobals mg) {f : Addr} {oc : Value} {od an : Option Addr} {osl : Array (Option Value)} {kV doc pm cdv ct : Value} (a : PySem.W.nsIn K mainGlobals "_law_marks" = some (some (.ref f))) (l : K.lookup f = some ⟨oc, od, .func (PySem.W.fnOf "_law_marks" "_law_marks" (defArgs d__law_marks.st) (defBody d__law_marks.st) (defScope d__law_marks.st) .none kV doc pm an cdv ct), osl⟩) (c : PySem.W.codeIn K cdv "_law_marks" = true) (k : PySem.W.keepIn K (.ref f) = true) : DfF K mg d__law_marks :=
  dff_mk X G a l c k (fun _ _ _ _ _ _ us hl => match us, hl with | [], _ => rfl) (fun _ _ _ _ _ _ e he => absurd he List.not_mem_nil)
theorem f__law_pool {K : PySem.W.Frag} {h : Heap} {mg : Str → Option Value} (X : K.In h) (G : h.Ns mainGlobals mg) {f : Addr} {oc : Value} {od an : Option Addr} {osl : Array (Option Value)} {kV doc pm cdv ct : Value} (a : PySem.W.nsIn K mainGlobals "_law_pool" = some (some (.ref f))) (l : K.lookup f = some ⟨oc, od, .func (PySem.W.fnOf "_law_pool" "_law_pool" (defArgs d__law_pool.st) (defBody d__law_pool.st) (defScope d__law_pool.st) .none kV doc pm an cdv ct), osl⟩) (c : PySem.W.codeIn K cdv "_law_pool" = true) (k : PySem.W.keepIn K (.ref f) = true) : DfF K mg d__law_pool :=
  dff_mk X G a l c k (fun _ _ _ _ _ _ us hl => match us, hl with | [], _ => rfl) (fun _ _ _ _ _ _ e he => absurd he List.not_mem_nil)
theorem f__law_word {K : PySem.W.Frag} {h : Heap} {mg : Str → Option Value} (X : K.In h) (G : h.Ns mainGlobals mg) {f : Addr} {oc : Value} {od an : Option Addr} {osl : Array (Option Value)} {kV doc pm cdv ct : Value} (a : PySem.W.nsIn K mainGlobals "_law_word" = some (some (.ref f))) (l : K.lookup f = some ⟨oc, od, .func (PySem.W.fnOf "_law_word" "_law_word" (defArgs d__law_word.st) (defBody d__law_word.st) (defScope d__law_word.st) .none kV doc pm an cdv ct), osl⟩) (c : PySem.W.codeIn K cdv "_law_word" = true) (k : PySem.W.keepIn K (.ref f) = true) : DfF K mg d__law_word :=
  dff_mk X G a l c k (fun _ _ _ _ _ _ us hl => match us, hl with | [_, _, _], _ => rfl) (fun _ _ _ _ _ _ e he => absurd he List.not_mem_nil)
theorem f__law_any_name {K : PySem.W.Frag} {h : Heap} {mg : Str → Option Value} (X : K.In h) (G : h.Ns mainGlobals mg) {f : Addr} {oc : Value} {od an : Option Addr} {osl : Array (Option Value)} {kV doc pm cdv ct : Value} (a : PySem.W.nsIn K mainGlobals "_law_any_name" = some (some (.ref f))) (l : K.lookup f = some ⟨oc, od, .func (PySem.W.fnOf "_law_any_name" "_law_any_name" (defArgs d__law_any_name.st) (defBody d__law_any_name.st) (defScope d__law_any_name.st) .none kV doc pm an cdv ct), osl⟩) (c : PySem.W.codeIn K cdv "_law_any_name" = true) (k : PySem.W.keepIn K (.ref f) = true) : DfF K mg d__law_any_name :=
  dff_mk X G a l c k (fun _ _ _ _ _ _ us hl => match us, hl with | [_, _], _ => rfl) (fun _ _ _ _ _ _ e he => absurd he List.not_mem_nil)
theorem f__law_any_text {K : PySem.W.Frag} {h : Heap} {mg : Str → Option Value} (X : K.In h) (G : h.Ns mainGlobals mg) {f : Addr} {oc : Value} {od an : Option Addr} {osl : Array (Option Value)} {kV doc pm cdv ct : Value} (a : PySem.W.nsIn K mainGlobals "_law_any_text" = some (some (.ref f))) (l : K.lookup f = some ⟨oc, od, .func (PySem.W.fnOf "_law_any_text" "_law_any_text" (defArgs d__law_any_text.st) (defBody d__law_any_text.st) (defScope d__law_any_text.st) .none kV doc pm an cdv ct), osl⟩) (c : PySem.W.codeIn K cdv "_law_any_text" = true) (k : PySem.W.keepIn K (.ref f) = true) : DfF K mg d__law_any_text :=
  dff_mk X G a l c k (fun _ _ _ _ _ _ us hl => match us, hl with | [_], _ => rfl) (fun _ _ _ _ _ _ e he => absurd he List.not_mem_nil)
theorem f__law_is_name {K : PySem.W.Frag} {h : Heap} {mg : Str → Option Value} (X : K.In h) (G : h.Ns mainGlobals mg) {f : Addr} {oc : Value} {od an : Option Addr} {osl : Array (Option Value)} {kV doc pm cdv ct : Value} (a : PySem.W.nsIn K mainGlobals "_law_is_name" = some (some (.ref f))) (l : K.lookup f = some ⟨oc, od, .func (PySem.W.fnOf "_law_is_name" "_law_is_name" (defArgs d__law_is_name.st) (defBody d__law_is_name.st) (defScope d__law_is_name.st) .none kV doc pm an cdv ct), osl⟩) (c : PySem.W.codeIn K cdv "_law_is_name" = true) (k : PySem.W.keepIn K (.ref f) = true) : DfF K mg d__law_is_name :=
  dff_mk X G a l c k (fun _ _ _ _ _ _ us hl => match us, hl with | [_], _ => rfl) (fun _ _ _ _ _ _ e he => absurd he List.not_mem_nil)
theorem f__law_is_text {K : PySem.W.Frag} {h : Heap} {mg : Str → Option Value} (X : K.In h) (G : h.Ns mainGlobals mg) {f : Addr} {oc : Value} {od an : Option Addr} {osl : Array (Option Value)} {kV doc pm cdv ct : Value} (a : PySem.W.nsIn K mainGlobals "_law_is_text" = some (some (.ref f))) (l : K.lookup f = some ⟨oc, od, .func (PySem.W.fnOf "_law_is_text" "_law_is_text" (defArgs d__law_is_text.st) (defBody d__law_is_text.st) (defScope d__law_is_text.st) .none kV doc pm an cdv ct), osl⟩) (c : PySem.W.codeIn K cdv "_law_is_text" = true) (k : PySem.W.keepIn K (.ref f) = true) : DfF K mg d__law_is_text :=
  dff_mk X G a l c k (fun _ _ _ _ _ _ us hl => match us, hl with | [_], _ => rfl) (fun _ _ _ _ _ _ e he => absurd he List.not_mem_nil)
theorem f__law_due {K : PySem.W.Frag} {h : Heap} {mg : Str → Option Value} (X : K.In h) (G : h.Ns mainGlobals mg) {f : Addr} {oc : Value} {od an : Option Addr} {osl : Array (Option Value)} {kV doc pm cdv ct : Value} (a : PySem.W.nsIn K mainGlobals "_law_due" = some (some (.ref f))) (l : K.lookup f = some ⟨oc, od, .func (PySem.W.fnOf "_law_due" "_law_due" (defArgs d__law_due.st) (defBody d__law_due.st) (defScope d__law_due.st) .none kV doc pm an cdv ct), osl⟩) (c : PySem.W.codeIn K cdv "_law_due" = true) (k : PySem.W.keepIn K (.ref f) = true) : DfF K mg d__law_due :=
  dff_mk X G a l c k (fun _ _ _ _ _ _ us hl => match us, hl with | [_, _, _, _, _], _ => rfl) (fun _ _ _ _ _ _ e he => absurd he List.not_mem_nil)
theorem f__law_told {K : PySem.W.Frag} {h : Heap} {mg : Str → Option Value} (X : K.In h) (G : h.Ns mainGlobals mg) {f : Addr} {oc : Value} {od an : Option Addr} {osl : Array (Option Value)} {kV doc pm cdv ct : Value} (a : PySem.W.nsIn K mainGlobals "_law_told" = some (some (.ref f))) (l : K.lookup f = some ⟨oc, od, .func (PySem.W.fnOf "_law_told" "_law_told" (defArgs d__law_told.st) (defBody d__law_told.st) (defScope d__law_told.st) .none kV doc pm an cdv ct), osl⟩) (c : PySem.W.codeIn K cdv "_law_told" = true) (k : PySem.W.keepIn K (.ref f) = true) : DfF K mg d__law_told :=
  dff_mk X G a l c k (fun _ _ _ _ _ _ us hl => match us, hl with | [_, _, _, _], _ => rfl) (fun _ _ _ _ _ _ e he => absurd he List.not_mem_nil)
theorem f__law_same {K : PySem.W.Frag} {h : Heap} {mg : Str → Option Value} (X : K.In h) (G : h.Ns mainGlobals mg) {f : Addr} {oc : Value} {od an : Option Addr} {osl : Array (Option Value)} {kV doc pm cdv ct : Value} (a : PySem.W.nsIn K mainGlobals "_law_same" = some (some (.ref f))) (l : K.lookup f = some ⟨oc, od, .func (PySem.W.fnOf "_law_same" "_law_same" (defArgs d__law_same.st) (defBody d__law_same.st) (defScope d__law_same.st) .none kV doc pm an cdv ct), osl⟩) (c : PySem.W.codeIn K cdv "_law_same" = true) (k : PySem.W.keepIn K (.ref f) = true) : DfF K mg d__law_same :=
  dff_mk X G a l c k (fun _ _ _ _ _ _ us hl => match us, hl with | [_, _], _ => rfl) (fun _ _ _ _ _ _ e he => absurd he List.not_mem_nil)
theorem f__law_alike {K : PySem.W.Frag} {h : Heap} {mg : Str → Option Value} (X : K.In h) (G : h.Ns mainGlobals mg) {f : Addr} {oc : Value} {od an : Option Addr} {osl : Array (Option Value)} {kV doc pm cdv ct : Value} (a : PySem.W.nsIn K mainGlobals "_law_alike" = some (some (.ref f))) (l : K.lookup f = some ⟨oc, od, .func (PySem.W.fnOf "_law_alike" "_law_alike" (defArgs d__law_alike.st) (defBody d__law_alike.st) (defScope d__law_alike.st) .none kV doc pm an cdv ct), osl⟩) (c : PySem.W.codeIn K cdv "_law_alike" = true) (k : PySem.W.keepIn K (.ref f) = true) : DfF K mg d__law_alike :=
  dff_mk X G a l c k (fun _ _ _ _ _ _ us hl => match us, hl with | [_, _, _], _ => rfl) (fun _ _ _ _ _ _ e he => absurd he List.not_mem_nil)
theorem f_law {K : PySem.W.Frag} {h : Heap} {mg : Str → Option Value} (X : K.In h) (G : h.Ns mainGlobals mg) {f : Addr} {oc : Value} {od an : Option Addr} {osl : Array (Option Value)} {kV doc pm cdv ct : Value} (a : PySem.W.nsIn K mainGlobals "law" = some (some (.ref f))) (l : K.lookup f = some ⟨oc, od, .func (PySem.W.fnOf "law" "law" (defArgs d_law.st) (defBody d_law.st) (defScope d_law.st) .none kV doc pm an cdv ct), osl⟩) (c : PySem.W.codeIn K cdv "law" = true) (k : PySem.W.keepIn K (.ref f) = true) : DfF K mg d_law :=
  dff_mk X G a l c k (fun _ _ _ _ _ _ us hl => match us, hl with | [_], _ => rfl) (fun _ _ _ _ _ _ e he => absurd he List.not_mem_nil)
theorem all_F {K : PySem.W.Frag} {mg : Str → Option Value} (h0 : DfF K mg d_is_signs) (h1 : DfF K mg d_is_file_name) (h2 : DfF K mg d__law_cell) (h3 : DfF K mg d__law_box) (h4 : DfF K mg d__law_take) (h5 : DfF K mg d__law_signs) (h6 : DfF K mg d__law_marks) (h7 : DfF K mg d__law_pool) (h8 : DfF K mg d__law_word) (h9 : DfF K mg d__law_any_name) (h10 : DfF K mg d__law_any_text) (h11 : DfF K mg d__law_is_name) (h12 : DfF K mg d__law_is_text) (h13 : DfF K mg d__law_due) (h14 : DfF K mg d__law_told) (h15 : DfF K mg d__law_same) (h16 : DfF K mg d__law_alike) (h17 : DfF K mg d_law) : ∀ d ∈ ds, tb.fs.contains d.x = true → DfF K mg d :=
  List.forall_mem_cons.mpr ⟨fun q => absurd q (by decide +kernel), List.forall_mem_cons.mpr ⟨fun q => absurd q (by decide +kernel), List.forall_mem_cons.mpr ⟨fun q => absurd q (by decide +kernel), List.forall_mem_cons.mpr ⟨fun q => absurd q (by decide +kernel), List.forall_mem_cons.mpr ⟨fun q => absurd q (by decide +kernel), List.forall_mem_cons.mpr ⟨fun q => absurd q (by decide +kernel), List.forall_mem_cons.mpr ⟨fun q => absurd q (by decide +kernel), List.forall_mem_cons.mpr ⟨fun q => absurd q (by decide +kernel), List.forall_mem_cons.mpr ⟨fun q => absurd q (by decide +kernel), List.forall_mem_cons.mpr ⟨fun q => absurd q (by decide +kernel), List.forall_mem_cons.mpr ⟨fun _ => h0, List.forall_mem_cons.mpr ⟨fun _ => h1, List.forall_mem_cons.mpr ⟨fun _ => h2, List.forall_mem_cons.mpr ⟨fun _ => h3, List.forall_mem_cons.mpr ⟨fun _ => h4, List.forall_mem_cons.mpr ⟨fun _ => h5, List.forall_mem_cons.mpr ⟨fun _ => h6, List.forall_mem_cons.mpr ⟨fun _ => h7, List.forall_mem_cons.mpr ⟨fun _ => h8, List.forall_mem_cons.mpr ⟨fun _ => h9, List.forall_mem_cons.mpr ⟨fun _ => h10, List.forall_mem_cons.mpr ⟨fun _ => h11, List.forall_mem_cons.mpr ⟨fun _ => h12, List.forall_mem_cons.mpr ⟨fun _ => h13, List.forall_mem_cons.mpr ⟨fun _ => h14, List.forall_mem_cons.mpr ⟨fun _ => h15, List.forall_mem_cons.mpr ⟨fun _ => h16, List.forall_mem_cons.mpr ⟨fun _ => h17, fun e he => absurd he List.not_mem_nil⟩⟩⟩⟩⟩⟩⟩⟩⟩⟩⟩⟩⟩⟩⟩⟩⟩⟩⟩⟩⟩⟩⟩⟩⟩⟩⟩⟩
theorem fs_ok : tb.fs.all (fun f => (ds.map (·.x)).contains f) = true := by decide +kernel
theorem mkw_ok : ds.all (mkwOk tb) = true := by decide +kernel
theorem m_Disk_synced {K : PySem.W.Frag} {C f : Addr} {oc : Value} {od an : Option Addr} {osl : Array (Option Value)} {kV doc pm cdv ct : Value} (a : PySem.W.nsIn K mainGlobals "Disk" = some (some (.ref C))) (z : clsB K C [] = true) (i : PySem.W.findIn K (.ref C) "synced" = some (some (.ref f))) (fn : PySem.W.isFn K (.ref f) = true) (l : K.lookup f = some ⟨oc, od, .func (PySem.W.fnOf "synced" "Disk.synced" (defArgs d_Disk_synced.st) (defBody d_Disk_synced.st) (defScope d_Disk_synced.st) .none kV doc pm an cdv ct), osl⟩) (cc : PySem.W.codeIn K cdv "Disk.synced" = true) (kk : PySem.W.keepIn K (.ref f) = true) : MdF K (nmOf K) "Disk" "synced" d_Disk_synced :=
  md_mk a z i fn l cc kk (fun _ _ _ _ _ _ us hl => match us, hl with | [_, _], _ => rfl) (fun _ _ _ _ _ _ => List.forall_mem_cons.mpr ⟨fun us ws h1 h2 => match us, ws, h1, h2 with | [_], [_], _, _ => rfl, fun e he => absurd he List.not_mem_nil⟩)
theorem m_Disk_read {K : PySem.W.Frag} {C f : Addr} {oc : Value} {od an : Option Addr} {osl : Array (Option Value)} {kV doc pm cdv ct : Value} (a : PySem.W.nsIn K mainGlobals "Disk" = some (some (.ref C))) (z : clsB K C [] = true) (i : PySem.W.findIn K (.ref C) "read" = some (some (.ref f))) (fn : PySem.W.isFn K (.ref f) = true) (l : K.lookup f = some ⟨oc, od, .func (PySem.W.fnOf "read" "Disk.read" (defArgs d_Disk_read.st) (defBody d_Disk_read.st) (defScope d_Disk_read.st) .none kV doc pm an cdv ct), osl⟩) (cc : PySem.W.codeIn K cdv "Disk.read" = true) (kk : PySem.W.keepIn K (.ref f) = true) : MdF K (nmOf K) "Disk" "read" d_Disk_read :=
  md_mk a z i fn l cc kk (fun _ _ _ _ _ _ us hl => match us, hl with | [_, _], _ => rfl) (fun _ _ _ _ _ _ => List.forall_mem_cons.mpr ⟨fun us ws h1 h2 => match us, ws, h1, h2 with | [_], [_], _, _ => rfl, fun e he => absurd he List.not_mem_nil⟩)
theorem m_Disk_drop {K : PySem.W.Frag} {C f : Addr} {oc : Value} {od an : Option Addr} {osl : Array (Option Value)} {kV doc pm cdv ct : Value} (a : PySem.W.nsIn K mainGlobals "Disk" = some (some (.ref C))) (z : clsB K C [] = true) (i : PySem.W.findIn K (.ref C) "drop" = some (some (.ref f))) (fn : PySem.W.isFn K (.ref f) = true) (l : K.lookup f = some ⟨oc, od, .func (PySem.W.fnOf "drop" "Disk.drop" (defArgs d_Disk_drop.st) (defBody d_Disk_drop.st) (defScope d_Disk_drop.st) .none kV doc pm an cdv ct), osl⟩) (cc : PySem.W.codeIn K cdv "Disk.drop" = true) (kk : PySem.W.keepIn K (.ref f) = true) : MdF K (nmOf K) "Disk" "drop" d_Disk_drop :=
  md_mk a z i fn l cc kk (fun _ _ _ _ _ _ us hl => match us, hl with | [_, _], _ => rfl) (fun _ _ _ _ _ _ => List.forall_mem_cons.mpr ⟨fun us ws h1 h2 => match us, ws, h1, h2 with | [_], [_], _, _ => rfl, fun e he => absurd he List.not_mem_nil⟩)
theorem m_Disk_sync {K : PySem.W.Frag} {C f : Addr} {oc : Value} {od an : Option Addr} {osl : Array (Option Value)} {kV doc pm cdv ct : Value} (a : PySem.W.nsIn K mainGlobals "Disk" = some (some (.ref C))) (z : clsB K C [] = true) (i : PySem.W.findIn K (.ref C) "sync" = some (some (.ref f))) (fn : PySem.W.isFn K (.ref f) = true) (l : K.lookup f = some ⟨oc, od, .func (PySem.W.fnOf "sync" "Disk.sync" (defArgs d_Disk_sync.st) (defBody d_Disk_sync.st) (defScope d_Disk_sync.st) .none kV doc pm an cdv ct), osl⟩) (cc : PySem.W.codeIn K cdv "Disk.sync" = true) (kk : PySem.W.keepIn K (.ref f) = true) : MdF K (nmOf K) "Disk" "sync" d_Disk_sync :=
  md_mk a z i fn l cc kk (fun _ _ _ _ _ _ us hl => match us, hl with | [_, _], _ => rfl) (fun _ _ _ _ _ _ => List.forall_mem_cons.mpr ⟨fun us ws h1 h2 => match us, ws, h1, h2 with | [_], [_], _, _ => rfl, fun e he => absurd he List.not_mem_nil⟩)
theorem m_Disk_write {K : PySem.W.Frag} {C f : Addr} {oc : Value} {od an : Option Addr} {osl : Array (Option Value)} {kV doc pm cdv ct : Value} (a : PySem.W.nsIn K mainGlobals "Disk" = some (some (.ref C))) (z : clsB K C [] = true) (i : PySem.W.findIn K (.ref C) "write" = some (some (.ref f))) (fn : PySem.W.isFn K (.ref f) = true) (l : K.lookup f = some ⟨oc, od, .func (PySem.W.fnOf "write" "Disk.write" (defArgs d_Disk_write.st) (defBody d_Disk_write.st) (defScope d_Disk_write.st) .none kV doc pm an cdv ct), osl⟩) (cc : PySem.W.codeIn K cdv "Disk.write" = true) (kk : PySem.W.keepIn K (.ref f) = true) : MdF K (nmOf K) "Disk" "write" d_Disk_write :=
  md_mk a z i fn l cc kk (fun _ _ _ _ _ _ us hl => match us, hl with | [_, _, _], _ => rfl) (fun _ _ _ _ _ _ => List.forall_mem_cons.mpr ⟨fun us ws h1 h2 => match us, ws, h1, h2 with | [_], [_, _], _, _ => rfl, fun e he => absurd he List.not_mem_nil⟩)
theorem m_Disk_names {K : PySem.W.Frag} {C f : Addr} {oc : Value} {od an : Option Addr} {osl : Array (Option Value)} {kV doc pm cdv ct : Value} (a : PySem.W.nsIn K mainGlobals "Disk" = some (some (.ref C))) (z : clsB K C [] = true) (i : PySem.W.findIn K (.ref C) "names" = some (some (.ref f))) (fn : PySem.W.isFn K (.ref f) = true) (l : K.lookup f = some ⟨oc, od, .func (PySem.W.fnOf "names" "Disk.names" (defArgs d_Disk_names.st) (defBody d_Disk_names.st) (defScope d_Disk_names.st) .none kV doc pm an cdv ct), osl⟩) (cc : PySem.W.codeIn K cdv "Disk.names" = true) (kk : PySem.W.keepIn K (.ref f) = true) : MdF K (nmOf K) "Disk" "names" d_Disk_names :=
  md_mk a z i fn l cc kk (fun _ _ _ _ _ _ us hl => match us, hl with | [_], _ => rfl) (fun _ _ _ _ _ _ e he => absurd he List.not_mem_nil)
theorem m_Disk_ops {K : PySem.W.Frag} {C f : Addr} {oc : Value} {od an : Option Addr} {osl : Array (Option Value)} {kV doc pm cdv ct : Value} (a : PySem.W.nsIn K mainGlobals "Disk" = some (some (.ref C))) (z : clsB K C [] = true) (i : PySem.W.findIn K (.ref C) "ops" = some (some (.ref f))) (fn : PySem.W.isFn K (.ref f) = true) (l : K.lookup f = some ⟨oc, od, .func (PySem.W.fnOf "ops" "Disk.ops" (defArgs d_Disk_ops.st) (defBody d_Disk_ops.st) (defScope d_Disk_ops.st) .none kV doc pm an cdv ct), osl⟩) (cc : PySem.W.codeIn K cdv "Disk.ops" = true) (kk : PySem.W.keepIn K (.ref f) = true) : MdF K (nmOf K) "Disk" "ops" d_Disk_ops :=
  md_mk a z i fn l cc kk (fun _ _ _ _ _ _ us hl => match us, hl with | [_], _ => rfl) (fun _ _ _ _ _ _ e he => absurd he List.not_mem_nil)
theorem n_Disk___init__ {K : PySem.W.Frag} {h : Heap} {mg : Str → Option Value} (X : K.In h) (G : h.Ns mainGlobals mg) {C f : Addr} {oc : Value} {od an : Option Addr} {osl : Array (Option Value)} {kV doc pm cdv ct : Value} (a : PySem.W.nsIn K mainGlobals "Disk" = some (some (.ref C))) (mk : PySem.W.makesIn K C = true) (i : PySem.W.findIn K (.ref C) "__init__" = some (some (.ref f))) (fn : PySem.W.isFn K (.ref f) = true) (kc : PySem.W.keepIn K (.ref C) = true) (l : K.lookup f = some ⟨oc, od, .func (PySem.W.fnOf "__init__" "Disk.__init__" (defArgs d_Disk___init__.st) (defBody d_Disk___init__.st) (defScope d_Disk___init__.st) .none kV doc pm an cdv ct), osl⟩) (cc : PySem.W.codeIn K cdv "Disk.__init__" = true) (kk : PySem.W.keepIn K (.ref f) = true) : NwF K (nmOf K) mg "Disk" d_Disk___init__ :=
  nw_mk X G a mk i fn kc l cc kk (fun _ _ _ _ _ _ us hl => match us, hl with | [_], _ => rfl)
theorem m_Disk_check_file {K : PySem.W.Frag} {C f : Addr} {oc : Value} {od an : Option Addr} {osl : Array (Option Value)} {kV doc pm cdv ct : Value} (a : PySem.W.nsIn K mainGlobals "Disk" = some (some (.ref C))) (z : clsB K C [] = true) (i : PySem.W.findIn K (.ref C) "check_file" = some (some (.ref f))) (fn : PySem.W.isFn K (.ref f) = true) (l : K.lookup f = some ⟨oc, od, .func (PySem.W.fnOf "check_file" "Disk.check_file" (defArgs d_Disk_check_file.st) (defBody d_Disk_check_file.st) (defScope d_Disk_check_file.st) .none kV doc pm an cdv ct), osl⟩) (cc : PySem.W.codeIn K cdv "Disk.check_file" = true) (kk : PySem.W.keepIn K (.ref f) = true) : MdF K (nmOf K) "Disk" "check_file" d_Disk_check_file :=
  md_mk a z i fn l cc kk (fun _ _ _ _ _ _ us hl => match us, hl with | [_, _], _ => rfl) (fun _ _ _ _ _ _ e he => absurd he List.not_mem_nil)
theorem m_Disk_use_power {K : PySem.W.Frag} {C f : Addr} {oc : Value} {od an : Option Addr} {osl : Array (Option Value)} {kV doc pm cdv ct : Value} (a : PySem.W.nsIn K mainGlobals "Disk" = some (some (.ref C))) (z : clsB K C [] = true) (i : PySem.W.findIn K (.ref C) "use_power" = some (some (.ref f))) (fn : PySem.W.isFn K (.ref f) = true) (l : K.lookup f = some ⟨oc, od, .func (PySem.W.fnOf "use_power" "Disk.use_power" (defArgs d_Disk_use_power.st) (defBody d_Disk_use_power.st) (defScope d_Disk_use_power.st) .none kV doc pm an cdv ct), osl⟩) (cc : PySem.W.codeIn K cdv "Disk.use_power" = true) (kk : PySem.W.keepIn K (.ref f) = true) : MdF K (nmOf K) "Disk" "use_power" d_Disk_use_power :=
  md_mk a z i fn l cc kk (fun _ _ _ _ _ _ us hl => match us, hl with | [_], _ => rfl) (fun _ _ _ _ _ _ e he => absurd he List.not_mem_nil)
theorem all_ms {K : PySem.W.Frag} {nm : Nm} (h0 : MdF K nm "Disk" "synced" d_Disk_synced) (h1 : MdF K nm "Disk" "read" d_Disk_read) (h2 : MdF K nm "Disk" "drop" d_Disk_drop) (h3 : MdF K nm "Disk" "sync" d_Disk_sync) (h4 : MdF K nm "Disk" "write" d_Disk_write) (h5 : MdF K nm "Disk" "names" d_Disk_names) (h6 : MdF K nm "Disk" "ops" d_Disk_ops) (h7 : MdF K nm "Disk" "check_file" d_Disk_check_file) (h8 : MdF K nm "Disk" "use_power" d_Disk_use_power) : ∀ c m f, tb.ms.contains (c, m, f) = true → ∃ d, findD ds f = some d ∧ MdF K nm c m d :=
  ms_of (List.forall_mem_cons.mpr ⟨⟨d_Disk_synced, rfl, h0⟩, List.forall_mem_cons.mpr ⟨⟨d_Disk_read, rfl, h1⟩, List.forall_mem_cons.mpr ⟨⟨d_Disk_drop, rfl, h2⟩, List.forall_mem_cons.mpr ⟨⟨d_Disk_sync, rfl, h3⟩, List.forall_mem_cons.mpr ⟨⟨d_Disk_write, rfl, h4⟩, List.forall_mem_cons.mpr ⟨⟨d_Disk_names, rfl, h5⟩, List.forall_mem_cons.mpr ⟨⟨d_Disk_ops, rfl, h6⟩, List.forall_mem_cons.mpr ⟨⟨d_Disk_check_file, rfl, h7⟩, List.forall_mem_cons.mpr ⟨⟨d_Disk_use_power, rfl, h8⟩, fun e he => absurd he List.not_mem_nil⟩⟩⟩⟩⟩⟩⟩⟩⟩)
theorem all_nw {K : PySem.W.Frag} {nm : Nm} {mg : Str → Option Value} (h0 : NwF K nm mg "Disk" d_Disk___init__) : ∀ c f, tb.nw.contains (c, f) = true → ∃ d, findD ds f = some d ∧ NwF K nm mg c d :=
  nw_of (List.forall_mem_cons.mpr ⟨⟨d_Disk___init__, rfl, h0⟩, fun e he => absurd he List.not_mem_nil⟩)
theorem all_cl {K : PySem.W.Frag} {nm : Nm} (h0 : ClsK K nm "Disk" ["marks", "files", "calls", "left"]) : ∀ c fl, tb.cl.lookup c = some fl → ClsK K nm c fl :=
  cl_cons h0 (cl_nil)
theorem all_bs {mg : Str → Option Value} (b0 : mg "isinstance" = none) (b1 : mg "str" = none) (b2 : mg "all" = none) (b3 : mg "len" = none) (b4 : mg "sum" = none) (b5 : mg "int" = none) (b6 : mg "abs" = none) (b7 : mg "range" = none) (b8 : mg "dict" = none) (b9 : mg "sorted" = none) (b10 : mg "list" = none) (b11 : mg "repr" = none) (b12 : mg "max" = none) (b13 : mg "min" = none) : ∀ x, tb.bs.contains x = true → mg x = none :=
  bs_of (List.forall_mem_cons.mpr ⟨b0, List.forall_mem_cons.mpr ⟨b1, List.forall_mem_cons.mpr ⟨b2, List.forall_mem_cons.mpr ⟨b3, List.forall_mem_cons.mpr ⟨b4, List.forall_mem_cons.mpr ⟨b5, List.forall_mem_cons.mpr ⟨b6, List.forall_mem_cons.mpr ⟨b7, List.forall_mem_cons.mpr ⟨b8, List.forall_mem_cons.mpr ⟨b9, List.forall_mem_cons.mpr ⟨b10, List.forall_mem_cons.mpr ⟨b11, List.forall_mem_cons.mpr ⟨b12, List.forall_mem_cons.mpr ⟨b13, fun e he => absurd he List.not_mem_nil⟩⟩⟩⟩⟩⟩⟩⟩⟩⟩⟩⟩⟩⟩)
theorem all_cs {K : PySem.W.Frag} {mg : Str → Option Value} (c0 : glV K mg "NAME_SIGNS" (.str "abcdefghijklmnopqrstuvwxyz0123456789-")) (c1 : glV K mg "MOST_NAME" (.int 12)) : ∀ x v, tb.cs.lookup x = some v → glV K mg x v :=
  cs_cons c0 (cs_cons c1 (cs_nil))
theorem x_InvalidKeeps {K : PySem.W.Frag} {h : Heap} {mg : Str → Option Value} (X : K.In h) (G : h.Ns mainGlobals mg) {C BA fI : Addr} {oc : Value} {od an : Option Addr} {osl : Array (Option Value)} {kV doc pm cdv ct : Value} (a : PySem.W.nsIn K mainGlobals "InvalidKeeps" = some (some (.ref C))) (b : PySem.W.nsIn K mainGlobals "QueueError" = some (some (.ref BA))) (i : PySem.W.findIn K (.ref C) "__init__" = some (some (.ref fI))) (l : K.lookup fI = some ⟨oc, od, .func (PySem.W.fnOf "__init__" "InvalidKeeps.__init__" (defArgs (initSt (top 3))) (defBody (initSt (top 3))) (defScope (initSt (top 3))) .none kV doc pm an cdv ct), osl⟩) (cc : PySem.W.codeIn K cdv "InvalidKeeps.__init__" = true) (kk : PySem.W.keepIn K (.ref fI) = true) (z : xAllB K C BA fI ["given"] = true) (P : Program) (w : World) (base : Heap) : XMk P w K mg base (nmOf K) "InvalidKeeps" ["given"] ∧ XRd K (nmOf K) "InvalidKeeps" ["given"] :=
  xs_mk X G (N := ["self", "given"]) a b i l cc kk z (fun _ _ _ _ _ _ us hl => match us, hl with | [_, _], _ => rfl) (by decide +kernel) (by decide +kernel) (by decide +kernel) P w base
theorem x_InvalidName {K : PySem.W.Frag} {h : Heap} {mg : Str → Option Value} (X : K.In h) (G : h.Ns mainGlobals mg) {C BA fI : Addr} {oc : Value} {od an : Option Addr} {osl : Array (Option Value)} {kV doc pm cdv ct : Value} (a : PySem.W.nsIn K mainGlobals "InvalidName" = some (some (.ref C))) (b : PySem.W.nsIn K mainGlobals "QueueError" = some (some (.ref BA))) (i : PySem.W.findIn K (.ref C) "__init__" = some (some (.ref fI))) (l : K.lookup fI = some ⟨oc, od, .func (PySem.W.fnOf "__init__" "InvalidName.__init__" (defArgs (initSt (top 4))) (defBody (initSt (top 4))) (defScope (initSt (top 4))) .none kV doc pm an cdv ct), osl⟩) (cc : PySem.W.codeIn K cdv "InvalidName.__init__" = true) (kk : PySem.W.keepIn K (.ref fI) = true) (z : xAllB K C BA fI ["given"] = true) (P : Program) (w : World) (base : Heap) : XMk P w K mg base (nmOf K) "InvalidName" ["given"] ∧ XRd K (nmOf K) "InvalidName" ["given"] :=
  xs_mk X G (N := ["self", "given"]) a b i l cc kk z (fun _ _ _ _ _ _ us hl => match us, hl with | [_, _], _ => rfl) (by decide +kernel) (by decide +kernel) (by decide +kernel) P w base
theorem x_InvalidText {K : PySem.W.Frag} {h : Heap} {mg : Str → Option Value} (X : K.In h) (G : h.Ns mainGlobals mg) {C BA fI : Addr} {oc : Value} {od an : Option Addr} {osl : Array (Option Value)} {kV doc pm cdv ct : Value} (a : PySem.W.nsIn K mainGlobals "InvalidText" = some (some (.ref C))) (b : PySem.W.nsIn K mainGlobals "QueueError" = some (some (.ref BA))) (i : PySem.W.findIn K (.ref C) "__init__" = some (some (.ref fI))) (l : K.lookup fI = some ⟨oc, od, .func (PySem.W.fnOf "__init__" "InvalidText.__init__" (defArgs (initSt (top 5))) (defBody (initSt (top 5))) (defScope (initSt (top 5))) .none kV doc pm an cdv ct), osl⟩) (cc : PySem.W.codeIn K cdv "InvalidText.__init__" = true) (kk : PySem.W.keepIn K (.ref fI) = true) (z : xAllB K C BA fI ["given"] = true) (P : Program) (w : World) (base : Heap) : XMk P w K mg base (nmOf K) "InvalidText" ["given"] ∧ XRd K (nmOf K) "InvalidText" ["given"] :=
  xs_mk X G (N := ["self", "given"]) a b i l cc kk z (fun _ _ _ _ _ _ us hl => match us, hl with | [_, _], _ => rfl) (by decide +kernel) (by decide +kernel) (by decide +kernel) P w base
theorem x_NoFile {K : PySem.W.Frag} {h : Heap} {mg : Str → Option Value} (X : K.In h) (G : h.Ns mainGlobals mg) {C BA fI : Addr} {oc : Value} {od an : Option Addr} {osl : Array (Option Value)} {kV doc pm cdv ct : Value} (a : PySem.W.nsIn K mainGlobals "NoFile" = some (some (.ref C))) (b : PySem.W.nsIn K mainGlobals "QueueError" = some (some (.ref BA))) (i : PySem.W.findIn K (.ref C) "__init__" = some (some (.ref fI))) (l : K.lookup fI = some ⟨oc, od, .func (PySem.W.fnOf "__init__" "NoFile.__init__" (defArgs (initSt (top 7))) (defBody (initSt (top 7))) (defScope (initSt (top 7))) .none kV doc pm an cdv ct), osl⟩) (cc : PySem.W.codeIn K cdv "NoFile.__init__" = true) (kk : PySem.W.keepIn K (.ref fI) = true) (z : xAllB K C BA fI ["name"] = true) (P : Program) (w : World) (base : Heap) : XMk P w K mg base (nmOf K) "NoFile" ["name"] ∧ XRd K (nmOf K) "NoFile" ["name"] :=
  xs_mk X G (N := ["self", "name"]) a b i l cc kk z (fun _ _ _ _ _ _ us hl => match us, hl with | [_, _], _ => rfl) (by decide +kernel) (by decide +kernel) (by decide +kernel) P w base
theorem all_xs {P : Program} {w : World} {K : PySem.W.Frag} {mg : Str → Option Value} {base : Heap} {nm : Nm} (h0 : XMk P w K mg base nm "InvalidKeeps" ["given"] ∧ XRd K nm "InvalidKeeps" ["given"]) (h1 : XMk P w K mg base nm "InvalidName" ["given"] ∧ XRd K nm "InvalidName" ["given"]) (h2 : XMk P w K mg base nm "InvalidText" ["given"] ∧ XRd K nm "InvalidText" ["given"]) (h3 : XMk P w K mg base nm "NoFile" ["name"] ∧ XRd K nm "NoFile" ["name"]) : ∀ c fl, tb.xs.lookup c = some fl → XMk P w K mg base nm c fl ∧ XRd K nm c fl :=
  xs_cons h0 (xs_cons h1 (xs_cons h2 (xs_cons h3 (xs_nil))))
theorem all_xm {K : PySem.W.Frag} {mg : Str → Option Value} {nm : Nm} (h0 : XIn K nm mg "InvalidName" "InvalidName" true) (h1 : XIn K nm mg "InvalidKeeps" "InvalidName" false) (h2 : XIn K nm mg "InvalidText" "InvalidName" false) (h3 : XIn K nm mg "NoFile" "InvalidName" false) (h4 : XIn K nm mg "InvalidText" "InvalidText" true) (h5 : XIn K nm mg "InvalidKeeps" "InvalidText" false) (h6 : XIn K nm mg "InvalidName" "InvalidText" false) (h7 : XIn K nm mg "NoFile" "InvalidText" false) (h8 : XIn K nm mg "NoFile" "NoFile" true) (h9 : XIn K nm mg "InvalidKeeps" "NoFile" false) (h10 : XIn K nm mg "InvalidName" "NoFile" false) (h11 : XIn K nm mg "InvalidText" "NoFile" false) : ∀ y c b, tb.xm.contains (y, c, b) = true → XIn K nm mg y c b :=
  xm_of (List.forall_mem_cons.mpr ⟨h0, List.forall_mem_cons.mpr ⟨h1, List.forall_mem_cons.mpr ⟨h2, List.forall_mem_cons.mpr ⟨h3, List.forall_mem_cons.mpr ⟨h4, List.forall_mem_cons.mpr ⟨h5, List.forall_mem_cons.mpr ⟨h6, List.forall_mem_cons.mpr ⟨h7, List.forall_mem_cons.mpr ⟨h8, List.forall_mem_cons.mpr ⟨h9, List.forall_mem_cons.mpr ⟨h10, List.forall_mem_cons.mpr ⟨h11, fun e he => absurd he List.not_mem_nil⟩⟩⟩⟩⟩⟩⟩⟩⟩⟩⟩⟩)
theorem all_xc {mg : Str → Option Value} (h0 : ∃ D, mg "InvalidName" = some (.ref D)) (h1 : ∃ D, mg "InvalidText" = some (.ref D)) (h2 : ∃ D, mg "NoFile" = some (.ref D)) : ∀ c, tb.xc.contains c = true → ∃ D, mg c = some (.ref D) :=
  xc_of (List.forall_mem_cons.mpr ⟨h0, List.forall_mem_cons.mpr ⟨h1, List.forall_mem_cons.mpr ⟨h2, fun e he => absurd he List.not_mem_nil⟩⟩⟩)
end K06

open PySem PySem.W PyProof.Rows in
theorem PySem.Challenge.cw_keptinorder_k06_files_and_what_is_synced_holds : PySem.Challenge.rw_keptinorder_k06_files_and_what_is_synced.Holds := by
  w_on; o_law; k_head; (case hw => w_witness2)
  k_fill
  refine Ko.walkG (l := PySem.Challenge.rw_keptinorder_k06_files_and_what_is_synced) (k := 21) (x := "script") (sem := (Ko.ops K06.ds 21).call "law") rfl (by decide) rfl ⟨rfl, by decide, by decide⟩ ?hq (fun w h Y => PySem.W.kIn_of Y) ?nl ?F K06.law_true
  case hq => decide +kernel
  case nl => exact fun _ => rfl
  case F =>
    intro w mg fa h KX G hmg
    refine' Ko.law_F (y := "law") (dl := K06.d_law) (tb := K06.tb) (ds := K06.ds) K06.fs_ok (K06.all_F (K06.f_is_signs KX G ?a0 ?l0 ?c0 ?k0) (K06.f_is_file_name KX G ?a1 ?l1 ?c1 ?k1) (K06.f__law_cell KX G ?a2 ?l2 ?c2 ?k2) (K06.f__law_box KX G ?a3 ?l3 ?c3 ?k3) (K06.f__law_take KX G ?a4 ?l4 ?c4 ?k4) (K06.f__law_signs KX G ?a5 ?l5 ?c5 ?k5) (K06.f__law_marks KX G ?a6 ?l6 ?c6 ?k6) (K06.f__law_pool KX G ?a7 ?l7 ?c7 ?k7) (K06.f__law_word KX G ?a8 ?l8 ?c8 ?k8) (K06.f__law_any_name KX G ?a9 ?l9 ?c9 ?k9) (K06.f__law_any_text KX G ?a10 ?l10 ?c10 ?k10) (K06.f__law_is_name KX G ?a11 ?l11 ?c11 ?k11) (K06.f__law_is_text KX G ?a12 ?l12 ?c12 ?k12) (K06.f__law_due KX G ?a13 ?l13 ?c13 ?k13) (K06.f__law_told KX G ?a14 ?l14 ?c14 ?k14) (K06.f__law_same KX G ?a15 ?l15 ?c15 ?k15) (K06.f__law_alike KX G ?a16 ?l16 ?c16 ?k16) (K06.f_law KX G ?a17 ?l17 ?c17 ?k17)) K06.ds_ok K06.kw_ok (K06.all_bs (PySem.W.mg_none_of KX G ?b0) (PySem.W.mg_none_of KX G ?b1) (PySem.W.mg_none_of KX G ?b2) (PySem.W.mg_none_of KX G ?b3) (PySem.W.mg_none_of KX G ?b4) (PySem.W.mg_none_of KX G ?b5) (PySem.W.mg_none_of KX G ?b6) (PySem.W.mg_none_of KX G ?b7) (PySem.W.mg_none_of KX G ?b8) (PySem.W.mg_none_of KX G ?b9) (PySem.W.mg_none_of KX G ?b10) (PySem.W.mg_none_of KX G ?b11) (PySem.W.mg_none_of KX G ?b12) (PySem.W.mg_none_of KX G ?b13)) (K06.all_cs (Ko.gl_str KX G ?v0) (Ko.gl_int KX G ?v1)) (fun base => K06.all_xs (K06.x_InvalidKeeps KX G ?xa0 ?xb0 ?xi0 ?xl0 ?xc0 ?xk0 ?xq0 _ _ base) (K06.x_InvalidName KX G ?xa1 ?xb1 ?xi1 ?xl1 ?xc1 ?xk1 ?xq1 _ _ base) (K06.x_InvalidText KX G ?xa2 ?xb2 ?xi2 ?xl2 ?xc2 ?xk2 ?xq2 _ _ base) (K06.x_NoFile KX G ?xa3 ?xb3 ?xi3 ?xl3 ?xc3 ?xk3 ?xq3 _ _ base)) (K06.all_xm (Ko.xm_mk KX G ?ma0 ?md0 ?me0 ?mf0) (Ko.xm_mk KX G ?ma1 ?md1 ?me1 ?mf1) (Ko.xm_mk KX G ?ma2 ?md2 ?me2 ?mf2) (Ko.xm_mk KX G ?ma3 ?md3 ?me3 ?mf3) (Ko.xm_mk KX G ?ma4 ?md4 ?me4 ?mf4) (Ko.xm_mk KX G ?ma5 ?md5 ?me5 ?mf5) (Ko.xm_mk KX G ?ma6 ?md6 ?me6 ?mf6) (Ko.xm_mk KX G ?ma7 ?md7 ?me7 ?mf7) (Ko.xm_mk KX G ?ma8 ?md8 ?me8 ?mf8) (Ko.xm_mk KX G ?ma9 ?md9 ?me9 ?mf9) (Ko.xm_mk KX G ?ma10 ?md10 ?me10 ?mf10) (Ko.xm_mk KX G ?ma11 ?md11 ?me11 ?mf11)) (K06.all_xc (Ko.xc_mk KX G ?xd0) (Ko.xc_mk KX G ?xd1) (Ko.xc_mk KX G ?xd2)) ⟨K06.all_cl (Ko.cls_mk ?ca0 ?cq0), K06.all_ms (K06.m_Disk_synced ?ya0 ?yz0 ?yi0 ?yf0 ?yl0 ?yc0 ?yk0) (K06.m_Disk_read ?ya1 ?yz1 ?yi1 ?yf1 ?yl1 ?yc1 ?yk1) (K06.m_Disk_drop ?ya2 ?yz2 ?yi2 ?yf2 ?yl2 ?yc2 ?yk2) (K06.m_Disk_sync ?ya3 ?yz3 ?yi3 ?yf3 ?yl3 ?yc3 ?yk3) (K06.m_Disk_write ?ya4 ?yz4 ?yi4 ?yf4 ?yl4 ?yc4 ?yk4) (K06.m_Disk_names ?ya5 ?yz5 ?yi5 ?yf5 ?yl5 ?yc5 ?yk5) (K06.m_Disk_ops ?ya6 ?yz6 ?yi6 ?yf6 ?yl6 ?yc6 ?yk6) (K06.m_Disk_check_file ?ya7 ?yz7 ?yi7 ?yf7 ?yl7 ?yc7 ?yk7) (K06.m_Disk_use_power ?ya8 ?yz8 ?yi8 ?yf8 ?yl8 ?yc8 ?yk8), K06.all_nw (K06.n_Disk___init__ KX G ?za0 ?zm0 ?zi0 ?zf0 ?zp0 ?zl0 ?zc0 ?zk0), K06.mkw_ok⟩ rfl rfl rfl ?mem (by decide +kernel) hmg
    (case a0 => k_is)
    (case l0 => k_is)
    (case c0 => k_is)
    (case k0 => k_is)
    (case a1 => k_is)
    (case l1 => k_is)
    (case c1 => k_is)
    (case k1 => k_is)
    (case a2 => k_is)
    (case l2 => k_is)
    (case c2 => k_is)
    (case k2 => k_is)
    (case a3 => k_is)
    (case l3 => k_is)
    (case c3 => k_is)
    (case k3 => k_is)
    (case a4 => k_is)
    (case l4 => k_is)
    (case c4 => k_is)
    (case k4 => k_is)
    (case a5 => k_is)
    (case l5 => k_is)
    (case c5 => k_is)
    (case k5 => k_is)
    (case a6 => k_is)
    (case l6 => k_is)
    (case c6 => k_is)
    (case k6 => k_is)
    (case a7 => k_is)
    (case l7 => k_is)
    (case c7 => k_is)
    (case k7 => k_is)
    (case a8 => k_is)
    (case l8 => k_is)
    (case c8 => k_is)
    (case k8 => k_is)
    (case a9 => k_is)
    (case l9 => k_is)
    (case c9 => k_is)
    (case k9 => k_is)
    (case a10 => k_is)
    (case l10 => k_is)
    (case c10 => k_is)
    (case k10 => k_is)
    (case a11 => k_is)
    (case l11 => k_is)
    (case c11 => k_is)
    (case k11 => k_is)
    (case a12 => k_is)
    (case l12 => k_is)
    (case c12 => k_is)
    (case k12 => k_is)
    (case a13 => k_is)
    (case l13 => k_is)
    (case c13 => k_is)
    (case k13 => k_is)
    (case a14 => k_is)
    (case l14 => k_is)
    (case c14 => k_is)
    (case k14 => k_is)
    (case a15 => k_is)
    (case l15 => k_is)
    (case c15 => k_is)
    (case k15 => k_is)
    (case a16 => k_is)
    (case l16 => k_is)
    (case c16 => k_is)
    (case k16 => k_is)
    (case a17 => k_is)
    (case l17 => k_is)
    (case c17 => k_is)
    (case k17 => k_is)
    (case b0 => k_is)
    (case b1 => k_is)
    (case b2 => k_is)
    (case b3 => k_is)
    (case b4 => k_is)
    (case b5 => k_is)
    (case b6 => k_is)
    (case b7 => k_is)
    (case b8 => k_is)
    (case b9 => k_is)
    (case b10 => k_is)
    (case b11 => k_is)
    (case b12 => k_is)
    (case b13 => k_is)
    (case v0 => k_is)
    (case v1 => k_is)
    (case xa0 => k_is)
    (case xb0 => k_is)
    (case xi0 => k_is)
    (case xl0 => k_is)
    (case xc0 => k_is)
    (case xk0 => k_is)
    (case xq0 => kernel_rfl)
    (case xa1 => k_is)
    (case xb1 => k_is)
    (case xi1 => k_is)
    (case xl1 => k_is)
    (case xc1 => k_is)
    (case xk1 => k_is)
    (case xq1 => kernel_rfl)
    (case xa2 => k_is)
    (case xb2 => k_is)
    (case xi2 => k_is)
    (case xl2 => k_is)
    (case xc2 => k_is)
    (case xk2 => k_is)
    (case xq2 => kernel_rfl)
    (case xa3 => k_is)
    (case xb3 => k_is)
    (case xi3 => k_is)
    (case xl3 => k_is)
    (case xc3 => k_is)
    (case xk3 => k_is)
    (case xq3 => kernel_rfl)
    (case ma0 => k_is)
    (case md0 => k_is)
    (case me0 => kernel_rfl)
    (case mf0 => kernel_rfl)
    (case ma1 => k_is)
    (case md1 => k_is)
    (case me1 => kernel_rfl)
    (case mf1 => kernel_rfl)
    (case ma2 => k_is)
    (case md2 => k_is)
    (case me2 => kernel_rfl)
    (case mf2 => kernel_rfl)
    (case ma3 => k_is)
    (case md3 => k_is)
    (case me3 => kernel_rfl)
    (case mf3 => kernel_rfl)
    (case ma4 => k_is)
    (case md4 => k_is)
    (case me4 => kernel_rfl)
    (case mf4 => kernel_rfl)
    (case ma5 => k_is)
    (case md5 => k_is)
    (case me5 => kernel_rfl)
    (case mf5 => kernel_rfl)
    (case ma6 => k_is)
    (case md6 => k_is)
    (case me6 => kernel_rfl)
    (case mf6 => kernel_rfl)
    (case ma7 => k_is)
    (case md7 => k_is)
    (case me7 => kernel_rfl)
    (case mf7 => kernel_rfl)
    (case ma8 => k_is)
    (case md8 => k_is)
    (case me8 => kernel_rfl)
    (case mf8 => kernel_rfl)
    (case ma9 => k_is)
    (case md9 => k_is)
    (case me9 => kernel_rfl)
    (case mf9 => kernel_rfl)
    (case ma10 => k_is)
    (case md10 => k_is)
    (case me10 => kernel_rfl)
    (case mf10 => kernel_rfl)
    (case ma11 => k_is)
    (case md11 => k_is)
    (case me11 => kernel_rfl)
    (case mf11 => kernel_rfl)
    (case xd0 => k_is)
    (case xd1 => k_is)
    (case xd2 => k_is)
    (case ca0 => k_is)
    (case cq0 => kernel_rfl)
    (case ya0 => k_is)
    (case yz0 => kernel_rfl)
    (case yi0 => k_is)
    (case yf0 => kernel_rfl)
    (case yl0 => k_is)
    (case yc0 => k_is)
    (case yk0 => k_is)
    (case ya1 => k_is)
    (case yz1 => kernel_rfl)
    (case yi1 => k_is)
    (case yf1 => kernel_rfl)
    (case yl1 => k_is)
    (case yc1 => k_is)
    (case yk1 => k_is)
    (case ya2 => k_is)
    (case yz2 => kernel_rfl)
    (case yi2 => k_is)
    (case yf2 => kernel_rfl)
    (case yl2 => k_is)
    (case yc2 => k_is)
    (case yk2 => k_is)
    (case ya3 => k_is)
    (case yz3 => kernel_rfl)
    (case yi3 => k_is)
    (case yf3 => kernel_rfl)
    (case yl3 => k_is)
    (case yc3 => k_is)
    (case yk3 => k_is)
    (case ya4 => k_is)
    (case yz4 => kernel_rfl)
    (case yi4 => k_is)
    (case yf4 => kernel_rfl)
    (case yl4 => k_is)
    (case yc4 => k_is)
    (case yk4 => k_is)
    (case ya5 => k_is)
    (case yz5 => kernel_rfl)
    (case yi5 => k_is)
    (case yf5 => kernel_rfl)
    (case yl5 => k_is)
    (case yc5 => k_is)
    (case yk5 => k_is)
    (case ya6 => k_is)
    (case yz6 => kernel_rfl)
    (case yi6 => k_is)
    (case yf6 => kernel_rfl)
    (case yl6 => k_is)
    (case yc6 => k_is)
    (case yk6 => k_is)
    (case ya7 => k_is)
    (case yz7 => kernel_rfl)
    (case yi7 => k_is)
    (case yf7 => kernel_rfl)
    (case yl7 => k_is)
    (case yc7 => k_is)
    (case yk7 => k_is)
    (case ya8 => k_is)
    (case yz8 => kernel_rfl)
    (case yi8 => k_is)
    (case yf8 => kernel_rfl)
    (case yl8 => k_is)
    (case yc8 => k_is)
    (case yk8 => k_is)
    (case za0 => k_is)
    (case zm0 => kernel_rfl)
    (case zi0 => k_is)
    (case zf0 => kernel_rfl)
    (case zp0 => k_is)
    (case zl0 => k_is)
    (case zc0 => k_is)
    (case zk0 => k_is)
    case mem => simp [K06.ds]
#print axioms PySem.Challenge.cw_keptinorder_k06_files_and_what_is_synced_holds

