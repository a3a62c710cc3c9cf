import PyProof.Rows.All
import Wide.All
import OpenK.AllK
import Wide.FinOn
import HandS.ForMost
import HandS.TupAny
import HandS.Rev
import HandS.IsInst
import KE.GoesMore
import KE.GoesEnum
import HandS.Wide
import HandS.ClsMeth
import PySem.Challenge.RW_figurebook_k21_choices_packed
set_option Elab.async false
set_option linter.all false
section
set_option maxRecDepth 100000
set_option maxHeartbeats 1000000
namespace Ab
open PySem L2

/-- data: values that never change -/
inductive D where
  | non | bl (b : Bool) | int (i : Int) | str (s : Str)
  | tup (xs : List D) | lst (xs : List D) | ins (c : String) (fs : List (Str × D))
  | ty (n : String) | cls (c : String)

/-- where classes stand -/
structure En where
  K : PySem.W.Frag
  cls : String → Addr

mutual
def Rep (e : En) (F : Hp) : D → V → Prop
  | .non, v => v = .non
  | .bl b, v => v = .bl b
  | .int i, v => v = .int i
  | .str s, v => v = .str s
  | .ty n, v => v = .ty n
  | .cls c, v => v = .ref (e.cls c)
  | .tup ds, v => ∃ a vs, v = .ref a ∧ SqT e.K F a vs ∧ Reps e F ds vs
  | .lst ds, v => ∃ a vs, v = .ref a ∧ SqL e.K F a vs ∧ Reps e F ds vs
  | .ins c fs, v => ∃ a dx gs, v = .ref a ∧ F a = some (.ins (e.cls c) dx gs) ∧ RepF e F fs gs
def Reps (e : En) (F : Hp) : List D → List V → Prop
  | [], vs => vs = []
  | d :: ds, vs => ∃ v r, vs = v :: r ∧ Rep e F d v ∧ Reps e F ds r
def RepF (e : En) (F : Hp) : List (Str × D) → List (Str × V) → Prop
  | [], gs => gs = []
  | (x, d) :: fs, gs => ∃ v r, gs = (x, v) :: r ∧ Rep e F d v ∧ RepF e F fs r
end

theorem same_t {K : PySem.W.Frag} {F F' : Hp} {a : Addr} {vs : List V} (h : Same F F') (t : SqT K F a vs) : SqT K F' a vs := by
  rcases t with (t | ⟨o, t⟩) | t
  · exact .inl (.inl (h _ _ t))
  · exact .inl (.inr ⟨o, h _ _ t⟩)
  · exact .inr t

mutual
theorem Rep.mono {e : En} {F F' : Hp} (h : Same F F') : ∀ (d : D) (v : V), Rep e F d v → Rep e F' d v
  | .non, _, r => r
  | .bl _, _, r => r
  | .int _, _, r => r
  | .str _, _, r => r
  | .ty _, _, r => r
  | .cls _, _, r => r
  | .tup ds, _, ⟨a, vs, q, t, r⟩ => ⟨a, vs, q, same_t h t, Reps.mono h ds vs r⟩
  | .lst ds, _, ⟨a, vs, q, t, r⟩ => ⟨a, vs, q, h.seq t, Reps.mono h ds vs r⟩
  | .ins c fs, _, ⟨a, dx, gs, q, t, r⟩ => ⟨a, dx, gs, q, h _ _ t, RepF.mono h fs gs r⟩
theorem Reps.mono {e : En} {F F' : Hp} (h : Same F F') : ∀ (ds : List D) (vs : List V), Reps e F ds vs → Reps e F' ds vs
  | [], _, r => r
  | d :: ds, _, ⟨v, r, q, x, y⟩ => ⟨v, r, q, Rep.mono h d v x, Reps.mono h ds r y⟩
theorem RepF.mono {e : En} {F F' : Hp} (h : Same F F') : ∀ (fs : List (Str × D)) (gs : List (Str × V)), RepF e F fs gs → RepF e F' fs gs
  | [], _, r => r
  | (x, d) :: fs, _, ⟨v, r, q, y, z⟩ => ⟨v, r, q, Rep.mono h d v y, RepF.mono h fs r z⟩
end
theorem Rep.up {e : En} {F F' : Hp} {d : D} {v : V} (r : Rep e F d v) (h : Same F F') : Rep e F' d v := Rep.mono h d v r
theorem Reps.up {e : En} {F F' : Hp} {d : List D} {v : List V} (r : Reps e F d v) (h : Same F F') : Reps e F' d v := Reps.mono h d v r

section
variable {e : En} {F : Hp}
theorem Reps.len : ∀ {ds : List D} {vs : List V}, Reps e F ds vs → vs.length = ds.length
  | [], _, r => by cases r; rfl
  | d :: ds, _, ⟨v, r, q, x, y⟩ => by subst q; simp [Reps.len y]
theorem Reps.nil : Reps e F [] [] := rfl
theorem Reps.cons {d : D} {ds : List D} {v : V} {vs : List V} (a : Rep e F d v) (b : Reps e F ds vs) : Reps e F (d :: ds) (v :: vs) := ⟨v, vs, rfl, a, b⟩
theorem Reps.append : ∀ {as bs : List D} {us vs : List V}, Reps e F as us → Reps e F bs vs → Reps e F (as ++ bs) (us ++ vs)
  | [], _, _, _, r, s => by cases r; exact s
  | d :: ds, _, _, _, ⟨v, r, q, x, y⟩, s => by subst q; exact Reps.cons x (Reps.append y s)
theorem Reps.get : ∀ {ds : List D} {vs : List V} {i : Nat} {d : D}, Reps e F ds vs → ds[i]? = some d → ∃ v, vs[i]? = some v ∧ Rep e F d v
  | [], _, _, _, _, h => by simp at h
  | d :: ds, _, 0, _, ⟨v, r, q, x, y⟩, h => by subst q; simp at h; subst h; exact ⟨v, rfl, x⟩
  | d :: ds, _, i + 1, _, ⟨v, r, q, x, y⟩, h => by subst q; obtain ⟨w, h1, h2⟩ := Reps.get (i := i) y (by simpa using h); exact ⟨w, by simpa using h1, h2⟩
theorem Reps.getv : ∀ {ds : List D} {vs : List V} {i : Nat} {v : V}, Reps e F ds vs → vs[i]? = some v → ∃ d, ds[i]? = some d ∧ Rep e F d v
  | [], _, _, _, r, h => by cases r; simp at h
  | d :: ds, _, 0, _, ⟨v, r, q, x, y⟩, h => by subst q; simp at h; subst h; exact ⟨d, rfl, x⟩
  | d :: ds, _, i + 1, _, ⟨v, r, q, x, y⟩, h => by subst q; obtain ⟨w, h1, h2⟩ := Reps.getv (i := i) y (by simpa using h); exact ⟨w, by simpa using h1, h2⟩
theorem Reps.take : ∀ {ds : List D} {vs : List V} (n : Nat), Reps e F ds vs → Reps e F (ds.take n) (vs.take n)
  | _, _, 0, _ => by simpa using Reps.nil
  | [], _, n + 1, r => by cases r; exact Reps.nil
  | d :: ds, _, n + 1, ⟨v, r, q, x, y⟩ => by subst q; exact Reps.cons x (Reps.take n y)
theorem Reps.drop : ∀ {ds : List D} {vs : List V} (n : Nat), Reps e F ds vs → Reps e F (ds.drop n) (vs.drop n)
  | _, _, 0, r => by simpa using r
  | [], _, n + 1, r => by cases r; exact Reps.nil
  | d :: ds, _, n + 1, ⟨v, r, q, x, y⟩ => by subst q; simpa using Reps.drop n y
theorem Reps.set : ∀ {ds : List D} {vs : List V} {d : D} {v : V} (n : Nat), Reps e F ds vs → Rep e F d v → Reps e F (ds.set n d) (vs.set n v)
  | [], _, _, _, n, r, _ => by cases r; exact Reps.nil
  | d :: ds, _, _, _, 0, ⟨v, r, q, x, y⟩, z => by subst q; exact Reps.cons z y
  | d :: ds, _, _, _, n + 1, ⟨v, r, q, x, y⟩, z => by subst q; exact Reps.cons x (Reps.set n y z)
theorem Reps.rev : ∀ {ds : List D} {vs : List V}, Reps e F ds vs → Reps e F ds.reverse vs.reverse
  | [], _, r => by cases r; exact Reps.nil
  | d :: ds, _, ⟨v, r, q, x, y⟩ => by subst q; rw [List.reverse_cons, List.reverse_cons]; exact (Reps.rev y).append (Reps.cons x Reps.nil)
end

/-- the heap without what is owned -/
def fz (L : List Addr) (H : Hp) : Hp := fun a => if a ∈ L then none else H a
theorem fz_le {L : List Addr} {H : Hp} : Same (fz L H) H := fun a o h => by
  unfold fz at h; split at h
  · cases h
  · exact h
theorem fz_same {L : List Addr} {H H' : Hp} (h : Same H H') : Same (fz L H) (fz L H') := fun a o q => by
  unfold fz at *; split
  · rename_i m; rw [if_pos m] at q; cases q
  · rename_i m; rw [if_neg m] at q; exact h _ _ q
theorem fz_mut {L : List Addr} {H H' : Hp} (h : ∀ a o, H a = some o → a ∉ L → H' a = some o) : Same (fz L H) (fz L H') := fun a o q => by
  unfold fz at *; split
  · rename_i m; rw [if_pos m] at q; cases q
  · rename_i m; rw [if_neg m] at q; exact h _ _ q m
theorem fz_cons {L : List Addr} {H H' : Hp} {p : Addr} (h : Same H H') (n : H p = none) : Same (fz L H) (fz (p :: L) H') := fun a o q => by
  unfold fz at *
  split at q
  · cases q
  · rename_i m
    have hp : a ≠ p := ne_of_none q n
    rw [if_neg (by simp [hp, m])]
    exact h _ _ q
theorem fz_anti {L L' : List Addr} {H : Hp} (h : ∀ a ∈ L', a ∈ L) : Same (fz L H) (fz L' H) := fun a o q => by
  unfold fz at *
  split at q
  · cases q
  · rename_i m
    rw [if_neg fun z => m (h a z)]
    exact q

/-- what stands at an owned address -/
inductive Ct where
  | lst (xs : List D) | obj (c : String) (fs : List (Str × D)) | dic (kvs : List (Key × D))
inductive A where
  | dat (d : D) | own (c : Ct) | inn (c : Ct)
abbrev State := List (Option A)

def RepK (e : En) (F : Hp) (kvs : List (Key × D)) (gs : List (Key × V)) : Prop := gs.map (·.1) = kvs.map (·.1) ∧ Reps e F (kvs.map (·.2)) (gs.map (·.2))
def RepC (e : En) (F : Hp) : Ct → HO → Prop
  | .lst xs, o => ∃ vs, o = .lst vs ∧ Reps e F xs vs
  | .obj c fs, o => ∃ dx gs, o = .ins (e.cls c) dx gs ∧ RepF e F fs gs
  | .dic kvs, o => ∃ gs, o = .dK gs ∧ RepK e F kvs gs
theorem RepC.up {e : En} {F F' : Hp} {c : Ct} {o : HO} (h : Same F F') (r : RepC e F c o) : RepC e F' c o := by
  cases c with
  | lst xs => obtain ⟨vs, q, r⟩ := r; exact ⟨vs, q, r.up h⟩
  | obj c fs => obtain ⟨dx, gs, q, r⟩ := r; exact ⟨dx, gs, q, RepF.mono h _ _ r⟩
  | dic kvs => obtain ⟨gs, q, k, r⟩ := r; exact ⟨gs, q, k, r.up h⟩

/-- a def's entry: who owns what, what may change, the heap, the arguments -/
structure Cn where
  L0 : List Addr
  S0 : List Addr
  H0 : Hp
  σ0 : L2.St

def Mod (S : List Addr) (H H' : Hp) : Prop := ∀ a o, H a = some o → a ∉ S → H' a = some o
theorem Mod.of {S : List Addr} {H H' : Hp} (h : Same H H') : Mod S H H' := fun a o q _ => h a o q
theorem Mod.trans {S : List Addr} {H H1 H2 : Hp} (a : Mod S H H1) (b : Mod S H1 H2) : Mod S H H2 := fun x o h n => b x o (a x o h n) n
theorem Mod.refl {S : List Addr} {H : Hp} : Mod S H H := fun _ _ h _ => h

def RepA (e : En) (c : Cn) (L S : List Addr) (H : Hp) (i : Nat) (v : V) : A → Prop
  | .dat d => Rep e (fz L H) d v
  | .own ct => ∃ p o, v = .ref p ∧ p ∈ S ∧ c.H0 p = none ∧ H p = some o ∧ RepC e (fz L H) ct o
  | .inn ct => ∃ p o, v = .ref p ∧ p ∈ S ∧ c.σ0[i]? = some (some v) ∧ H p = some o ∧ RepC e (fz L H) ct o

def isOwn : Option (Option A) → Bool
  | some (some (.own _)) => true
  | some (some (.inn _)) => true
  | _ => false

structure Rel (e : En) (c : Cn) (L S : List Addr) (σ : L2.St) (H : Hp) (α : State) : Prop where
  slot : ∀ (i : Nat) (a : A), α[i]? = some (some a) → ∃ v, σ[i]? = some (some v) ∧ RepA e c L S H i v a
  sep : ∀ (i j : Nat) (p : Addr), isOwn α[i]? = true → isOwn α[j]? = true → σ[i]? = some (some (V.ref p)) → σ[j]? = some (some (V.ref p)) → i = j
  dom : ∀ p ∈ L, H p ≠ none
  sub : ∀ p ∈ S, p ∈ L
  l0 : ∀ p ∈ c.L0, p ∈ L
  l1 : ∀ p ∈ L, p ∈ c.L0 ∨ c.H0 p = none
  s1 : ∀ p ∈ S, p ∈ c.S0 ∨ c.H0 p = none
  md : Mod c.S0 c.H0 H
  s0 : ∀ p ∈ c.S0, p ∈ c.L0
  d0 : ∀ p ∈ c.L0, c.H0 p ≠ none
  len : σ.length = α.length

section
variable {e : En} {c : Cn} {L S : List Addr} {σ : L2.St} {H H' : Hp} {α : State}
theorem RepA.up {i : Nat} {v : V} {a : A} (h : Same H H') (r : RepA e c L S H i v a) : RepA e c L S H' i v a := by
  cases a with
  | dat d => exact Rep.up (d := d) r (fz_same h)
  | own ct => obtain ⟨p, o, q, m, n, ho, rc⟩ := r; exact ⟨p, o, q, m, n, h _ _ ho, rc.up (fz_same h)⟩
  | inn ct => obtain ⟨p, o, q, m, n, ho, rc⟩ := r; exact ⟨p, o, q, m, n, h _ _ ho, rc.up (fz_same h)⟩
theorem Rel.up (r : Rel e c L S σ H α) (h : Same H H') : Rel e c L S σ H' α where
  slot := fun i a q => let ⟨v, h1, h2⟩ := r.slot i a q; ⟨v, h1, h2.up h⟩
  sep := r.sep
  dom := fun p m z => by
    cases q : H p with
    | none => exact r.dom p m q
    | some o => rw [h p o q] at z; cases z
  sub := r.sub
  l0 := r.l0
  l1 := r.l1
  s1 := r.s1
  md := r.md.trans (.of h)
  s0 := r.s0
  d0 := r.d0
  len := r.len
theorem Rel.h0 (r : Rel e c L S σ H α) {p : Addr} (n : H p = none) : c.H0 p = none := by
  cases q : c.H0 p with
  | none => rfl
  | some o =>
    by_cases m : p ∈ c.S0
    · exact absurd n (r.dom p (r.l0 p (r.s0 p m)))
    · have := r.md p o q m
      rw [n] at this; cases this
theorem getset {β : Type} {l : List β} {i j : Nat} {x : β} : (l.set i x)[j]? = if i = j then (if j < l.length then some x else none) else l[j]? := by
  rw [List.getElem?_set]
  split
  · rename_i h; subst h; rfl
  · rfl
/-- a slot is given data -/
theorem Rel.setD {i : Nat} {v : V} {d : D} (r : Rel e c L S σ H α) (h : Rep e (fz L H) d v) : Rel e c L S (σ.set i (some v)) H (α.set i (some (.dat d))) where
  slot := fun j a q => by
    rw [getset] at q
    rw [getset]
    by_cases e1 : i = j
    · rw [if_pos e1] at q ⊢
      split at q
      · rename_i hl
        cases q
        rw [if_pos (by rw [r.len]; exact hl)]
        exact ⟨v, rfl, h⟩
      · cases q
    · rw [if_neg e1] at q ⊢
      exact r.slot j a q
  sep := fun j k p hj hk sj sk => by
    rw [getset] at hj hk sj sk
    by_cases e1 : i = j
    · rw [if_pos e1] at hj
      split at hj <;> simp [isOwn] at hj
    · by_cases e2 : i = k
      · rw [if_pos e2] at hk
        split at hk <;> simp [isOwn] at hk
      · rw [if_neg e1] at hj sj; rw [if_neg e2] at hk sk
        exact r.sep j k p hj hk sj sk
  dom := r.dom
  sub := r.sub
  l0 := r.l0
  l1 := r.l1
  s1 := r.s1
  md := r.md
  s0 := r.s0
  d0 := r.d0
  len := by rw [List.length_set, List.length_set]; exact r.len
/-- a new object becomes a slot's own -/
theorem Rel.setO {i : Nat} {p : Addr} {o : HO} {ct : Ct} (r : Rel e c L S σ H α) (s : Same H H') (n : H p = none) (ho : H' p = some o) (rc : RepC e (fz (p :: L) H') ct o) :
    Rel e c (p :: L) (p :: S) (σ.set i (some (.ref p))) H' (α.set i (some (.own ct))) where
  slot := fun j a q => by
    rw [getset] at q
    rw [getset]
    by_cases e1 : i = j
    · rw [if_pos e1] at q ⊢
      split at q
      · rename_i hl
        cases q
        rw [if_pos (by rw [r.len]; exact hl)]
        exact ⟨_, rfl, p, o, rfl, by simp, r.h0 n, ho, rc⟩
      · cases q
    · rw [if_neg e1] at q ⊢
      obtain ⟨v, h1, h2⟩ := r.slot j a q
      refine ⟨v, h1, ?_⟩
      cases a with
      | dat d => exact Rep.up (d := d) h2 (fz_cons s n)
      | own ct => obtain ⟨p', o, q, m, n', ho, rc⟩ := h2; exact ⟨p', o, q, List.mem_cons_of_mem _ m, n', s _ _ ho, rc.up (fz_cons s n)⟩
      | inn ct => obtain ⟨p', o, q, m, n', ho, rc⟩ := h2; exact ⟨p', o, q, List.mem_cons_of_mem _ m, n', s _ _ ho, rc.up (fz_cons s n)⟩
  sep := fun j k q hj hk sj sk => by
    have fresh : ∀ j, i ≠ j → isOwn α[j]? = true → σ[j]? ≠ some (some (V.ref p)) := fun j _ hj z => by
      cases ha : α[j]? with
      | none => rw [ha] at hj; simp [isOwn] at hj
      | some x =>
        cases x with
        | none => rw [ha] at hj; simp [isOwn] at hj
        | some a =>
          obtain ⟨v, h1, h2⟩ := r.slot j a ha
          rw [h1] at z; cases z
          cases a with
          | dat d => rw [ha] at hj; simp [isOwn] at hj
          | own ct => obtain ⟨p', o, q, m, n', ho, rc⟩ := h2; cases q; rw [n] at ho; cases ho
          | inn ct => obtain ⟨p', o, q, m, n', ho, rc⟩ := h2; cases q; rw [n] at ho; cases ho
    rw [getset] at hj hk sj sk
    by_cases e1 : i = j
    · by_cases e2 : i = k
      · omega
      · rw [if_neg e2] at hk sk
        rw [if_pos e1] at sj
        split at sj
        · cases sj; exact absurd sk (fresh k e2 hk)
        · cases sj
    · rw [if_neg e1] at hj sj
      by_cases e2 : i = k
      · rw [if_pos e2] at sk
        split at sk
        · cases sk; exact absurd sj (fresh j e1 hj)
        · cases sk
      · rw [if_neg e2] at hk sk
        exact r.sep j k q hj hk sj sk
  dom := fun q m z => by
    rcases List.mem_cons.mp m with rfl | m
    · rw [ho] at z; cases z
    · exact (r.up s).dom q m z
  sub := fun q m => by
    rcases List.mem_cons.mp m with rfl | m
    · simp
    · exact List.mem_cons_of_mem _ (r.sub q m)
  l0 := fun q m => List.mem_cons_of_mem _ (r.l0 q m)
  l1 := fun q m => by
    rcases List.mem_cons.mp m with rfl | m
    · exact .inr (r.h0 n)
    · exact r.l1 q m
  s1 := fun q m => by
    rcases List.mem_cons.mp m with rfl | m
    · exact .inr (r.h0 n)
    · exact r.s1 q m
  md := r.md.trans (.of s)
  s0 := r.s0
  d0 := r.d0
  len := by rw [List.length_set, List.length_set]; exact r.len
def ctOf : Option (Option A) → Option Ct
  | some (some (.own c)) => some c
  | some (some (.inn c)) => some c
  | _ => none
def putC (α : State) (i : Nat) (ct : Ct) : State := match α[i]? with
  | some (some (.own _)) => α.set i (some (.own ct))
  | some (some (.inn _)) => α.set i (some (.inn ct))
  | _ => α
/-- what stands at an owned slot -/
theorem Rel.at (r : Rel e c L S σ H α) {i : Nat} {ct : Ct} (h : ctOf α[i]? = some ct) : ∃ p o, σ[i]? = some (some (.ref p)) ∧ p ∈ S ∧ H p = some o ∧ RepC e (fz L H) ct o := by
  cases ha : α[i]? with
  | none => rw [ha] at h; cases h
  | some x =>
    cases x with
    | none => rw [ha] at h; cases h
    | some a =>
      rw [ha] at h
      obtain ⟨v, h1, h2⟩ := r.slot i a ha
      cases a with
      | dat d => cases h
      | own ct => cases h; obtain ⟨p, o, q, m, n, ho, rc⟩ := h2; subst q; exact ⟨p, o, h1, m, ho, rc⟩
      | inn ct => cases h; obtain ⟨p, o, q, m, n, ho, rc⟩ := h2; subst q; exact ⟨p, o, h1, m, ho, rc⟩
theorem isOwn_ct {x : Option (Option A)} {ct : Ct} (h : ctOf x = some ct) : isOwn x = true := by
  cases x with
  | none => cases h
  | some x =>
    cases x with
    | none => cases h
    | some a => cases a <;> first | rfl | cases h
theorem putC_own {i j : Nat} {ct : Ct} : isOwn (putC α i ct)[j]? = true → isOwn α[j]? = true := by
  unfold putC
  split
  · rename_i q; rw [getset]; split
    · rename_i e1; subst e1; intro _; rw [q]; rfl
    · exact id
  · rename_i q; rw [getset]; split
    · rename_i e1; subst e1; intro _; rw [q]; rfl
    · exact id
  · exact id
theorem putC_len {i : Nat} {ct : Ct} : (putC α i ct).length = α.length := by
  unfold putC; split <;> simp
/-- an owned object is changed -/
theorem Rel.mut (r : Rel e c L S σ H α) {i : Nat} {p : Addr} {o : HO} {ct ct' : Ct} (h : ctOf α[i]? = some ct) (hp : σ[i]? = some (some (.ref p))) (rc : RepC e (fz L H) ct' o) :
    Rel e c L S σ (upd H p o) (putC α i ct') ∧ Mod S H (upd H p o) := by
  obtain ⟨p', o', hp', mS, ho', _⟩ := r.at h
  rw [hp] at hp'; cases hp'
  have mL := r.sub p mS
  have fzs : Same (fz L H) (fz L (upd H p o)) := fz_mut fun a u q n => by
    rw [upd_ne (fun z => n (by rw [z]; exact mL))]; exact q
  have md : Mod S H (upd H p o) := fun a u q n => by rw [upd_ne (fun z => n (by rw [z]; exact mS))]; exact q
  refine ⟨⟨fun j a q => ?_, fun j k q hj hk sj sk => r.sep j k q (putC_own hj) (putC_own hk) sj sk, fun q m z => ?_, r.sub, r.l0, r.l1, r.s1, ?_, r.s0, r.d0, by rw [putC_len]; exact r.len⟩, md⟩
  · by_cases e1 : j = i
    · subst e1
      cases ha : α[j]? with
      | none => rw [ha] at h; cases h
      | some x =>
        cases x with
        | none => rw [ha] at h; cases h
        | some b =>
          have hl : j < α.length := (List.getElem?_eq_some_iff.mp ha).1
          obtain ⟨v, h1, h2⟩ := r.slot j b ha
          rw [hp] at h1; cases h1
          unfold putC at q
          cases b with
          | dat d => rw [ha] at h; cases h
          | own c1 =>
            rw [ha] at q
            rw [show (α.set j (some (A.own ct')))[j]? = some (some (A.own ct')) by rw [getset, if_pos rfl, if_pos hl]] at q
            cases q
            obtain ⟨p', o2, q2, m, n, ho2, _⟩ := h2
            cases q2
            exact ⟨_, hp, p, o, rfl, m, n, upd_same, rc.up fzs⟩
          | inn c1 =>
            rw [ha] at q
            rw [show (α.set j (some (A.inn ct')))[j]? = some (some (A.inn ct')) by rw [getset, if_pos rfl, if_pos hl]] at q
            cases q
            obtain ⟨p', o2, q2, m, n, ho2, _⟩ := h2
            cases q2
            exact ⟨_, hp, p, o, rfl, m, n, upd_same, rc.up fzs⟩
    · have qa : α[j]? = some (some a) := by
        unfold putC at q
        split at q
        · rw [getset, if_neg (fun z => e1 z.symm)] at q; exact q
        · rw [getset, if_neg (fun z => e1 z.symm)] at q; exact q
        · exact q
      obtain ⟨v, h1, h2⟩ := r.slot j a qa
      refine ⟨v, h1, ?_⟩
      have hne : isOwn α[j]? = true → v ≠ .ref p := fun ho z => e1 (r.sep j i p ho (isOwn_ct h) (by rw [h1, z]) hp)
      cases a with
      | dat d => exact Rep.up (d := d) h2 fzs
      | own c1 =>
        obtain ⟨p', o2, q2, m, n, ho2, rc2⟩ := h2
        subst q2
        refine ⟨p', o2, rfl, m, n, ?_, rc2.up fzs⟩
        rw [upd_ne]
        · exact ho2
        · intro z; exact hne (by rw [qa]; rfl) (by rw [z])
      | inn c1 =>
        obtain ⟨p', o2, q2, m, n, ho2, rc2⟩ := h2
        subst q2
        refine ⟨p', o2, rfl, m, n, ?_, rc2.up fzs⟩
        rw [upd_ne]
        · exact ho2
        · intro z; exact hne (by rw [qa]; rfl) (by rw [z])
  · by_cases e1 : q = p
    · subst e1; rw [upd_same] at z; cases z
    · rw [upd_ne e1] at z; exact r.dom q m z
  · intro a u q n
    have hne : a ≠ p := by
      rintro rfl
      rcases r.s1 a mS with z | z
      · exact n z
      · rw [q] at z; cases z
    rw [upd_ne hne]
    exact r.md a u q n
end
end Ab
end
section
set_option maxRecDepth 100000
set_option maxHeartbeats 1000000
namespace Ab
open PySem L2

/-! ### pure readings -/
section
variable (e : En)
def Evp (te : TE) (s : State → Option D) : Prop := ∀ c L S σ H α d, Rel e c L S σ H α → s α = some d → ∀ Q : VK, (∀ v H', Same H H' → Rep e (fz L H') d v → Q v H') → te σ H Q
/-- a new list -/
def Evl (te : TE) (s : State → Option (List D)) : Prop := ∀ c L S σ H α xs, Rel e c L S σ H α → s α = some xs → ∀ Q : VK, (∀ p vs H', Same H H' → H p = none → H' p = some (.lst vs) → Reps e (fz (p :: L) H') xs vs → Q (.ref p) H') → te σ H Q
/-- a list, a tuple that is read -/
def EvqL (te : TE) (s : State → Option (List D)) : Prop := ∀ c L S σ H α xs, Rel e c L S σ H α → s α = some xs → ∀ Q : VK, (∀ a vs H', Same H H' → SqL e.K H' a vs → Reps e (fz L H') xs vs → Q (.ref a) H') → te σ H Q
def EvqT (te : TE) (s : State → Option (List D)) : Prop := ∀ c L S σ H α xs, Rel e c L S σ H α → s α = some xs → ∀ Q : VK, (∀ a vs H', Same H H' → SqT e.K (fz L H') a vs → Reps e (fz L H') xs vs → Q (.ref a) H') → te σ H Q
def Evt (tt : TT) (s : State → Option Bool) : Prop := ∀ c L S σ H α b, Rel e c L S σ H α → s α = some b → ∀ Q : Bool → Hp → Prop, (∀ H', Same H H' → Q b H') → tt σ H Q
def Eva (ta : TA) (s : State → Option (List D)) : Prop := ∀ c L S σ H α ds, Rel e c L S σ H α → s α = some ds → ∀ Q : List V → Hp → Prop, (∀ vs H', Same H H' → Reps e (fz L H') ds vs → Q vs H') → ta σ H Q
def Evo (to : TO) (s : State → Option (Option Int)) : Prop := ∀ c L S σ H α o, Rel e c L S σ H α → s α = some o → ∀ Q : Option Int → Hp → Prop, (∀ H', Same H H' → Q o H') → to σ H Q
/-- by values: two places; a call's list; a method's -/
def Dom (L : List Addr) (H : Hp) : Prop := ∀ p ∈ L, H p ≠ none
def RvD (r : R2) (f : D → D → Option D) : Prop := ∀ L H dx dy x y d, Dom L H → Rep e (fz L H) dx x → Rep e (fz L H) dy y → f dx dy = some d → ∀ Q : VK, (∀ v H', Same H H' → Rep e (fz L H') d v → Q v H') → r x y H Q
def RuD (r : V → Hp → VK → Prop) (f : D → Option D) : Prop := ∀ L H dx x d, Dom L H → Rep e (fz L H) dx x → f dx = some d → ∀ Q : VK, (∀ v H', Same H H' → Rep e (fz L H') d v → Q v H') → r x H Q
def RcD (r : List V → Hp → VK → Prop) (f : List D → Option D) : Prop := ∀ L H ds vs d, Dom L H → Reps e (fz L H) ds vs → f ds = some d → ∀ Q : VK, (∀ v H', Same H H' → Rep e (fz L H') d v → Q v H') → r vs H Q
def RmD (r : V → List V → Hp → VK → Prop) (f : D → List D → Option D) : Prop := ∀ L H dx x ds vs d, Dom L H → Rep e (fz L H) dx x → Reps e (fz L H) ds vs → f dx ds = some d → ∀ Q : VK, (∀ v H', Same H H' → Rep e (fz L H') d v → Q v H') → r x vs H Q
end

def bnd {α β : Type} (o : Option α) (f : α → Option β) : Option β := match o with | some a => f a | none => none
theorem bnd_some {α β : Type} {o : Option α} {f : α → Option β} {b : β} (h : bnd o f = some b) : ∃ a, o = some a ∧ f a = some b := by
  cases o with
  | none => cases h
  | some a => exact ⟨a, rfl, h⟩
@[simp] theorem bnd_s {α β : Type} {a : α} {f : α → Option β} : bnd (some a) f = f a := (rfl)
@[simp] theorem bnd_n {α β : Type} {f : α → Option β} : bnd none f = none := (rfl)

section
variable {e : En} {ta tb te : TE} {sa sb s : State → Option D}
theorem dom_up {L : List Addr} {H H' : Hp} (h : Same H H') (d : ∀ p ∈ L, H p ≠ none) : ∀ p ∈ L, H' p ≠ none := fun p m z => by
  cases q : H p with
  | none => exact d p m q
  | some o => rw [h p o q] at z; cases z

/-! ### slots and constants -/
def xVar (i : Nat) : State → Option D := fun α => match α[i]? with | some (some (.dat d)) => some d | _ => none
theorem ev_var (i : Nat) : Evp e (tVar i) (xVar i) := fun c L S σ H α d r h Q q => by
  unfold xVar at h
  split at h
  · rename_i d' hd
    cases h
    obtain ⟨v, h1, h2⟩ := r.slot i _ hd
    exact ⟨v, h1, q v H (Same.refl H) h2⟩
  · cases h
def xC (d : D) : State → Option D := fun _ => some d
theorem ev_c {d : D} {v : V} (h : ∀ F, Rep e F d v) : Evp e (tC v) (xC d) := fun c L S σ H α d' r hd Q q => by
  cases hd
  exact q v H (Same.refl H) (h _)
theorem ev_int {i : Int} : Evp e (tC (.int i)) (xC (.int i)) := ev_c fun _ => rfl
theorem ev_bl {i : Bool} : Evp e (tC (.bl i)) (xC (.bl i)) := ev_c fun _ => rfl
theorem ev_str {i : Str} : Evp e (tC (.str i)) (xC (.str i)) := ev_c fun _ => rfl
theorem ev_non : Evp e (tC .non) (xC .non) := ev_c fun _ => rfl
/-- a thing of the module's top -/
theorem ev_top {d : D} {v : V} (h : ∀ F, Rep e F d v) : Evp e (tC v) (xC d) := ev_c h

/-! ### operations -/
def x2 (f : D → D → Option D) (sa sb : State → Option D) : State → Option D := fun α => bnd (sa α) fun a => bnd (sb α) fun b => f a b
theorem ev_op {r : R2} {f : D → D → Option D} (hr : RvD e r f) (ha : Evp e ta sa) (hb : Evp e tb sb) : Evp e (tOp r ta tb) (x2 f sa sb) := fun c L S σ H α d R h Q q => by
  obtain ⟨a, h1, h⟩ := bnd_some h
  obtain ⟨b, h2, h⟩ := bnd_some h
  refine ha c L S σ H α a R h1 _ fun v H1 e1 r1 => ?_
  refine hb c L S σ H1 α b (R.up e1) h2 _ fun u H2 e2 r2 => ?_
  exact hr L H2 a b v u d (dom_up (e1.trans e2) R.dom) (r1.up (fz_same e2)) r2 h Q fun w H3 e3 r3 => q w H3 ((e1.trans e2).trans e3) r3
def x1 (f : D → Option D) (sa : State → Option D) : State → Option D := fun α => bnd (sa α) f
theorem ev_un {r : V → Hp → VK → Prop} {f : D → Option D} (hr : RuD e r f) (ha : Evp e ta sa) : Evp e (tUn r ta) (x1 f sa) := fun c L S σ H α d R h Q q => by
  obtain ⟨a, h1, h⟩ := bnd_some h
  refine ha c L S σ H α a R h1 _ fun v H1 e1 r1 => ?_
  exact hr L H1 a v d (dom_up e1 R.dom) r1 h Q fun w H3 e3 r3 => q w H3 (e1.trans e3) r3

def ii (g : Int → Int → Option D) : D → D → Option D := fun a b => match a, b with | .int i, .int j => g i j | _, _ => none
theorem ii_some {g : Int → Int → Option D} {a b d : D} (h : ii g a b = some d) : ∃ i j, a = .int i ∧ b = .int j ∧ g i j = some d := by
  unfold ii at h
  split at h
  · exact ⟨_, _, rfl, rfl, h⟩
  · cases h
theorem rv_I0 {g : Int → Int → V} {k : Int → Int → D} (hk : ∀ i j F, Rep e F (k i j) (g i j)) : RvD e (rI0 g) (ii fun i j => some (k i j)) := fun L H dx dy x y d dm rx ry h Q q => by
  obtain ⟨i, j, rfl, rfl, h⟩ := ii_some h
  cases h; cases rx; cases ry
  exact ⟨i, j, rfl, rfl, q _ H (Same.refl H) (hk i j _)⟩
theorem rv_I {C : Int → Int → Prop} [∀ i j, Decidable (C i j)] {g : Int → Int → V} {k : Int → Int → D} (hk : ∀ i j F, Rep e F (k i j) (g i j)) : RvD e (rI C g) (ii fun i j => if C i j then some (k i j) else none) := fun L H dx dy x y d dm rx ry h Q q => by
  obtain ⟨i, j, rfl, rfl, h2⟩ := ii_some h
  clear h
  have h := h2
  split at h
  · rename_i hc
    cases h; cases rx; cases ry
    exact ⟨i, j, rfl, rfl, hc, q _ H (Same.refl H) (hk i j _)⟩
  · cases h
abbrev fAdd : D → D → Option D := ii fun i j => some (.int (i + j))
abbrev fSub : D → D → Option D := ii fun i j => some (.int (i - j))
abbrev fLt : D → D → Option D := ii fun i j => some (.bl (decide (i < j)))
abbrev fLe : D → D → Option D := ii fun i j => some (.bl (decide (i ≤ j)))
abbrev fGt : D → D → Option D := ii fun i j => some (.bl (decide (i > j)))
abbrev fGe : D → D → Option D := ii fun i j => some (.bl (decide (i ≥ j)))
theorem rv_add : RvD e (rI0 fun i j => .int (i + j)) fAdd := rv_I0 fun _ _ _ => rfl
theorem rv_sub : RvD e (rI0 fun i j => .int (i - j)) fSub := rv_I0 fun _ _ _ => rfl
theorem rv_lt : RvD e (rI0 fun i j => .bl (decide (i < j))) fLt := rv_I0 fun _ _ _ => rfl
theorem rv_le : RvD e (rI0 fun i j => .bl (decide (i ≤ j))) fLe := rv_I0 fun _ _ _ => rfl
theorem rv_gt : RvD e (rI0 fun i j => .bl (decide (j < i))) fGt := rv_I0 fun _ _ _ => rfl
theorem rv_ge : RvD e (rI0 fun i j => .bl (decide (j ≤ i))) fGe := rv_I0 fun _ _ _ => rfl
instance (i j : Int) : Decidable (CMul i j) := by unfold CMul; infer_instance
instance (i j : Int) : Decidable (CDiv i j) := by unfold CDiv; infer_instance
instance (i j : Int) : Decidable (CDivN i j) := by unfold CDivN; infer_instance
instance (i j : Int) : Decidable (CPow i j) := by unfold CPow; infer_instance
abbrev fMul : D → D → Option D := ii fun i j => if CMul i j then some (.int (i * j)) else none
abbrev fDiv : D → D → Option D := ii fun i j => if CDiv i j then some (.int (i / j)) else none
abbrev fMod : D → D → Option D := ii fun i j => if 0 < j then some (.int (i % j)) else none
abbrev fPow : D → D → Option D := ii fun i j => if CPow i j then some (.int (i ^ j.toNat)) else none
theorem rv_mul : RvD e (rI CMul fun i j => .int (i * j)) fMul := rv_I fun _ _ _ => rfl
theorem rv_div : RvD e (rI CDiv fun i j => .int (i / j)) fDiv := rv_I fun _ _ _ => rfl
theorem rv_mod : RvD e (rI (fun _ j => 0 < j) fun i j => .int (i % j)) fMod := rv_I fun _ _ _ => rfl
theorem rv_pow : RvD e (rI CPow fun i j => .int (i ^ j.toNat)) fPow := rv_I fun _ _ _ => rfl
def fNeg : D → Option D := fun a => match a with | .int i => some (.int (-i)) | _ => none
theorem ru_neg : RuD e (rU fun i => .int (-i)) fNeg := fun L H dx x d dm rx h Q q => by
  unfold fNeg at h
  split at h
  · cases h; cases rx; exact ⟨_, rfl, q _ H (Same.refl H) rfl⟩
  · cases h

/-! ### == -/
def flat : D → Bool
  | .non | .bl _ | .int _ | .str _ => true
  | _ => false
def dv : D → V
  | .non => .non | .bl b => .bl b | .int i => .int i | .str s => .str s | _ => .non
theorem rep_flat {F : Hp} {d : D} {v : V} (h : flat d = true) (r : Rep e F d v) : v = dv d := by
  cases d <;> first | (exact r) | (simp [flat] at h)
theorem rep_of_flat {F : Hp} {d : D} (h : flat d = true) : Rep e F d (dv d) := by
  cases d <;> first | rfl | (simp [flat] at h)
/-- == of scalars (of kinds that differ only where they can't be alike) -/
def fEq : D → D → Option D := fun a b => if (flat a && flat b && scal (dv a) (dv b)) = true then some (.bl (decide (dv a = dv b))) else none
def fNe : D → D → Option D := fun a b => if (flat a && flat b && scal (dv a) (dv b)) = true then some (.bl (!decide (dv a = dv b))) else none
theorem rv_eq : RvD e rEq fEq := fun L H dx dy x y d dm rx ry h Q q => by
  unfold fEq at h
  split at h
  · rename_i hc
    simp only [Bool.and_eq_true] at hc
    cases h
    rw [rep_flat hc.1.1 rx, rep_flat hc.1.2 ry]
    exact ⟨hc.2, q _ H (Same.refl H) rfl⟩
  · cases h
theorem rv_ne : RvD e rNe fNe := fun L H dx dy x y d dm rx ry h Q q => by
  unfold fNe at h
  split at h
  · rename_i hc
    simp only [Bool.and_eq_true] at hc
    cases h
    rw [rep_flat hc.1.1 rx, rep_flat hc.1.2 ry]
    exact ⟨hc.2, q _ H (Same.refl H) rfl⟩
  · cases h
def fIsN : D → D → Option D := fun a b => match b with | .non => (match a with | .non => some (.bl true) | _ => some (.bl false)) | _ => none
def fNotN : D → D → Option D := fun a b => match b with | .non => (match a with | .non => some (.bl false) | _ => some (.bl true)) | _ => none
theorem rep_non {F : Hp} {d : D} {v : V} (r : Rep e F d v) : decide (v = .non) = (match d with | .non => true | _ => false) := by
  cases d with
  | non => cases r; rfl
  | bl b => cases r; rfl
  | int b => cases r; rfl
  | str b => cases r; rfl
  | ty b => cases r; rfl
  | cls b => cases r; rfl
  | tup b => obtain ⟨a, vs, rfl, _⟩ := r; rfl
  | lst b => obtain ⟨a, vs, rfl, _⟩ := r; rfl
  | ins b c => obtain ⟨a, vs, _, rfl, _⟩ := r; rfl
theorem rv_isN : RvD e (fun x y H Q => y = .non ∧ Q (.bl (decide (x = .non))) H) fIsN := fun L H dx dy x y d dm rx ry h Q q => by
  unfold fIsN at h
  split at h
  · cases ry
    refine ⟨rfl, ?_⟩
    rw [rep_non rx]
    cases dx <;> (cases h; exact q _ H (Same.refl H) rfl)
  · cases h
theorem rv_notN : RvD e (fun x y H Q => y = .non ∧ Q (.bl (!decide (x = .non))) H) fNotN := fun L H dx dy x y d dm rx ry h Q q => by
  unfold fNotN at h
  split at h
  · cases ry
    refine ⟨rfl, ?_⟩
    rw [rep_non rx]
    cases dx <;> (cases h; exact q _ H (Same.refl H) rfl)
  · cases h

/-! ### tests -/
def asB (s : State → Option D) : State → Option Bool := fun α => match s α with | some (.bl b) => some b | _ => none
theorem asB_some {α : State} {b : Bool} (h : asB s α = some b) : s α = some (.bl b) := by
  unfold asB at h
  split at h
  · rename_i q; cases h; exact q
  · cases h
theorem et_test (h : Evp e te s) : Evt e (tTest te) (asB s) := fun c L S σ H α b R q Q k => h c L S σ H α _ R (asB_some q) _ fun v H' e1 r => by
  cases r
  exact ⟨b, rfl, k H' e1⟩
theorem et_B (h : Evp e te s) : Evt e (tB te) (asB s) := fun c L S σ H α b R q Q k => h c L S σ H α _ R (asB_some q) _ fun v H' e1 r => by
  cases r
  exact ⟨b, rfl, k H' e1⟩
variable {t u : TT} {st su : State → Option Bool}
def tbNot (st : State → Option Bool) : State → Option Bool := fun α => (st α).map (!·)
def tbAnd (st su : State → Option Bool) : State → Option Bool := fun α => match st α with | some true => su α | o => o
def tbOr (st su : State → Option Bool) : State → Option Bool := fun α => match st α with | some false => su α | o => o
theorem et_not (h : Evt e t st) : Evt e (tNot t) (tbNot st) := fun c L S σ H α b R q Q k => by
  unfold tbNot at q
  cases hs : st α with
  | none => rw [hs] at q; cases q
  | some b' =>
    rw [hs] at q; cases q
    exact h c L S σ H α b' R hs _ fun H' e1 => k H' e1
theorem et_and (h : Evt e t st) (h' : Evt e u su) : Evt e (tAnd t u) (tbAnd st su) := fun c L S σ H α b R q Q k => by
  unfold tbAnd at q
  cases hs : st α with
  | none => rw [hs] at q; cases q
  | some b' =>
    refine h c L S σ H α b' R hs _ fun H' e1 => ?_
    cases b' with
    | true =>
      rw [hs] at q
      show u σ H' Q
      exact h' c L S σ H' α b (R.up e1) q Q fun H2 e2 => k H2 (e1.trans e2)
    | false => rw [hs] at q; cases q; exact k H' e1
theorem et_or (h : Evt e t st) (h' : Evt e u su) : Evt e (tOr t u) (tbOr st su) := fun c L S σ H α b R q Q k => by
  unfold tbOr at q
  cases hs : st α with
  | none => rw [hs] at q; cases q
  | some b' =>
    refine h c L S σ H α b' R hs _ fun H' e1 => ?_
    cases b' with
    | false =>
      rw [hs] at q
      show u σ H' Q
      exact h' c L S σ H' α b (R.up e1) q Q fun H2 e2 => k H2 (e1.trans e2)
    | true => rw [hs] at q; cases q; exact k H' e1
def xIf (st : State → Option Bool) (sa sb : State → Option D) : State → Option D := fun α => match st α with | some true => sa α | some false => sb α | none => none
theorem ev_if (h : Evt e t st) (ha : Evp e ta sa) (hb : Evp e tb sb) : Evp e (tIf t ta tb) (xIf st sa sb) := fun c L S σ H α d R q Q k => by
  unfold xIf at q
  cases hs : st α with
  | none => rw [hs] at q; cases q
  | some b' =>
    refine h c L S σ H α b' R hs _ fun H' e1 => ?_
    cases b' with
    | true =>
      rw [hs] at q
      show ta σ H' Q
      exact ha c L S σ H' α d (R.up e1) q Q fun v H2 e2 r => k v H2 (e1.trans e2) r
    | false =>
      rw [hs] at q
      show tb σ H' Q
      exact hb c L S σ H' α d (R.up e1) q Q fun v H2 e2 r => k v H2 (e1.trans e2) r
/-- and, or, not as values -/
def xB (st : State → Option Bool) : State → Option D := fun α => (st α).map .bl
theorem ev_andV (h : Evp e ta sa) (h' : Evp e tb sb) : Evp e (tAndV ta tb) (xB (tbAnd (asB sa) (asB sb))) := fun c L S σ H α d R q Q k => by
  unfold xB tbAnd at q
  cases hs : asB sa α with
  | none => rw [hs] at q; cases q
  | some b =>
    refine h c L S σ H α _ R (asB_some hs) _ fun v H' e1 r => ?_
    cases r
    refine ⟨b, rfl, ?_⟩
    rw [hs] at q
    cases b with
    | true =>
      cases hu : asB sb α with
      | none => rw [hu] at q; cases q
      | some b2 =>
        rw [hu] at q; cases q
        show tb σ H' Q
        exact h' c L S σ H' α _ (R.up e1) (asB_some hu) Q fun v H2 e2 r => k v H2 (e1.trans e2) r
    | false => cases q; exact k _ H' e1 rfl
theorem ev_orV (h : Evp e ta sa) (h' : Evp e tb sb) : Evp e (tOrV ta tb) (xB (tbOr (asB sa) (asB sb))) := fun c L S σ H α d R q Q k => by
  unfold xB tbOr at q
  cases hs : asB sa α with
  | none => rw [hs] at q; cases q
  | some b =>
    refine h c L S σ H α _ R (asB_some hs) _ fun v H' e1 r => ?_
    cases r
    refine ⟨b, rfl, ?_⟩
    rw [hs] at q
    cases b with
    | false =>
      cases hu : asB sb α with
      | none => rw [hu] at q; cases q
      | some b2 =>
        rw [hu] at q; cases q
        show tb σ H' Q
        exact h' c L S σ H' α _ (R.up e1) (asB_some hu) Q fun v H2 e2 r => k v H2 (e1.trans e2) r
    | true => cases q; exact k _ H' e1 rfl
theorem ev_notV (h : Evp e ta sa) : Evp e (tNotV ta) (xB (tbNot (asB sa))) := fun c L S σ H α d R q Q k => by
  unfold xB tbNot at q
  cases hs : asB sa α with
  | none => rw [hs] at q; cases q
  | some b =>
    rw [hs] at q; cases q
    exact h c L S σ H α _ R (asB_some hs) _ fun v H' e1 r => by
      cases r
      exact ⟨b, rfl, k _ H' e1 rfl⟩

/-! ### argument lists, displays, calls -/
variable {tr : TA} {sr : State → Option (List D)}
def aNil : State → Option (List D) := fun _ => some []
def aCons (s : State → Option D) (sr : State → Option (List D)) : State → Option (List D) := fun α => bnd (s α) fun d => bnd (sr α) fun ds => some (d :: ds)
theorem ea_nil : Eva e tNil aNil := fun c L S σ H α ds R q Q k => by cases q; exact k [] H (Same.refl H) Reps.nil
theorem ea_cons (h : Evp e te s) (hr : Eva e tr sr) : Eva e (tCons te tr) (aCons s sr) := fun c L S σ H α ds R q Q k => by
  obtain ⟨d, h1, q⟩ := bnd_some q
  obtain ⟨ds', h2, q⟩ := bnd_some q
  cases q
  refine h c L S σ H α d R h1 _ fun v H1 e1 r1 => ?_
  exact hr c L S σ H1 α ds' (R.up e1) h2 _ fun vs H2 e2 r2 => k _ H2 (e1.trans e2) (Reps.cons (r1.up (fz_same e2)) r2)
theorem fresh_nL {L : List Addr} {H : Hp} {p : Addr} (dm : ∀ q ∈ L, H q ≠ none) (n : H p = none) : p ∉ L := fun m => dm p m n
theorem fz_new {L : List Addr} {H : Hp} {p : Addr} {o : HO} (hn : p ∉ L) (ho : H p = some o) : fz L H p = some o := by unfold fz; rw [if_neg hn]; exact ho
def lenOk {β : Type} (xs : List β) : Option (List β) := if xs.length ≤ 100000 then some xs else none
theorem lenOk_some {β : Type} {xs ys : List β} (h : lenOk xs = some ys) : ys = xs ∧ xs.length ≤ 100000 := by
  unfold lenOk at h
  split at h
  · cases h; exact ⟨rfl, by assumption⟩
  · cases h
theorem sz_of {n : Nat} (h : n ≤ 100000) : n ≤ sizeLine := Nat.le_trans h (by decide)
theorem sz_lt {n : Nat} (h : n < 100000) : n < sizeLine := Nat.lt_of_lt_of_le h (by decide)
def xTup (sr : State → Option (List D)) : State → Option D := fun α => bnd (sr α) fun ds => if ds.length ≤ 100000 then some (.tup ds) else none
theorem ev_tup (h : Eva e tr sr) : Evp e (tTup tr) (xTup sr) := fun c L S σ H α d R q Q k => by
  obtain ⟨ds, h1, q⟩ := bnd_some q
  split at q
  · rename_i hz
    cases q
    refine h c L S σ H α ds R h1 _ fun vs H1 e1 r1 => ⟨by rw [r1.len]; exact sz_of hz, fun p hp => ?_⟩
    have s2 : Same H1 (upd H1 p (.tup vs)) := fun b o z => by rw [upd_ne (ne_of_none z hp)]; exact z
    refine k _ _ (e1.trans s2) ⟨p, vs, rfl, .inl (.inl (fz_new (fresh_nL (dom_up e1 R.dom) hp) upd_same)), r1.up (fz_same s2)⟩
  · cases q
theorem el_lst (h : Eva e tr sr) : Evl e (tLst tr) (fun α => bnd (sr α) lenOk) := fun c L S σ H α xs R q Q k => by
  obtain ⟨ds, h1, q⟩ := bnd_some q
  obtain ⟨rfl, hz⟩ := lenOk_some q
  refine h c L S σ H α _ R h1 _ fun vs H1 e1 r1 => ⟨by rw [r1.len]; exact sz_of hz, fun p hp => ?_⟩
  have s2 : Same H1 (upd H1 p (.lst vs)) := fun b o z => by rw [upd_ne (ne_of_none z hp)]; exact z
  have hn : H p = none := by
    cases z : H p with
    | none => rfl
    | some o => rw [e1 p o z] at hp; cases hp
  exact k p vs _ (e1.trans s2) hn upd_same (r1.up (fz_cons s2 hp))
/-- a new list as data -/
def xL (s : State → Option (List D)) : State → Option D := fun α => (s α).map .lst
theorem el_d {s : State → Option (List D)} (h : Evl e te s) : Evp e te (xL s) := fun c L S σ H α d R q Q k => by
  unfold xL at q
  cases hs : s α with
  | none => rw [hs] at q; cases q
  | some xs =>
    rw [hs] at q; cases q
    refine h c L S σ H α xs R hs _ fun p vs H' e1 n hp r => k _ H' e1 ⟨p, vs, rfl, .inl (.inl (fz_new (fresh_nL R.dom n) hp)), r.up (fz_anti fun a m => List.mem_cons_of_mem _ m)⟩
/-- read as a list, a tuple -/
def qL (s : State → Option D) : State → Option (List D) := fun α => match s α with | some (.lst xs) => some xs | _ => none
def qT (s : State → Option D) : State → Option (List D) := fun α => match s α with | some (.tup xs) => some xs | _ => none
theorem eq_l (h : Evp e te s) : EvqL e te (qL s) := fun c L S σ H α xs R q Q k => by
  unfold qL at q
  split at q
  · rename_i ys hs
    cases q
    refine h c L S σ H α _ R hs _ fun v H' e1 ⟨a, vs, e2, r1, r2⟩ => ?_
    subst e2
    exact k a vs H' e1 (fz_le.seq r1) r2
  · cases q
theorem eq_t (h : Evp e te s) : EvqT e te (qT s) := fun c L S σ H α xs R q Q k => by
  unfold qT at q
  split at q
  · rename_i ys hs
    cases q
    refine h c L S σ H α _ R hs _ fun v H' e1 ⟨a, vs, e2, r1, r2⟩ => ?_
    subst e2
    exact k a vs H' e1 r1 r2
  · cases q
theorem eq_n {s : State → Option (List D)} (h : Evl e te s) : EvqL e te s := fun c L S σ H α xs R q Q k =>
  h c L S σ H α xs R q _ fun p vs H' e1 n hp r => k p vs H' e1 (SqL.of hp) (r.up (fz_anti fun a m => List.mem_cons_of_mem _ m))
/-- an own list, read -/
def qO (i : Nat) : State → Option (List D) := fun α => match ctOf α[i]? with | some (.lst xs) => some xs | _ => none
theorem eq_o (i : Nat) : EvqL e (tVar i) (qO i) := fun c L S σ H α xs R q Q k => by
  unfold qO at q
  split at q
  · rename_i ys hs
    cases q
    obtain ⟨p, o, h1, _, h3, vs, rfl, h4⟩ := R.at hs
    exact ⟨_, h1, k p vs H (Same.refl H) (SqL.of h3) h4⟩
  · cases q

/-- what a def without side effects promises -/
def spP (e : En) (m : List D → Option D) : Sp := fun vs H Q _ => ∃ L ds d, Dom L H ∧ Reps e (fz L H) ds vs ∧ m ds = some d ∧ ∀ v H', Same H H' → Rep e (fz L H') d v → Q v H'
/-- .. that gives a new list -/
def spL (e : En) (m : List D → Option (List D)) : Sp := fun vs H Q _ => ∃ L ds xs, Dom L H ∧ Reps e (fz L H) ds vs ∧ m ds = some xs ∧ ∀ p us H', Same H H' → H p = none → H' p = some (.lst us) → Reps e (fz (p :: L) H') xs us → Q (.ref p) H'
def xCall (m : List D → Option D) (sr : State → Option (List D)) : State → Option D := fun α => bnd (sr α) m
theorem ev_call {E : XK} {m : List D → Option D} (h : Eva e tr sr) : Evp e (tCall (spP e m) [] E tr) (xCall m sr) := fun c L S σ H α d R q Q k => by
  obtain ⟨ds, h1, q⟩ := bnd_some q
  exact h c L S σ H α ds R h1 _ fun vs H1 e1 r1 => ⟨L, ds, d, dom_up e1 R.dom, by rw [List.append_nil]; exact r1, q, fun v H' e2 r2 => k v H' (e1.trans e2) r2⟩
theorem el_call {E : XK} {m : List D → Option (List D)} (h : Eva e tr sr) : Evl e (tCall (spL e m) [] E tr) (fun α => bnd (sr α) m) := fun c L S σ H α d R q Q k => by
  obtain ⟨ds, h1, q⟩ := bnd_some q
  refine h c L S σ H α ds R h1 _ fun vs H1 e1 r1 => ⟨L, ds, d, dom_up e1 R.dom, by rw [List.append_nil]; exact r1, q, fun p us H' e2 n hp r2 => k p us H' (e1.trans e2) ?_ hp r2⟩
  cases z : H p with
  | none => rfl
  | some o => rw [e1 p o z] at n; cases n
/-- built-in functions and methods, by values -/
theorem ev_callB {r : List V → Hp → VK → Prop} {f : List D → Option D} (hr : RcD e r f) (h : Eva e tr sr) : Evp e (tCB r tr) (xCall f sr) := fun c L S σ H α d R q Q k => by
  obtain ⟨ds, h1, q⟩ := bnd_some q
  exact h c L S σ H α ds R h1 _ fun vs H1 e1 r1 => hr L H1 ds vs d (dom_up e1 R.dom) r1 q Q fun v H' e2 r2 => k v H' (e1.trans e2) r2

/-! ### what reads a list or a tuple -/
section
variable {sq : State → Option (List D)}
def xLen (sq : State → Option (List D)) : State → Option D := fun α => match sq α with | some xs => some (.int xs.length) | none => none
theorem ev_lenL (h : EvqL e te sq) : Evp e (tCB (fun xs H Q => ∃ p ys, xs = [.ref p] ∧ (SqL e.K H p ys ∨ SqT e.K H p ys) ∧ Q (.int ys.length) H) (tCons te tNil)) (xLen sq) := fun c L S σ H α d R q Q k => by
  unfold xLen at q
  cases hs : sq α with
  | none => rw [hs] at q; cases q
  | some xs =>
    rw [hs] at q; cases q
    exact h c L S σ H α xs R hs _ fun a vs H' e1 r1 r2 => ⟨a, vs, rfl, .inl r1, k _ H' e1 (by rw [r2.len]; rfl)⟩
theorem ev_lenT (h : EvqT e te sq) : Evp e (tCB (fun xs H Q => ∃ p ys, xs = [.ref p] ∧ (SqL e.K H p ys ∨ SqT e.K H p ys) ∧ Q (.int ys.length) H) (tCons te tNil)) (xLen sq) := fun c L S σ H α d R q Q k => by
  unfold xLen at q
  cases hs : sq α with
  | none => rw [hs] at q; cases q
  | some xs =>
    rw [hs] at q; cases q
    exact h c L S σ H α xs R hs _ fun a vs H' e1 r1 r2 => ⟨a, vs, rfl, .inr (same_t fz_le r1), k _ H' e1 (by rw [r2.len]; rfl)⟩
def fLenS : List D → Option D := fun ds => match ds with | [.str z] => if z.length ≤ 100000 then some (.int z.length) else none | _ => none
theorem rc_lenS : RcD e (fun xs H Q => ∃ z, xs = [.str z] ∧ z.length ≤ sizeLine ∧ Q (.int z.length) H) fLenS := fun L H ds vs d dm r q Q k => by
  unfold fLenS at q
  split at q
  · rename_i z
    split at q
    · cases q
      obtain ⟨v, _, rfl, r1, r2⟩ := r
      cases r1; cases r2
      exact ⟨z, rfl, sz_of (by assumption), k _ H (Same.refl H) rfl⟩
    · cases q
  · cases q
/-- an item -/
theorem atI_rep {F : Hp} {ds : List D} {vs : List V} {i : Int} {d : D} (r : Reps e F ds vs) (h : atI ds i = some d) : ∃ v, atI vs i = some v ∧ Rep e F d v := by
  unfold atI at *
  rw [r.len]
  cases hx : ixN ds.length i with
  | none => rw [hx] at h; cases h
  | some j => rw [hx] at h; exact r.get h
def xIx (sq : State → Option (List D)) (sb : State → Option D) : State → Option D := fun α => bnd (sq α) fun xs => match sb α with | some (.int i) => atI xs i | _ => none
theorem ev_ixL (h : EvqL e ta sq) (hb : Evp e tb sb) : Evp e (tOp (rIxL e.K) ta tb) (xIx sq sb) := fun c L S σ H α d R q Q k => by
  obtain ⟨xs, h1, q⟩ := bnd_some q
  split at q
  · rename_i i hi
    refine h c L S σ H α xs R h1 _ fun a vs H1 e1 r1 r2 => ?_
    refine hb c L S σ H1 α _ (R.up e1) hi _ fun v H2 e2 r3 => ?_
    cases r3
    obtain ⟨v, h2, h3⟩ := atI_rep r2 q
    exact ⟨a, vs, i, v, rfl, rfl, e2.seq r1, h2, k v H2 (e1.trans e2) (h3.up (fz_same e2))⟩
  · cases q
theorem ev_ixT (h : EvqT e ta sq) (hb : Evp e tb sb) : Evp e (tOp (rIxT e.K) ta tb) (xIx sq sb) := fun c L S σ H α d R q Q k => by
  obtain ⟨xs, h1, q⟩ := bnd_some q
  split at q
  · rename_i i hi
    refine h c L S σ H α xs R h1 _ fun a vs H1 e1 r1 r2 => ?_
    refine hb c L S σ H1 α _ (R.up e1) hi _ fun v H2 e2 r3 => ?_
    cases r3
    obtain ⟨v, h2, h3⟩ := atI_rep r2 q
    exact ⟨a, vs, i, v, rfl, rfl, same_t e2 (same_t fz_le r1), h2, k v H2 (e1.trans e2) (h3.up (fz_same e2))⟩
  · cases q
/-- slices -/
def cutD (xs : List D) (lo hi : Option Int) : List D := (xs.drop (HT.sIx xs.length 0 lo)).take (HT.sIx xs.length xs.length hi - HT.sIx xs.length 0 lo)
theorem cut_rep {F : Hp} {ds : List D} {vs : List V} {lo hi : Option Int} (r : Reps e F ds vs) : Reps e F (cutD ds lo hi) (cutV vs lo hi) := by
  unfold cutD cutV
  rw [r.len]
  exact (r.drop _).take _
variable {tl th : TO} {sl sh : State → Option (Option Int)}
def oNone : State → Option (Option Int) := fun _ => some none
def oSome (s : State → Option D) : State → Option (Option Int) := fun α => match s α with | some (.int i) => some (some i) | _ => none
theorem eo_none : Evo e tNoPart oNone := fun c L S σ H α o R q Q k => by cases q; exact k H (Same.refl H)
theorem eo_some (h : Evp e te s) : Evo e (tPart te) (oSome s) := fun c L S σ H α o R q Q k => by
  unfold oSome at q
  split at q
  · rename_i i hi
    cases q
    refine h c L S σ H α _ R hi _ fun v H' e1 r => ?_
    cases r
    exact ⟨i, rfl, k H' e1⟩
  · cases q
def xSlL (sq : State → Option (List D)) (sl sh : State → Option (Option Int)) : State → Option (List D) := fun α => bnd (sq α) fun xs => bnd (sl α) fun lo => bnd (sh α) fun hi => some (cutD xs lo hi)
def xSlT (sq : State → Option (List D)) (sl sh : State → Option (Option Int)) : State → Option D := fun α => bnd (sq α) fun xs => bnd (sl α) fun lo => bnd (sh α) fun hi =>
    if (HT.sIx xs.length 0 lo = 0 ∧ HT.sIx xs.length xs.length hi = xs.length) then none else some (.tup (cutD xs lo hi))
theorem el_slL (h : EvqL e te sq) (hl : Evo e tl sl) (hh : Evo e th sh) : Evl e (tSl (rSlL e.K) te tl th) (xSlL sq sl sh) := fun c L S σ H α d R q Q k => by
  obtain ⟨xs, h1, q⟩ := bnd_some q
  obtain ⟨lo, h2, q⟩ := bnd_some q
  obtain ⟨hi, h3, q⟩ := bnd_some q
  cases q
  refine h c L S σ H α xs R h1 _ fun a vs H1 e1 r1 r2 => ?_
  refine hl c L S σ H1 α lo (R.up e1) h2 _ fun H2 e2 => ?_
  refine hh c L S σ H2 α hi (R.up (e1.trans e2)) h3 _ fun H3 e3 => ?_
  refine ⟨a, vs, rfl, (e2.trans e3).seq r1, fun p hp => ?_⟩
  have s4 : Same H3 (upd H3 p (.lst (cutV vs lo hi))) := fun b o z => by rw [upd_ne (ne_of_none z hp)]; exact z
  have e13 := e1.trans (e2.trans e3)
  have hn : H p = none := by
    cases z : H p with
    | none => rfl
    | some o => rw [e13 p o z] at hp; cases hp
  exact k p _ _ (e13.trans s4) hn upd_same (cut_rep (r2.up ((fz_same (e2.trans e3)).trans (fz_cons s4 hp))))
theorem ev_slT (h : EvqT e te sq) (hl : Evo e tl sl) (hh : Evo e th sh) : Evp e (tSl (rSlT e.K) te tl th) (xSlT sq sl sh) := fun c L S σ H α d R q Q k => by
  obtain ⟨xs, h1, q⟩ := bnd_some q
  obtain ⟨lo, h2, q⟩ := bnd_some q
  obtain ⟨hi, h3, q⟩ := bnd_some q
  split at q
  · cases q
  rename_i hc
  cases q
  refine h c L S σ H α xs R h1 _ fun a vs H1 e1 r1 r2 => ?_
  refine hl c L S σ H1 α lo (R.up e1) h2 _ fun H2 e2 => ?_
  refine hh c L S σ H2 α hi (R.up (e1.trans e2)) h3 _ fun H3 e3 => ?_
  refine ⟨a, vs, rfl, same_t (e2.trans e3) (same_t fz_le r1), by rw [r2.len]; exact hc, fun p hp => ?_⟩
  have s4 : Same H3 (upd H3 p (.tup (cutV vs lo hi))) := fun b o z => by rw [upd_ne (ne_of_none z hp)]; exact z
  have e13 := e1.trans (e2.trans e3)
  exact k _ _ (e13.trans s4) ⟨p, _, rfl, .inl (.inl (fz_new (fresh_nL (dom_up e13 R.dom) hp) upd_same)), cut_rep (r2.up (fz_same ((e2.trans e3).trans s4)))⟩
/-- list(..), tuple(..) -/
theorem el_listL (h : EvqL e te sq) : Evl e (tCB (fun xs H Q => ∃ p ys, xs = [.ref p] ∧ (SqL e.K H p ys ∨ SqT e.K H p ys) ∧ ∀ l, H l = none → Q (.ref l) (upd H l (.lst ys))) (tCons te tNil)) sq := fun c L S σ H α xs R q Q k =>
  h c L S σ H α xs R q _ fun a vs H' e1 r1 r2 => ⟨a, vs, rfl, .inl r1, fun l hl => by
    have s4 : Same H' (upd H' l (.lst vs)) := fun b o z => by rw [upd_ne (ne_of_none z hl)]; exact z
    have hn : H l = none := by
      cases z : H l with
      | none => rfl
      | some o => rw [e1 l o z] at hl; cases hl
    exact k l vs _ (e1.trans s4) hn upd_same (r2.up (fz_cons s4 hl))⟩
theorem el_listT (h : EvqT e te sq) : Evl e (tCB (fun xs H Q => ∃ p ys, xs = [.ref p] ∧ (SqL e.K H p ys ∨ SqT e.K H p ys) ∧ ∀ l, H l = none → Q (.ref l) (upd H l (.lst ys))) (tCons te tNil)) sq := fun c L S σ H α xs R q Q k =>
  h c L S σ H α xs R q _ fun a vs H' e1 r1 r2 => ⟨a, vs, rfl, .inr (same_t fz_le r1), fun l hl => by
    have s4 : Same H' (upd H' l (.lst vs)) := fun b o z => by rw [upd_ne (ne_of_none z hl)]; exact z
    have hn : H l = none := by
      cases z : H l with
      | none => rfl
      | some o => rw [e1 l o z] at hl; cases hl
    exact k l vs _ (e1.trans s4) hn upd_same (r2.up (fz_cons s4 hl))⟩
def xTupL (sq : State → Option (List D)) : State → Option D := fun α => match sq α with | some xs => some (.tup xs) | none => none
theorem ev_tupL (h : EvqL e te sq) : Evp e (tCB (fun xs H Q => ∃ p ys, xs = [.ref p] ∧ ((SqL e.K H p ys ∧ ∀ l, H l = none → Q (.ref l) (upd H l (.tup ys))) ∨ (SqT e.K H p ys ∧ Q (.ref p) H))) (tCons te tNil)) (xTupL sq) := fun c L S σ H α d R q Q k => by
  unfold xTupL at q
  cases hs : sq α with
  | none => rw [hs] at q; cases q
  | some xs =>
    rw [hs] at q; cases q
    refine h c L S σ H α xs R hs _ fun a vs H' e1 r1 r2 => ⟨a, vs, rfl, .inl ⟨r1, fun l hl => ?_⟩⟩
    have s4 : Same H' (upd H' l (.tup vs)) := fun b o z => by rw [upd_ne (ne_of_none z hl)]; exact z
    exact k _ _ (e1.trans s4) ⟨l, vs, rfl, .inl (.inl (fz_new (fresh_nL (dom_up e1 R.dom) hl) upd_same)), r2.up (fz_same s4)⟩
/-- sum of dints -/
def dints : List D → Option (List Int)
  | [] => some []
  | .int i :: r => (dints r).map (i :: ·)
  | _ => none
theorem dints_rep {F : Hp} : ∀ {ds : List D} {vs : List V} {ns : List Int}, dints ds = some ns → Reps e F ds vs → vs = ns.map V.int
  | [], _, _, h, r => by cases h; cases r; rfl
  | .int i :: ds, _, _, h, ⟨v, w, q, r1, r2⟩ => by
    cases hs : dints ds with
    | none => simp [dints, hs] at h
    | some ns => simp [dints, hs] at h; subst h; subst q; cases r1; rw [dints_rep hs r2]; rfl
  | .non :: _, _, _, h, _ => by simp [dints] at h
  | .bl _ :: _, _, _, h, _ => by simp [dints] at h
  | .str _ :: _, _, _, h, _ => by simp [dints] at h
  | .tup _ :: _, _, _, h, _ => by simp [dints] at h
  | .lst _ :: _, _, _, h, _ => by simp [dints] at h
  | .ins _ _ :: _, _, _, h, _ => by simp [dints] at h
  | .ty _ :: _, _, _, h, _ => by simp [dints] at h
  | .cls _ :: _, _, _, h, _ => by simp [dints] at h
theorem dints_of (ns : List Int) : dints (ns.map D.int) = some ns := by
  induction ns with
  | nil => rfl
  | cons a r ih => simp [dints, ih]
def fSum (xs : List D) : Option D := (dints xs).map fun ns => .int ns.sum
def xSum (sq : State → Option (List D)) : State → Option D := fun α => bnd (sq α) fSum
theorem ev_sum (h : EvqL e te sq) : Evp e (tCB (rSum e.K) (tCons te tNil)) (xSum sq) := fun c L S σ H α d R q Q k => by
  obtain ⟨xs, h1, q⟩ := bnd_some q
  unfold fSum at q
  cases hs : dints xs with
  | none => rw [hs] at q; cases q
  | some ns =>
    rw [hs] at q; cases q
    refine h c L S σ H α xs R h1 _ fun a vs H' e1 r1 r2 => ⟨a, ns, rfl, ?_, k _ H' e1 rfl⟩
    rw [← dints_rep hs r2]
    exact r1
end

/-! ### an own object lent as data, where what comes is flat -/
theorem Rel.lend {c : Cn} {L S : List Addr} {σ : L2.St} {H : Hp} {α : State} (r : Rel e c L S σ H α) {i : Nat} {ct : Ct} {d : D} (h : ctOf α[i]? = some ct)
    (hd : ∀ L' p o, H p = some o → p ∉ L' → RepC e (fz L' H) ct o → Rep e (fz L' H) d (.ref p)) :
    ∃ L' S', Rel e ⟨[], [], fun _ => none, σ⟩ L' S' σ H (α.set i (some (.dat d))) := by
  obtain ⟨p, o, h1, h2, h3, h4⟩ := r.at h
  have hlen : i < α.length := by
    cases z : α[i]? with
    | none => rw [z] at h; cases h
    | some x => exact (List.getElem?_eq_some_iff.mp z).1
  have anti : Same (fz L H) (fz (L.filter (· ≠ p)) H) := fz_anti fun a m => (List.mem_filter.mp m).1
  have hp : p ∉ L.filter (· ≠ p) := fun m => by simpa using (List.mem_filter.mp m).2
  have slotp : ∀ j, isOwn α[j]? = true → i ≠ j → σ[j]? ≠ some (some (.ref p)) := fun j hj hn z => hn (r.sep i j p (isOwn_ct h) hj h1 z)
  refine ⟨L.filter (· ≠ p), S.filter (· ≠ p), ⟨fun j a q => ?_, fun j k q hj hk sj sk => ?_, fun q m => r.dom q (List.mem_filter.mp m).1, fun q m => ?_, (fun q m => nomatch m), (fun q m => .inr rfl), (fun q m => .inr rfl), (fun a o q => nomatch q), (fun q m => nomatch m), (fun q m => nomatch m), by rw [List.length_set]; exact r.len⟩⟩
  · rw [getset] at q
    by_cases e1 : i = j
    · rw [if_pos e1] at q
      split at q
      · cases q
        subst e1
        exact ⟨_, h1, hd _ p o h3 hp (h4.up anti)⟩
      · cases q
    · rw [if_neg e1] at q
      obtain ⟨v, k1, k2⟩ := r.slot j a q
      refine ⟨v, k1, ?_⟩
      cases a with
      | dat d => exact Rep.up (d := d) k2 anti
      | own ct =>
        obtain ⟨p', o', rfl, m, n, ho, rc⟩ := k2
        have : p' ≠ p := fun z => slotp j (by rw [q]; rfl) e1 (by rw [k1, z])
        exact ⟨p', o', rfl, List.mem_filter.mpr ⟨m, by simpa using this⟩, rfl, ho, rc.up anti⟩
      | inn ct =>
        obtain ⟨p', o', rfl, m, n, ho, rc⟩ := k2
        have : p' ≠ p := fun z => slotp j (by rw [q]; rfl) e1 (by rw [k1, z])
        exact ⟨p', o', rfl, List.mem_filter.mpr ⟨m, by simpa using this⟩, k1, ho, rc.up anti⟩
  · have un : ∀ j, isOwn (α.set i (some (.dat d)))[j]? = true → isOwn α[j]? = true := fun j hj => by
      rw [getset] at hj
      split at hj
      · split at hj <;> simp [isOwn] at hj
      · exact hj
    exact r.sep j k q (un j hj) (un k hk) sj sk
  · obtain ⟨m1, m2⟩ := List.mem_filter.mp m
    exact List.mem_filter.mpr ⟨r.sub q m1, m2⟩
def lendD (i : Nat) (α : State) : Option State := match ctOf α[i]? with
  | some (.lst xs) => some (α.set i (some (.dat (.lst xs))))
  | some (.obj c fs) => some (α.set i (some (.dat (.ins c fs))))
  | _ => none
theorem Rel.lendD {c : Cn} {L S : List Addr} {σ : L2.St} {H : Hp} {α β : State} (r : Rel e c L S σ H α) {i : Nat} (h : lendD i α = some β) : ∃ c' L' S', Rel e c' L' S' σ H β := by
  unfold Ab.lendD at h
  split at h
  · rename_i xs hx
    cases h
    obtain ⟨L', S', q⟩ := r.lend (d := .lst xs) hx fun L' p o ho hn rc => by
      obtain ⟨vs, rfl, rr⟩ := rc
      exact ⟨p, vs, rfl, .inl (.inl (fz_new hn ho)), rr⟩
    exact ⟨_, L', S', q⟩
  · rename_i x fs hx
    cases h
    obtain ⟨L', S', q⟩ := r.lend (d := .ins x fs) hx fun L' p o ho hn rc => by
      obtain ⟨dx, gs, rfl, rr⟩ := rc
      exact ⟨p, dx, gs, rfl, fz_new hn ho, rr⟩
    exact ⟨_, L', S', q⟩
  · cases h
def xLend (i : Nat) (s : State → Option D) : State → Option D := fun α => bnd (lendD i α) fun β => match s β with | some d => if flat d = true then some d else none | none => none
theorem ev_lend (i : Nat) (h : Evp e te s) : Evp e te (xLend i s) := fun c L S σ H α d R q Q k => by
  obtain ⟨β, h1, q⟩ := bnd_some q
  obtain ⟨c', L', S', R'⟩ := R.lendD h1
  split at q
  · rename_i d' hs
    split at q
    · rename_i hf
      cases q
      exact h c' L' S' σ H β d R' hs Q fun v H' e1 r1 => k v H' e1 (by rw [rep_flat hf r1]; exact rep_of_flat hf)
    · cases q
  · cases q
def tLend (i : Nat) (s : State → Option Bool) : State → Option Bool := fun α => bnd (lendD i α) s
theorem et_lend (i : Nat) {t : TT} {s : State → Option Bool} (h : Evt e t s) : Evt e t (tLend i s) := fun c L S σ H α d R q Q k => by
  obtain ⟨β, h1, q⟩ := bnd_some q
  obtain ⟨c', L', S', R'⟩ := R.lendD h1
  exact h c' L' S' σ H β d R' q Q k
end
end Ab
end
section
set_option maxRecDepth 100000
set_option maxHeartbeats 1000000
namespace Ab
open PySem L2

structure Exn where
  name : String
  fs : List (Str × D)
inductive Res (β : Type) where
  | ok (b : β) (α : State) | exc (x : Exn) | bad
inductive RetV where
  | dat (d : D) | lst (xs : List D)
inductive Out where
  | nxt (α : State) | ret (r : RetV) (α : State) | brk (α : State) | cnt (α : State) | exc (x : Exn) | bad

/-- an exception's own things -/
def XRep (e : En) (F : Hp) (H' : Hp) (x : Exn) (cls : Value) (dd : Option Addr) : Prop :=
  cls = .ref (e.cls x.name) ∧ (x.fs = [] ∨ ∃ p gs, dd = some p ∧ H' p = some (.xd gs) ∧ RepF e F x.fs gs)
def XOk (e : En) (c : Cn) (E : XK) (x : Exn) : Prop := ∀ cls dd H', Mod c.S0 c.H0 H' → XRep e (fz c.L0 H') H' x cls dd → E cls dd H'

section
variable (e : En) (E : XK)
/-- with side effects upon what is owned -/
def Eve (te : TE) (s : State → Res D) : Prop := ∀ c L S σ H α, Rel e c L S σ H α → ∀ Q : VK, (∀ d α', s α = .ok d α' → ∀ v H', Mod S H H' → Rel e c L S σ H' α' → Rep e (fz L H') d v → Q v H') → (∀ x, s α = .exc x → XOk e c E x) → s α ≠ .bad → te σ H Q
def EvlE (te : TE) (s : State → Res (List D)) : Prop := ∀ c L S σ H α, Rel e c L S σ H α → ∀ Q : VK, (∀ xs α', s α = .ok xs α' → ∀ p vs H', Mod S H H' → H p = none → Rel e c (p :: L) S σ H' α' → H' p = some (.lst vs) → Reps e (fz (p :: L) H') xs vs → Q (.ref p) H') → (∀ x, s α = .exc x → XOk e c E x) → s α ≠ .bad → te σ H Q
def EvtE (tt : TT) (s : State → Res Bool) : Prop := ∀ c L S σ H α, Rel e c L S σ H α → ∀ Q : Bool → Hp → Prop, (∀ b α', s α = .ok b α' → ∀ H', Mod S H H' → Rel e c L S σ H' α' → Q b H') → (∀ x, s α = .exc x → XOk e c E x) → s α ≠ .bad → tt σ H Q
/-- arguments: data, or an own object handed on -/
inductive Arg where
  | dat (d : D) | slot (i : Nat)
def ArgRep (e : En) (L : List Addr) (σ : L2.St) (H : Hp) : Arg → V → Prop
  | .dat d, v => Rep e (fz L H) d v
  | .slot i, v => σ[i]? = some (some v)
def ArgsRep (e : En) (L : List Addr) (σ : L2.St) (H : Hp) : List Arg → List V → Prop
  | [], vs => vs = []
  | a :: r, vs => ∃ v w, vs = v :: w ∧ ArgRep e L σ H a v ∧ ArgsRep e L σ H r w
def EvaE (ta : TA) (s : State → Res (List Arg)) : Prop := ∀ c L S σ H α, Rel e c L S σ H α → ∀ Q : List V → Hp → Prop, (∀ as α', s α = .ok as α' → ∀ vs H', Mod S H H' → Rel e c L S σ H' α' → ArgsRep e L σ H' as vs → Q vs H') → (∀ x, s α = .exc x → XOk e c E x) → s α ≠ .bad → ta σ H Q

def RetRep (L : List Addr) (H : Hp) (v : V) (c : Cn) : RetV → Prop
  | .dat d => Rep e (fz L H) d v
  | .lst xs => ∃ p vs, v = .ref p ∧ c.H0 p = none ∧ H p = some (.lst vs) ∧ Reps e (fz (p :: L) H) xs vs
def OutOk (c : Cn) (D : Ends) (F : Hp) : Out → Prop
  | .nxt α' => ∀ L S σ H, Same F (fz L H) → Rel e c L S σ H α' → D.nx σ H
  | .brk α' => ∀ L S σ H, Same F (fz L H) → Rel e c L S σ H α' → D.bk σ H
  | .cnt α' => ∀ L S σ H, Same F (fz L H) → Rel e c L S σ H α' → D.ct σ H
  | .ret r α' => ∀ v L S σ H, Rel e c L S σ H α' → RetRep e L H v c r → D.rt v H
  | .exc x => XOk e c E x
  | .bad => False
def Sts (ts : TS) (s : State → Out) : Prop := ∀ c L S σ H α D, Rel e c L S σ H α → OutOk e E c D (fz L H) (s α) → ts D σ H
end

section
variable {e : En} {E : XK} {te ta tb : TE} {ts tu tw : TS} {t : TT} {s u w : State → Out}
theorem OutOk.mono {c : Cn} {D : Ends} {F F1 : Hp} (h : Same F F1) : ∀ {o : Out}, OutOk e E c D F o → OutOk e E c D F1 o
  | .nxt _, k => fun L S σ H a r => k L S σ H (h.trans a) r
  | .brk _, k => fun L S σ H a r => k L S σ H (h.trans a) r
  | .cnt _, k => fun L S σ H a r => k L S σ H (h.trans a) r
  | .ret _ _, k => k
  | .exc _, k => k
  | .bad, k => k
theorem fz_mod {L S : List Addr} {H H' : Hp} (h : Mod S H H') (sub : ∀ p ∈ S, p ∈ L) : Same (fz L H) (fz L H') := fz_mut fun a o q n => h a o q fun m => n (sub a m)

/-! ### lifting -/
def lift (s : State → Option D) : State → Res D := fun α => match s α with | some d => .ok d α | none => .bad
theorem ee_p {s : State → Option D} (h : Evp e te s) : Eve e E te (lift s) := fun c L S σ H α R Q k kx nb => by
  unfold lift at *
  cases hs : s α with
  | none => rw [hs] at nb; exact absurd rfl nb
  | some d =>
    rw [hs] at k
    exact h c L S σ H α d R hs Q fun v H' e1 r => k d α rfl v H' (.of e1) (R.up e1) r
def liftL (s : State → Option (List D)) : State → Res (List D) := fun α => match s α with | some d => .ok d α | none => .bad
theorem Rel.more {c : Cn} {L S : List Addr} {σ : L2.St} {H : Hp} {α : State} (r : Rel e c L S σ H α) {H' : Hp} {p : Addr} {o : HO} (s : Same H H') (n : H p = none) (ho : H' p = some o) : Rel e c (p :: L) S σ H' α where
  slot := fun i a q => by
    obtain ⟨v, h1, h2⟩ := r.slot i a q
    refine ⟨v, h1, ?_⟩
    cases a with
    | dat d => exact Rep.up (d := d) h2 (fz_cons s n)
    | own ct => obtain ⟨p', o', q', m, n', ho', rc⟩ := h2; exact ⟨p', o', q', m, n', s _ _ ho', rc.up (fz_cons s n)⟩
    | inn ct => obtain ⟨p', o', q', m, n', ho', rc⟩ := h2; exact ⟨p', o', q', m, n', s _ _ ho', rc.up (fz_cons s n)⟩
  sep := r.sep
  dom := fun q m z => by
    rcases List.mem_cons.mp m with rfl | m
    · rw [ho] at z; cases z
    · exact (r.up s).dom q m z
  sub := fun q m => List.mem_cons_of_mem _ (r.sub q m)
  l0 := fun q m => List.mem_cons_of_mem _ (r.l0 q m)
  l1 := fun q m => by
    rcases List.mem_cons.mp m with rfl | m
    · exact .inr (r.h0 n)
    · exact r.l1 q m
  s1 := r.s1
  md := r.md.trans (.of s)
  s0 := r.s0
  d0 := r.d0
  len := r.len
theorem ele_p {s : State → Option (List D)} (h : Evl e te s) : EvlE e E te (liftL s) := fun c L S σ H α R Q k kx nb => by
  unfold liftL at *
  cases hs : s α with
  | none => rw [hs] at nb; exact absurd rfl nb
  | some d =>
    rw [hs] at k
    exact h c L S σ H α d R hs Q fun p vs H' e1 n hp r => k d α rfl p vs H' (.of e1) n (R.more e1 n hp) hp r
def liftB (s : State → Option Bool) : State → Res Bool := fun α => match s α with | some d => .ok d α | none => .bad
theorem ete_p {s : State → Option Bool} (h : Evt e t s) : EvtE e E t (liftB s) := fun c L S σ H α R Q k kx nb => by
  unfold liftB at *
  cases hs : s α with
  | none => rw [hs] at nb; exact absurd rfl nb
  | some d =>
    rw [hs] at k
    exact h c L S σ H α d R hs Q fun H' e1 => k d α rfl H' (.of e1) (R.up e1)
def rB (s : State → Res D) : State → Res Bool := fun α => match s α with | .ok (.bl b) α' => .ok b α' | .ok _ _ => .bad | .exc x => .exc x | .bad => .bad
theorem ete_B {s : State → Res D} (h : Eve e E te s) : EvtE e E (tB te) (rB s) := fun c L S σ H α R Q k kx nb => by
  refine h c L S σ H α R _ (fun d α' hs v H' m r1 r2 => ?_) (fun x hx => kx x (by unfold rB; rw [hx])) (fun hb => nb (by unfold rB; rw [hb]))
  unfold rB at k nb
  rw [hs] at k nb
  cases d with
  | bl b => cases r2; exact ⟨b, rfl, k b α' rfl H' m r1⟩
  | _ => exact absurd rfl nb
theorem ete_test {s : State → Res D} (h : Eve e E te s) : EvtE e E (tTest te) (rB s) := fun c L S σ H α R Q k kx nb => by
  refine h c L S σ H α R _ (fun d α' hs v H' m r1 r2 => ?_) (fun x hx => kx x (by unfold rB; rw [hx])) (fun hb => nb (by unfold rB; rw [hb]))
  unfold rB at k nb
  rw [hs] at k nb
  cases d with
  | bl b => cases r2; exact ⟨b, rfl, k b α' rfl H' m r1⟩
  | _ => exact absurd rfl nb
def rNot (s : State → Res Bool) : State → Res Bool := fun α => match s α with | .ok b α' => .ok (!b) α' | .exc x => .exc x | .bad => .bad
theorem ete_not {s : State → Res Bool} (h : EvtE e E t s) : EvtE e E (tNot t) (rNot s) := fun c L S σ H α R Q k kx nb => by
  refine h c L S σ H α R _ (fun d α' hs H' m r1 => k (!d) α' (by unfold rNot; rw [hs]) H' m r1) (fun x hx => kx x (by unfold rNot; rw [hx])) (fun hb => nb (by unfold rNot; rw [hb]))

/-! ### statements -/
def sSeq (s u : State → Out) : State → Out := fun α => match s α with | .nxt β => u β | o => o
theorem st_seq (h : Sts e E ts s) (h' : Sts e E tu u) : Sts e E (tSeq ts tu) (sSeq s u) := fun c L S σ H α D R k => by
  refine h c L S σ H α { D with nx := tu D } R ?_
  unfold sSeq at k
  cases hs : s α with
  | nxt β =>
    rw [hs] at k
    exact fun L1 S1 σ1 H1 a r => h' c L1 S1 σ1 H1 β D r (OutOk.mono a k)
  | brk β => rw [hs] at k; exact k
  | cnt β => rw [hs] at k; exact k
  | ret r β => rw [hs] at k; exact k
  | exc x => rw [hs] at k; exact k
  | bad => rw [hs] at k; exact k
def sNext : State → Out := .nxt
theorem st_next : Sts e E tNext sNext := fun c L S σ H α D R k => k L S σ H (Same.refl _) R
def sBrk : State → Out := .brk
theorem st_brk : Sts e E tBreak sBrk := fun c L S σ H α D R k => k L S σ H (Same.refl _) R
def sCnt : State → Out := .cnt
theorem st_cnt : Sts e E tCont sCnt := fun c L S σ H α D R k => k L S σ H (Same.refl _) R
/-- x = e -/
def sSet (i : Nat) (s : State → Res D) : State → Out := fun α => match s α with | .ok d α' => .nxt (α'.set i (some (.dat d))) | .exc x => .exc x | .bad => .bad
theorem st_set {i : Nat} {s : State → Res D} (h : Eve e E te s) : Sts e E (tAsg te (gName i)) (sSet i s) := fun c L S σ H α D R k => by
  unfold sSet at k
  refine h c L S σ H α R _ (fun d α' hs v H' m r1 r2 => ?_) (fun x hx => by rw [hx] at k; exact k) (fun hb => by rw [hb] at k; exact k)
  rw [hs] at k
  exact k L S _ H' (fz_mod m R.sub) (r1.setD r2)
/-- x = a new list that is x's own -/
def sSetL (i : Nat) (s : State → Res (List D)) : State → Out := fun α => match s α with | .ok xs α' => .nxt (α'.set i (some (.own (.lst xs)))) | .exc x => .exc x | .bad => .bad
theorem Rel.setO' {c : Cn} {L S : List Addr} {σ : L2.St} {H : Hp} {α : State} {i : Nat} {p : Addr} {o : HO} {ct : Ct} (r : Rel e c (p :: L) S σ H α) (n : c.H0 p = none) (nS : p ∉ S) (ho : H p = some o) (rc : RepC e (fz (p :: L) H) ct o) :
    Rel e c (p :: L) (p :: S) (σ.set i (some (.ref p))) H (α.set i (some (.own ct))) where
  slot := fun j a q => by
    rw [getset] at q
    rw [getset]
    by_cases e1 : i = j
    · rw [if_pos e1] at q ⊢
      split at q
      · rename_i hl
        cases q
        rw [if_pos (by rw [r.len]; exact hl)]
        exact ⟨_, rfl, p, o, rfl, by simp, n, ho, rc⟩
      · cases q
    · rw [if_neg e1] at q ⊢
      obtain ⟨v, h1, h2⟩ := r.slot j a q
      refine ⟨v, h1, ?_⟩
      cases a with
      | dat d => exact h2
      | own ct => obtain ⟨p', o, q, m, n', ho, rc⟩ := h2; exact ⟨p', o, q, List.mem_cons_of_mem _ m, n', ho, rc⟩
      | inn ct => obtain ⟨p', o, q, m, n', ho, rc⟩ := h2; exact ⟨p', o, q, List.mem_cons_of_mem _ m, n', ho, rc⟩
  sep := fun j k q hj hk sj sk => by
    have fresh : ∀ j, i ≠ j → isOwn α[j]? = true → σ[j]? ≠ some (some (V.ref p)) := fun j _ hj z => by
      cases ha : α[j]? with
      | none => rw [ha] at hj; simp [isOwn] at hj
      | some x =>
        cases x with
        | none => rw [ha] at hj; simp [isOwn] at hj
        | some a =>
          obtain ⟨v, h1, h2⟩ := r.slot j a ha
          rw [h1] at z; cases z
          cases a with
          | dat d => rw [ha] at hj; simp [isOwn] at hj
          | own ct => obtain ⟨p', o, q, m, n', ho, rc⟩ := h2; cases q; exact nS m
          | inn ct => obtain ⟨p', o, q, m, n', ho, rc⟩ := h2; cases q; exact nS m
    rw [getset] at hj hk sj sk
    by_cases e1 : i = j
    · by_cases e2 : i = k
      · omega
      · rw [if_neg e2] at hk sk
        rw [if_pos e1] at sj
        split at sj
        · cases sj; exact absurd sk (fresh k e2 hk)
        · cases sj
    · rw [if_neg e1] at hj sj
      by_cases e2 : i = k
      · rw [if_pos e2] at sk
        split at sk
        · cases sk; exact absurd sj (fresh j e1 hj)
        · cases sk
      · rw [if_neg e2] at hk sk
        exact r.sep j k q hj hk sj sk
  dom := r.dom
  sub := fun q m => by
    rcases List.mem_cons.mp m with rfl | m
    · simp
    · exact r.sub q m
  l0 := r.l0
  l1 := r.l1
  s1 := fun q m => by
    rcases List.mem_cons.mp m with rfl | m
    · exact .inr n
    · exact r.s1 q m
  md := r.md
  s0 := r.s0
  d0 := r.d0
  len := by rw [List.length_set, List.length_set]; exact r.len
theorem fz_consM {L S : List Addr} {H H' : Hp} {p : Addr} (h : Mod S H H') (sub : ∀ p ∈ S, p ∈ L) (n : H p = none) : Same (fz L H) (fz (p :: L) H') := fun a o q => by
  unfold fz at *
  split at q
  · cases q
  · rename_i m
    have hp : a ≠ p := ne_of_none q n
    rw [if_neg (by simp [hp, m])]
    exact h _ _ q fun z => m (sub a z)
theorem st_setL {i : Nat} {s : State → Res (List D)} (h : EvlE e E te s) : Sts e E (tAsg te (gName i)) (sSetL i s) := fun c L S σ H α D R k => by
  unfold sSetL at k
  refine h c L S σ H α R _ (fun xs α' hs p vs H' m n r1 hp r2 => ?_) (fun x hx => by rw [hx] at k; exact k) (fun hb => by rw [hb] at k; exact k)
  rw [hs] at k
  exact k (p :: L) (p :: S) _ H' (fz_consM m R.sub n) (r1.setO' (R.h0 n) (fun z => R.dom p (R.sub p z) n) hp ⟨vs, rfl, r2⟩)
/-- if -/
def sIf (t : State → Res Bool) (s u : State → Out) : State → Out := fun α => match t α with | .ok true α' => s α' | .ok false α' => u α' | .exc x => .exc x | .bad => .bad
theorem st_if {st : State → Res Bool} (h : EvtE e E t st) (h1 : Sts e E ts s) (h2 : Sts e E tu u) : Sts e E (tIfS t ts tu) (sIf st s u) := fun c L S σ H α D R k => by
  unfold sIf at k
  refine h c L S σ H α R _ (fun b α' hs H' m r1 => ?_) (fun x hx => by rw [hx] at k; exact k) (fun hb => by rw [hb] at k; exact k)
  rw [hs] at k
  cases b with
  | true => exact h1 c L S σ H' α' D r1 (OutOk.mono (fz_mod m R.sub) k)
  | false => exact h2 c L S σ H' α' D r1 (OutOk.mono (fz_mod m R.sub) k)
/-- an expression alone -/
def sDrop (s : State → Res D) : State → Out := fun α => match s α with | .ok _ α' => .nxt α' | .exc x => .exc x | .bad => .bad
theorem st_drop {s : State → Res D} (h : Eve e E te s) : Sts e E (tDrop te) (sDrop s) := fun c L S σ H α D R k => by
  unfold sDrop at k
  refine h c L S σ H α R _ (fun d α' hs v H' m r1 r2 => ?_) (fun x hx => by rw [hx] at k; exact k) (fun hb => by rw [hb] at k; exact k)
  rw [hs] at k
  exact k L S _ H' (fz_mod m R.sub) r1
/-- return -/
def sRet (s : State → Res D) : State → Out := fun α => match s α with | .ok d α' => .ret (.dat d) α' | .exc x => .exc x | .bad => .bad
theorem st_ret {s : State → Res D} (h : Eve e E te s) : Sts e E (tRet te) (sRet s) := fun c L S σ H α D R k => by
  unfold sRet at k
  refine h c L S σ H α R _ (fun d α' hs v H' m r1 r2 => ?_) (fun x hx => by rw [hx] at k; exact k) (fun hb => by rw [hb] at k; exact k)
  rw [hs] at k
  exact k v L S σ H' r1 r2
def sRetN : State → Out := fun α => .ret (.dat .non) α
theorem st_retN : Sts e E tRetN sRetN := fun c L S σ H α D R k => k .non L S σ H R rfl
def sRetL (s : State → Res (List D)) : State → Out := fun α => match s α with | .ok xs α' => .ret (.lst xs) α' | .exc x => .exc x | .bad => .bad
theorem st_retL {s : State → Res (List D)} (h : EvlE e E te s) : Sts e E (tRet te) (sRetL s) := fun c L S σ H α D R k => by
  unfold sRetL at k
  refine h c L S σ H α R _ (fun xs α' hs p vs H' m n r1 hp r2 => ?_) (fun x hx => by rw [hx] at k; exact k) (fun hb => by rw [hb] at k; exact k)
  rw [hs] at k
  exact k _ (p :: L) S σ H' r1 ⟨p, vs, rfl, R.h0 n, hp, r2.up (fz_anti (by simp))⟩
/-- return x, x an own list -/
def sRetO (i : Nat) : State → Out := fun α => match α[i]? with | some (some (.own (.lst xs))) => .ret (.lst xs) α | _ => .bad
theorem st_retO (i : Nat) : Sts e E (tRet (tVar i)) (sRetO i) := fun c L S σ H α D R k => by
  unfold sRetO at k
  split at k
  · rename_i xs hx
    obtain ⟨v, h1, p, o, rfl, m, n, ho, vs, rfl, r⟩ := R.slot i _ hx
    exact ⟨_, h1, k _ L S σ H R ⟨p, vs, rfl, n, ho, r.up (fz_anti (by simp [R.sub p m]))⟩⟩
  · exact k.elim
/-- an own list is an own list no more, but data -/
def frzD (i : Nat) (α : State) : State := match α[i]? with
  | some (some (.own (.lst xs))) => α.set i (some (.dat (.lst xs)))
  | some (some (.own (.obj x fs))) => α.set i (some (.dat (.ins x fs)))
  | _ => α
theorem Rel.frz {c : Cn} {L S : List Addr} {σ : L2.St} {H : Hp} {α : State} (r : Rel e c L S σ H α) {i : Nat} {ct : Ct} {d : D} {p : Addr} (ha : α[i]? = some (some (.own ct))) (h1 : σ[i]? = some (some (.ref p))) (n0 : c.H0 p = none)
    (hd : Rep e (fz (L.filter (· ≠ p)) H) d (.ref p)) : Rel e c (L.filter (· ≠ p)) (S.filter (· ≠ p)) σ H (α.set i (some (.dat d))) := by
  have anti : Same (fz L H) (fz (L.filter (· ≠ p)) H) := fz_anti fun a m => (List.mem_filter.mp m).1
  have slotp : ∀ j, isOwn α[j]? = true → i ≠ j → σ[j]? ≠ some (some (.ref p)) := fun j hj hn z => hn (r.sep i j p (by rw [ha]; rfl) hj h1 z)
  refine ⟨fun j a q => ?_, fun j k q hj hk sj sk => ?_, fun q m => r.dom q (List.mem_filter.mp m).1, fun q m => ?_, fun q m => ?_, fun q m => r.l1 q (List.mem_filter.mp m).1, fun q m => r.s1 q (List.mem_filter.mp m).1, r.md, r.s0, r.d0, by rw [List.length_set]; exact r.len⟩
  · rw [getset] at q
    by_cases e1 : i = j
    · rw [if_pos e1] at q
      split at q
      · cases q
        subst e1
        exact ⟨_, h1, hd⟩
      · cases q
    · rw [if_neg e1] at q
      obtain ⟨v, k1, k2⟩ := r.slot j a q
      refine ⟨v, k1, ?_⟩
      cases a with
      | dat d => exact Rep.up (d := d) k2 anti
      | own ct =>
        obtain ⟨p', o', rfl, m, n, ho, rc⟩ := k2
        have : p' ≠ p := fun z => slotp j (by rw [q]; rfl) e1 (by rw [k1, z])
        exact ⟨p', o', rfl, List.mem_filter.mpr ⟨m, by simpa using this⟩, n, ho, rc.up anti⟩
      | inn ct =>
        obtain ⟨p', o', rfl, m, n, ho, rc⟩ := k2
        have : p' ≠ p := fun z => slotp j (by rw [q]; rfl) e1 (by rw [k1, z])
        exact ⟨p', o', rfl, List.mem_filter.mpr ⟨m, by simpa using this⟩, n, ho, rc.up anti⟩
  · have un : ∀ j, isOwn (α.set i (some (.dat d)))[j]? = true → isOwn α[j]? = true := fun j hj => by
      rw [getset] at hj
      split at hj
      · split at hj <;> simp [isOwn] at hj
      · exact hj
    exact r.sep j k q (un j hj) (un k hk) sj sk
  · obtain ⟨m1, m2⟩ := List.mem_filter.mp m
    exact List.mem_filter.mpr ⟨r.sub q m1, m2⟩
  · refine List.mem_filter.mpr ⟨r.l0 q m, ?_⟩
    simp only [decide_eq_true_eq]
    rintro rfl
    exact r.d0 q m n0
theorem Rel.frzD {c : Cn} {L S : List Addr} {σ : L2.St} {H : Hp} {α : State} (r : Rel e c L S σ H α) (i : Nat) : ∃ L' S', Rel e c L' S' σ H (frzD i α) ∧ Same (fz L H) (fz L' H) := by
  unfold Ab.frzD
  split
  · rename_i xs hx
    obtain ⟨v, h1, p, o, rfl, m, n, ho, vs, rfl, rr⟩ := r.slot i _ hx
    have hn : p ∉ L.filter (· ≠ p) := fun m => by simpa using (List.mem_filter.mp m).2
    have anti : Same (fz L H) (fz (L.filter (· ≠ p)) H) := fz_anti fun a m => (List.mem_filter.mp m).1
    exact ⟨_, _, r.frz (d := .lst xs) hx h1 n ⟨p, vs, rfl, .inl (.inl (fz_new hn ho)), rr.up anti⟩, anti⟩
  · rename_i x fs hx
    obtain ⟨v, h1, p, o, rfl, m, n, ho, dx, gs, rfl, rr⟩ := r.slot i _ hx
    have hn : p ∉ L.filter (· ≠ p) := fun m => by simpa using (List.mem_filter.mp m).2
    have anti : Same (fz L H) (fz (L.filter (· ≠ p)) H) := fz_anti fun a m => (List.mem_filter.mp m).1
    exact ⟨_, _, r.frz (d := .ins x fs) hx h1 n ⟨p, dx, gs, rfl, fz_new hn ho, RepF.mono anti _ _ rr⟩, anti⟩
  · exact ⟨L, S, r, Same.refl _⟩
def sFrz (i : Nat) (s : State → Out) : State → Out := fun α => s (frzD i α)
theorem st_frz (i : Nat) (h : Sts e E ts s) : Sts e E ts (sFrz i s) := fun c L S σ H α D R k => by
  obtain ⟨L', S', r, a⟩ := R.frzD i
  exact h c L' S' σ H _ D r (OutOk.mono a k)

/-! ### targets -/
theorem wipe_get {σ : L2.St} {j : Nat} : ∀ {vs : List Nat}, (wipe σ vs)[j]? = if j ∈ vs then (if j < σ.length then some none else none) else σ[j]?
  | [] => by simp [wipe]
  | v :: vs => by
    unfold wipe
    rw [getset, wipe_length, wipe_get (vs := vs)]
    by_cases e1 : v = j
    · subst e1; simp
    · rw [if_neg e1]
      have : (j ∈ v :: vs) ↔ j ∈ vs := by simp only [List.mem_cons, show ¬ j = v from fun z => e1 z.symm, false_or]
      simp only [this]
theorem wipe_ext {σ σ' : L2.St} {vs : List Nat} (hl : σ'.length = σ.length) (h : ∀ j, j ∉ vs → σ'[j]? = σ[j]?) : wipe σ' vs = wipe σ vs := by
  apply List.ext_getElem?
  intro j
  rw [wipe_get, wipe_get, hl]
  split
  · rfl
  · exact h j (by assumption)
/-- js: the places that it may store to -/
def Etg (e : En) (g : TG) (gt : D → State → Option State) (js : List Nat) : Prop := ∀ c L S σ H α x v α', Rel e c L S σ H α → Rep e (fz L H) x v → gt x α = some α' → ∀ Q : L2.St → Hp → Prop, (∀ σ', σ'.length = σ.length → (∀ j, j ∉ js → σ'[j]? = σ[j]?) → Rel e c L S σ' H α' → Q σ' H) → g v σ H Q
def gN (i : Nat) : D → State → Option State := fun x α => some (α.set i (some (.dat x)))
theorem eg_name (i : Nat) : Etg e (gName i) (gN i) [i] := fun c L S σ H α x v α' R r q Q k => by
  cases q
  exact k _ (List.length_set ..) (fun j hj => by rw [getset, if_neg (by simpa using fun z => hj (by simp [z]))]) (R.setD r)
def Etgs (e : En) (g : TGs) (gt : List D → State → Option State) (js : List Nat) : Prop := ∀ c L S σ H α x v α', Rel e c L S σ H α → Reps e (fz L H) x v → gt x α = some α' → ∀ Q : L2.St → Hp → Prop, (∀ σ', σ'.length = σ.length → (∀ j, j ∉ js → σ'[j]? = σ[j]?) → Rel e c L S σ' H α' → Q σ' H) → g v σ H Q
def gsN : List D → State → Option State := fun xs α => match xs with | [] => some α | _ => none
theorem egs_nil : Etgs e gNil gsN [] := fun c L S σ H α x v α' R r q Q k => by
  unfold gsN at q
  split at q
  · cases q; cases r; exact ⟨rfl, k σ rfl (fun _ _ => rfl) R⟩
  · cases q
def gsC (gt : D → State → Option State) (gs : List D → State → Option State) : List D → State → Option State := fun xs α => match xs with | x :: r => bnd (gt x α) (gs r) | [] => none
theorem egs_cons {g : TG} {gs : TGs} {gt : D → State → Option State} {gst : List D → State → Option State} {js ks : List Nat} (h : Etg e g gt js) (hs : Etgs e gs gst ks) : Etgs e (gCons g gs) (gsC gt gst) (js ++ ks) := fun c L S σ H α x v α' R r q Q k => by
  unfold gsC at q
  split at q
  · rename_i x xs
    obtain ⟨v1, vs, rfl, r1, r2⟩ := r
    obtain ⟨β, h1, h2⟩ := bnd_some q
    exact ⟨v1, vs, rfl, h c L S σ H α x v1 β R r1 h1 _ fun σ' hl hj R' => hs c L S σ' H β xs vs α' R' r2 h2 Q fun σ2 hl2 hj2 R2 => k σ2 (hl2.trans hl) (fun j hn => (hj2 j fun z => hn (List.mem_append_right _ z)).trans (hj j fun z => hn (List.mem_append_left _ z))) R2⟩
  · cases q
def gT (n : Nat) (gst : List D → State → Option State) : D → State → Option State := fun x α => match x with | .tup xs => if xs.length = n then gst xs α else none | _ => none
theorem eg_tup {n : Nat} {gs : TGs} {gst : List D → State → Option State} {js : List Nat} (hs : Etgs e gs gst js) : Etg e (gTup e.K n gs) (gT n gst) js := fun c L S σ H α x v α' R r q Q k => by
  unfold gT at q
  split at q
  · split at q
    · rename_i hn
      obtain ⟨a, vs, rfl, r1, r2⟩ := r
      exact ⟨a, vs, rfl, same_t fz_le r1, by rw [r2.len]; exact hn, hs c L S σ H α _ vs α' R r2 q Q k⟩
    · cases q
  · cases q
/-- a, b = e by a target -/
def sAsgT (gt : D → State → Option State) (s : State → Res D) : State → Out := fun α => match s α with | .ok d α' => (match gt d α' with | some β => .nxt β | none => .bad) | .exc x => .exc x | .bad => .bad
theorem st_asgT {g : TG} {gt : D → State → Option State} {s : State → Res D} {js : List Nat} (hg : Etg e g gt js) (h : Eve e E te s) : Sts e E (tAsg te g) (sAsgT gt s) := fun c L S σ H α D R k => by
  unfold sAsgT at k
  refine h c L S σ H α R _ (fun d α' hs v H' m r1 r2 => ?_) (fun x hx => by rw [hx] at k; exact k) (fun hb => by rw [hb] at k; exact k)
  rw [hs] at k
  cases hg' : gt d α' with
  | none => simp only [hg'] at k; exact k.elim
  | some β => simp only [hg'] at k; exact hg c L S σ H' α' d v β r1 r2 hg' _ fun σ' _ _ r => k L S σ' H' (fz_mod m R.sub) r

/-! ### what a loop walks -/
def Walks (e : En) (J : It) (F : Hp) (xs : List D) : Prop := ∀ L H, Same F (fz L H) → Dom L H → ∀ i, (i < xs.length → J.go i H) ∧ (xs.length ≤ i → J.stop i H) ∧ ∀ x v H', xs[i]? = some x → J.yld i H v H' → Same H H' ∧ Rep e (fz L H') x v
def Evi (e : En) (wi : TI) (s : State → Option (List D)) : Prop := ∀ c L S σ H α xs, Rel e c L S σ H α → s α = some xs → ∀ R : It → Hp → Prop, (∀ J H', Same H H' → Walks e J (fz L H') xs → R J H') → wi σ H R
theorem ei_list {sq : State → Option (List D)} (h : Evp e te sq') (hq : sq = qL sq') : Evi e (iList e.K te) sq := fun c L S σ H α xs R q W k => by
  subst hq
  unfold qL at q
  split at q
  · rename_i ys hs
    cases q
    refine h c L S σ H α _ R hs _ fun v H' e1 ⟨a, vs, e2, r1, r2⟩ => ?_
    subst e2
    refine ⟨a, rfl, ⟨vs, fz_le.seq r1⟩, k _ H' e1 fun L2 H2 s2 _ i => ?_⟩
    have t2 : SqL e.K H2 a vs := fz_le.seq (s2.seq r1)
    refine ⟨fun hi => ⟨vs, vs[i]'(by rw [r2.len]; exact hi), t2, List.getElem?_eq_getElem _⟩, fun hi => ⟨vs, t2, by rw [r2.len]; exact hi⟩, fun x v H3 hx ⟨e3, y⟩ => ?_⟩
    subst e3
    refine ⟨Same.refl _, ?_⟩
    obtain ⟨v', h1, h2⟩ := r2.get hx
    have := y vs t2
    rw [h1] at this; cases this
    exact h2.up s2
  · cases q
theorem ei_tup {sq : State → Option (List D)} (h : Evp e te sq') (hq : sq = qT sq') : Evi e (iTup e.K te) sq := fun c L S σ H α xs R q W k => by
  subst hq
  unfold qT at q
  split at q
  · rename_i ys hs
    cases q
    refine h c L S σ H α _ R hs _ fun v H' e1 ⟨a, vs, e2, r1, r2⟩ => ?_
    subst e2
    refine ⟨a, rfl, ⟨vs, same_t fz_le r1⟩, k _ H' e1 fun L2 H2 s2 _ i => ?_⟩
    have t2 : SqT e.K H2 a vs := same_t fz_le (same_t s2 r1)
    refine ⟨fun hi => ⟨vs, vs[i]'(by rw [r2.len]; exact hi), t2, List.getElem?_eq_getElem _⟩, fun hi => ⟨vs, t2, by rw [r2.len]; exact hi⟩, fun x v H3 hx ⟨e3, y⟩ => ?_⟩
    subst e3
    refine ⟨Same.refl _, ?_⟩
    obtain ⟨v', h1, h2⟩ := r2.get hx
    have := y vs t2
    rw [h1] at this; cases this
    exact h2.up s2
  · cases q
theorem ei_listL {sq : State → Option (List D)} (h : Evl e te sq) : Evi e (iList e.K te) sq := fun c L S σ H α xs R q W k => by
  have h' := el_d h
  have hx : xL sq α = some (.lst xs) := by unfold xL; rw [q]; rfl
  exact ei_list (sq := qL (xL sq)) h' rfl c L S σ H α xs R (by unfold qL; rw [hx]) W k
def rngD (lo : Int) (n : Nat) : List D := (List.range n).map fun (k : Nat) => D.int (lo + (k : Int))
theorem walks_rng {lo : Int} {n : Nat} {F : Hp} : Walks e (Itr lo n) F (rngD lo n) := fun L H s2 _ i => by
  refine ⟨fun hi => by show i < n; simpa [rngD] using hi, fun hi => by show n ≤ i; simpa [rngD] using hi, fun x v H3 hx ⟨e3, y⟩ => ?_⟩
  subst e3 y
  refine ⟨Same.refl _, ?_⟩
  unfold rngD at hx
  rw [List.getElem?_map] at hx
  cases hr : (List.range n)[i]? with
  | none => rw [hr] at hx; cases hx
  | some j =>
    rw [hr] at hx
    cases hx
    obtain ⟨hlt, hj⟩ := List.getElem?_eq_some_iff.mp hr
    rw [List.getElem_range] at hj
    subst hj
    rfl
def rngOk (n : Int) : Bool := decide (-(2 ^ 62) ≤ n ∧ n < 2 ^ 62)
theorem rngOk_iff {n : Int} : rngOk n = true ↔ (-(2 ^ 62) ≤ n ∧ n < 2 ^ 62) := by unfold rngOk; simp
def xRng1 (sr : State → Option (List D)) : State → Option (List D) := fun α => match sr α with | some [.int n] => if rngOk n = true then some (rngD 0 n.toNat) else none | _ => none
theorem ei_rng1 {tr : TA} {sr : State → Option (List D)} (h : Eva e tr sr) : Evi e (iRng1 tr) (xRng1 sr) := fun c L S σ H α xs R q W k => by
  unfold xRng1 at q
  split at q
  · rename_i n hs
    split at q
    · rename_i hn
      cases q
      refine h c L S σ H α _ R hs _ fun vs H' e1 ⟨v, _, e2, r1, r2⟩ => ?_
      cases r1; cases r2; subst e2
      have hn := rngOk_iff.mp hn
      exact ⟨n, rfl, hn.1, hn.2, k _ H' e1 walks_rng⟩
    · cases q
  · cases q
def xRng2 (sr : State → Option (List D)) : State → Option (List D) := fun α => match sr α with | some [.int a, .int n] => if rngOk a = true ∧ rngOk n = true then some (rngD a (n - a).toNat) else none | _ => none
theorem ei_rng2 {tr : TA} {sr : State → Option (List D)} (h : Eva e tr sr) : Evi e (iRng2 tr) (xRng2 sr) := fun c L S σ H α xs R q W k => by
  unfold xRng2 at q
  split at q
  · rename_i a n hs
    split at q
    · rename_i hn
      cases q
      refine h c L S σ H α _ R hs _ fun vs H' e1 ⟨v, _, e2, r1, ⟨v', _, e3, r2, r3⟩⟩ => ?_
      cases r1; cases r2; cases r3; subst e3; subst e2
      have ha := rngOk_iff.mp hn.1
      have hb := rngOk_iff.mp hn.2
      exact ⟨a, n, rfl, ⟨ha.1, ha.2, hb.1, hb.2⟩, k _ H' e1 walks_rng⟩
    · cases q
  · cases q

/-! ### for, while -/
def loopF (gt : D → State → Option State) (body : State → Out) : List D → State → Out
  | [], α => .nxt α
  | x :: xs, α => match gt x α with
    | none => .bad
    | some β => match body β with
      | .nxt α' => loopF gt body xs α'
      | .cnt α' => loopF gt body xs α'
      | .brk α' => .nxt α'
      | o => o
def sFor (sx : State → Option (List D)) (gt : D → State → Option State) (body : State → Out) : State → Out := fun α => match sx α with | some xs => loopF gt body xs α | none => .bad
theorem st_for {wi : TI} {g : TG} {sx : State → Option (List D)} {gt : D → State → Option State} {js : List Nat} (hi : Evi e wi sx) (hg : Etg e g gt js) (hb : Sts e E ts s) : Sts e E (tFor wi g ts) (sFor sx gt s) := fun c L S σ H α D R k => by
  unfold sFor at k
  cases hx : sx α with
  | none => rw [hx] at k; exact k.elim
  | some xs =>
    rw [hx] at k
    refine hi c L S σ H α xs R hx _ fun J H1 e1 wk => ?_
    refine ⟨fun i m σ' H' => m = xs.length - i ∧ i ≤ xs.length ∧ ∃ L' S' α', Rel e c L' S' σ' H' α' ∧ Same (fz L H1) (fz L' H') ∧ OutOk e E c D (fz L' H') (loopF gt s (xs.drop i) α'),
      ⟨xs.length, by simp, Nat.zero_le _, L, S, α, R.up e1, Same.refl _, OutOk.mono (fz_same e1) k⟩, ?_⟩
    rintro i m σ2 H2 ⟨rfl, hi, L2, S2, α2, R2, s2, k2⟩
    obtain ⟨w1, w2, w3⟩ := wk L2 H2 s2 R2.dom i
    by_cases hlt : i < xs.length
    · refine .inr ⟨w1 hlt, fun σ' H' => ∃ L' S' α', Rel e c L' S' σ' H' α' ∧ Same (fz L H1) (fz L' H') ∧ OutOk e E c D (fz L' H') (loopF gt s (xs.drop (i + 1)) α'), fun σ' H' h => ⟨xs.length - (i + 1), by omega, rfl, hlt, h⟩, fun v H3 y => ?_⟩
      obtain ⟨e3, r3⟩ := w3 xs[i] v H3 (List.getElem?_eq_getElem hlt) y
      rw [List.drop_eq_getElem_cons hlt] at k2
      unfold loopF at k2
      cases hgt : gt xs[i] α2 with
      | none => rw [hgt] at k2; exact k2.elim
      | some β =>
        rw [hgt] at k2
        have R3 := R2.up e3
        refine hg c L2 S2 σ2 H3 α2 xs[i] v β R3 r3 hgt _ fun σ4 _ _ R4 => ?_
        have f3 : Same (fz L2 H2) (fz L2 H3) := fz_same e3
        refine hb c L2 S2 σ4 H3 β _ R4 ?_
        dsimp only at k2
        cases hs : s β with
        | nxt β' => rw [hs] at k2; exact fun L5 S5 σ5 H5 a5 r5 => ⟨L5, S5, β', r5, s2.trans (f3.trans a5), OutOk.mono (f3.trans a5) k2⟩
        | cnt β' => rw [hs] at k2; exact fun L5 S5 σ5 H5 a5 r5 => ⟨L5, S5, β', r5, s2.trans (f3.trans a5), OutOk.mono (f3.trans a5) k2⟩
        | brk β' => rw [hs] at k2; exact fun L5 S5 σ5 H5 a5 r5 => k2 L5 S5 σ5 H5 (f3.trans a5) r5
        | ret r β' => rw [hs] at k2; exact k2
        | exc x => rw [hs] at k2; exact k2
        | bad => rw [hs] at k2; exact k2
    · have e2 : i = xs.length := by omega
      subst e2
      rw [List.drop_length] at k2
      exact .inl ⟨w2 (Nat.le_refl _), k2 L2 S2 σ2 H2 (Same.refl _) R2⟩
def loopW (t : State → Res Bool) (body : State → Out) : Nat → State → Out
  | 0, _ => .bad
  | n + 1, α => match t α with
    | .ok true α' => (match body α' with
      | .nxt β => loopW t body n β
      | .cnt β => loopW t body n β
      | .brk β => .nxt β
      | o => o)
    | .ok false α' => .nxt α'
    | .exc x => .exc x
    | .bad => .bad
theorem st_while {st : State → Res Bool} (fuel : State → Nat) (ht : EvtE e E t st) (hb : Sts e E ts s) : Sts e E (tWhile t ts) (fun α => loopW st s (fuel α) α) := fun c L S σ H α D R k => by
  refine ⟨fun m σ' H' => ∃ L' S' α', Rel e c L' S' σ' H' α' ∧ Same (fz L H) (fz L' H') ∧ OutOk e E c D (fz L' H') (loopW st s m α'), ⟨_, L, S, α, R, Same.refl _, k⟩, ?_⟩
  rintro m σ2 H2 ⟨L2, S2, α2, R2, s2, k2⟩
  cases m with
  | zero => exact k2.elim
  | succ n =>
    unfold loopW at k2
    refine ht c L2 S2 σ2 H2 α2 R2 _ (fun b α' hs H' m r1 => ?_) (fun x hx => by rw [hx] at k2; exact k2) (fun hb => by rw [hb] at k2; exact k2)
    rw [hs] at k2
    have f3 := fz_mod m R2.sub
    cases b with
    | false => exact k2 L2 S2 σ2 H' f3 r1
    | true =>
      refine ⟨fun σ' H' => ∃ L' S' α', Rel e c L' S' σ' H' α' ∧ Same (fz L H) (fz L' H') ∧ OutOk e E c D (fz L' H') (loopW st s n α'), fun σ' H' h => ⟨n, Nat.lt_succ_self _, h⟩, ?_⟩
      refine hb c L2 S2 σ2 H' α' _ r1 ?_
      dsimp only at k2
      cases hs : s α' with
      | nxt β' => rw [hs] at k2; exact fun L5 S5 σ5 H5 a5 r5 => ⟨L5, S5, β', r5, s2.trans (f3.trans a5), OutOk.mono (f3.trans a5) k2⟩
      | cnt β' => rw [hs] at k2; exact fun L5 S5 σ5 H5 a5 r5 => ⟨L5, S5, β', r5, s2.trans (f3.trans a5), OutOk.mono (f3.trans a5) k2⟩
      | brk β' => rw [hs] at k2; exact fun L5 S5 σ5 H5 a5 r5 => k2 L5 S5 σ5 H5 (f3.trans a5) r5
      | ret r β' => rw [hs] at k2; exact k2
      | exc x => rw [hs] at k2; exact k2
      | bad => rw [hs] at k2; exact k2
end
end Ab
end
section
set_option maxRecDepth 100000
set_option maxHeartbeats 1000000
namespace Ab
open PySem L2 PyProof.Rows PySem.Spec
section
variable {e : En} {E : XK} {te ta tb : TE} {ts tu tw : TS} {t : TT} {s u w : State → Out}

/-- an owned object is changed by a callee -/
theorem Rel.mutM {c : Cn} {L S : List Addr} {σ : L2.St} {H H' : Hp} {α : State} (r : Rel e c L S σ H α) {i : Nat} {p : Addr} {o : HO} {ct ct' : Ct} (h : ctOf α[i]? = some ct) (hp : σ[i]? = some (some (.ref p))) (m : Mod [p] H H') (ho : H' p = some o) (rc : RepC e (fz L H') ct' o) :
    Rel e c L S σ H' (putC α i ct') ∧ Mod S H H' := by
  obtain ⟨p', o', hp', mS, ho', _⟩ := r.at h
  rw [hp] at hp'; cases hp'
  have mL := r.sub p mS
  have m' : ∀ a u, H a = some u → a ≠ p → H' a = some u := fun a u q n => m a u q (by simpa using n)
  have fzs : Same (fz L H) (fz L H') := fz_mut fun a u q n => m' a u q fun z => n (by rw [z]; exact mL)
  have md : Mod S H H' := fun a u q n => m' a u q fun z => n (by rw [z]; exact mS)
  refine ⟨⟨fun j a q => ?_, fun j k q hj hk sj sk => r.sep j k q (putC_own hj) (putC_own hk) sj sk, fun q m2 z => ?_, r.sub, r.l0, r.l1, r.s1, ?_, r.s0, r.d0, by rw [putC_len]; exact r.len⟩, md⟩
  · by_cases e1 : j = i
    · subst e1
      cases ha : α[j]? with
      | none => rw [ha] at h; cases h
      | some x =>
        cases x with
        | none => rw [ha] at h; cases h
        | some b =>
          have hl : j < α.length := (List.getElem?_eq_some_iff.mp ha).1
          obtain ⟨v, h1, h2⟩ := r.slot j b ha
          rw [hp] at h1; cases h1
          unfold putC at q
          cases b with
          | dat d => rw [ha] at h; cases h
          | own c1 =>
            rw [ha] at q
            rw [show (α.set j (some (A.own ct')))[j]? = some (some (A.own ct')) by rw [getset, if_pos rfl, if_pos hl]] at q
            cases q
            obtain ⟨p', o2, q2, m, n, ho2, _⟩ := h2
            cases q2
            exact ⟨_, hp, p, o, rfl, m, n, ho, rc⟩
          | inn c1 =>
            rw [ha] at q
            rw [show (α.set j (some (A.inn ct')))[j]? = some (some (A.inn ct')) by rw [getset, if_pos rfl, if_pos hl]] at q
            cases q
            obtain ⟨p', o2, q2, m, n, ho2, _⟩ := h2
            cases q2
            exact ⟨_, hp, p, o, rfl, m, n, ho, rc⟩
    · have qa : α[j]? = some (some a) := by
        unfold putC at q
        split at q
        · rw [getset, if_neg (fun z => e1 z.symm)] at q; exact q
        · rw [getset, if_neg (fun z => e1 z.symm)] at q; exact q
        · exact q
      obtain ⟨v, h1, h2⟩ := r.slot j a qa
      refine ⟨v, h1, ?_⟩
      have hne : isOwn α[j]? = true → v ≠ .ref p := fun ho z => e1 (r.sep j i p ho (isOwn_ct h) (by rw [h1, z]) hp)
      cases a with
      | dat d => exact Rep.up (d := d) h2 fzs
      | own c1 =>
        obtain ⟨p', o2, q2, m, n, ho2, rc2⟩ := h2
        subst q2
        exact ⟨p', o2, rfl, m, n, m' _ _ ho2 (fun z => hne (by rw [qa]; rfl) (by rw [z])), rc2.up fzs⟩
      | inn c1 =>
        obtain ⟨p', o2, q2, m, n, ho2, rc2⟩ := h2
        subst q2
        exact ⟨p', o2, rfl, m, n, m' _ _ ho2 (fun z => hne (by rw [qa]; rfl) (by rw [z])), rc2.up fzs⟩
  · by_cases e1 : q = p
    · subst e1; rw [ho] at z; cases z
    · cases qh : H q with
      | none => exact r.dom q m2 qh
      | some o2 => rw [m' q o2 qh e1] at z; cases z
  · intro a u q n
    have hne : a ≠ p := by
      rintro rfl
      rcases r.s1 a mS with z | z
      · exact n z
      · rw [q] at z; cases z
    exact m' a u (r.md a u q n) hne

/-! ### lists that are owned -/
def isL (x : Option (Option A)) : Bool := match ctOf x with | some (.lst _) => true | _ => false
def sApp (i : Nat) (s : State → Res D) : State → Out := fun α => if isL α[i]? = true then (match s α with
  | .ok d α' => (match ctOf α'[i]? with | some (.lst xs) => if xs.length < 100000 then .nxt (putC α' i (.lst (xs ++ [d]))) else .bad | _ => .bad)
  | .exc x => .exc x | .bad => .bad) else .bad
theorem isL_some {x : Option (Option A)} (h : isL x = true) : ∃ xs, ctOf x = some (.lst xs) := by
  unfold isL at h
  split at h
  · exact ⟨_, by assumption⟩
  · cases h
theorem st_app {i : Nat} {s : State → Res D} (h : Eve e E te s) : Sts e E (tDrop (tBM e.K "list" rAppend (tVar i) (tCons te tNil))) (sApp i s) := fun c L S σ H α D R k => by
  unfold sApp at k
  split at k
  · rename_i hi
    obtain ⟨ys, hy⟩ := isL_some hi
    obtain ⟨p, o, h1, m1, ho, vs, rfl, r1⟩ := R.at hy
    refine ⟨.ref p, h1, .inl ⟨rfl, vs, SqL.of ho⟩, ?_⟩
    refine h c L S σ H α R _ (fun d α' hs v H' m R' rv => ?_) (fun x hx => by rw [hx] at k; exact k) (fun hb => by rw [hb] at k; exact k)
    rw [hs] at k
    dsimp only at k
    split at k
    · rename_i xs hx
      split at k
      · rename_i hz
        obtain ⟨p', o', h1', m1', ho', vs', rfl, r1'⟩ := R'.at hx
        rw [h1] at h1'; cases h1'
        refine ⟨p, vs', v, rfl, rfl, ho', by rw [r1'.len]; exact sz_lt hz, ?_⟩
        have fzs : Same (fz L H') (fz L H') := Same.refl _
        obtain ⟨R2, m2⟩ := R'.mut hx h1 (o := .lst (vs' ++ [v])) (ct' := .lst (xs ++ [d])) ⟨_, rfl, r1'.append (Reps.cons rv Reps.nil)⟩
        exact k L S σ _ ((fz_mod m R.sub).trans (fz_mod m2 R'.sub)) R2
      · exact k.elim
    · exact k.elim
  · exact k.elim
def xPop (i : Nat) : State → Res D := fun α => match ctOf α[i]? with | some (.lst xs) => (match xs.getLast? with | some d => .ok d (putC α i (.lst xs.dropLast)) | none => .bad) | _ => .bad
theorem Reps.dropLast : ∀ {ds : List D} {vs : List V} {F : Hp}, Reps e F ds vs → Reps e F ds.dropLast vs.dropLast := fun {ds vs F} r => by
  rw [List.dropLast_eq_take, List.dropLast_eq_take, r.len]
  exact r.take _
theorem ee_pop (i : Nat) : Eve e E (tBM0 e.K "list" rPop (tVar i)) (xPop i) := fun c L S σ H α R Q k kx nb => by
  unfold xPop at k nb
  cases hc : ctOf α[i]? with
  | none => rw [hc] at nb; exact absurd rfl nb
  | some ct =>
    cases ct with
    | obj x fs => rw [hc] at nb; exact absurd rfl nb
    | dic kvs => rw [hc] at nb; exact absurd rfl nb
    | lst xs =>
      rw [hc] at k nb
      dsimp only at k nb
      cases hl : xs.getLast? with
      | none => rw [hl] at nb; exact absurd rfl nb
      | some d =>
        rw [hl] at k
        obtain ⟨p, o, h1, m1, ho, vs, rfl, r1⟩ := R.at hc
        rw [List.getLast?_eq_getElem?] at hl
        obtain ⟨v, hv, rv⟩ := r1.get hl
        refine ⟨.ref p, h1, .inl ⟨rfl, vs, SqL.of ho⟩, p, vs, v, rfl, rfl, ho, by rw [r1.len]; exact hv, ?_⟩
        obtain ⟨R2, m2⟩ := R.mut hc h1 (o := .lst vs.dropLast) (ct' := .lst xs.dropLast) ⟨_, rfl, r1.dropLast⟩
        exact k d _ rfl v _ m2 R2 (rv.up (fz_mod m2 R.sub))
/-- x[k] = e -/
def sSetI (i : Nat) (s : State → Res D) (sk : State → Option D) : State → Out := fun α => match s α with
  | .ok d α' => (match sk α', ctOf α'[i]? with | some (.int z), some (.lst xs) => (match ixN xs.length z with | some j => .nxt (putC α' i (.lst (xs.set j d))) | none => .bad) | _, _ => .bad)
  | .exc x => .exc x | .bad => .bad
theorem st_setI {i : Nat} {s : State → Res D} {sk : State → Option D} (h : Eve e E te s) (hk : Evp e tb sk) : Sts e E (tAsg te (gSub (tVar i) tb rSetL)) (sSetI i s sk) := fun c L S σ H α D R k => by
  unfold sSetI at k
  refine h c L S σ H α R _ (fun d α' hs v H' m R' rv => ?_) (fun x hx => by rw [hx] at k; exact k) (fun hb => by rw [hb] at k; exact k)
  rw [hs] at k
  dsimp only at k
  split at k
  · rename_i z xs hz hx
    split at k
    · rename_i j hj
      obtain ⟨p, o, h1, m1, ho, vs, rfl, r1⟩ := R'.at hx
      refine ⟨.ref p, h1, ?_⟩
      refine hk c L S σ H' α' _ R' hz _ fun v2 H2 e2 r2 => ?_
      cases r2
      refine ⟨p, vs, z, j, rfl, rfl, e2 _ _ ho, by rw [r1.len]; exact hj, ?_⟩
      have R2 := R'.up e2
      obtain ⟨R3, m3⟩ := R2.mut hx h1 (o := .lst (vs.set j v)) (ct' := .lst (xs.set j d)) ⟨_, rfl, (r1.set j rv).up (fz_same e2)⟩
      exact k L S σ _ ((fz_mod m R.sub).trans ((fz_same e2).trans (fz_mod m3 R2.sub))) R3
    · exact k.elim
  · exact k.elim

/-! ### arguments with side effects, calls -/
def anil : State → Res (List Arg) := fun α => .ok [] α
theorem eae_nil : EvaE e E tNil anil := fun c L S σ H α R Q k kx nb => k [] α rfl [] H Mod.refl R rfl
def acons (s : State → Res D) (sr : State → Res (List Arg)) : State → Res (List Arg) := fun α => match s α with
  | .ok d α1 => (match sr α1 with | .ok as α2 => .ok (.dat d :: as) α2 | .exc x => .exc x | .bad => .bad)
  | .exc x => .exc x | .bad => .bad
theorem eae_cons {tr : TA} {s : State → Res D} {sr : State → Res (List Arg)} (h : Eve e E te s) (hr : EvaE e E tr sr) : EvaE e E (tCons te tr) (acons s sr) := fun c L S σ H α R Q k kx nb => by
  unfold acons at k kx nb
  refine h c L S σ H α R _ (fun d α1 hs v H1 m1 R1 r1 => ?_) (fun x hx => kx x (by rw [hx])) (fun hb => nb (by rw [hb]))
  rw [hs] at k kx nb
  dsimp only at k kx nb
  refine hr c L S σ H1 α1 R1 _ (fun as α2 hs2 vs H2 m2 R2 r2 => ?_) (fun x hx => kx x (by rw [hx])) (fun hb => nb (by rw [hb]))
  rw [hs2] at k
  exact k _ α2 rfl _ H2 (m1.trans m2) R2 ⟨v, vs, rfl, Rep.up (d := d) r1 (fz_mod m2 R1.sub), r2⟩
def aslot (i : Nat) (sr : State → Res (List Arg)) : State → Res (List Arg) := fun α => if (ctOf α[i]?).isSome = true then (match sr α with | .ok as α2 => .ok (.slot i :: as) α2 | .exc x => .exc x | .bad => .bad) else .bad
theorem eae_slot (i : Nat) {tr : TA} {sr : State → Res (List Arg)} (hr : EvaE e E tr sr) : EvaE e E (tCons (tVar i) tr) (aslot i sr) := fun c L S σ H α R Q k kx nb => by
  unfold aslot at k kx nb
  split at nb
  · rename_i hi
    rw [if_pos hi] at k kx
    obtain ⟨ct, hct⟩ := Option.isSome_iff_exists.mp hi
    obtain ⟨p, o, h1, m1, ho, r1⟩ := R.at hct
    refine ⟨.ref p, h1, ?_⟩
    refine hr c L S σ H α R _ (fun as α2 hs2 vs H2 m2 R2 r2 => ?_) (fun x hx => kx x (by rw [hx])) (fun hb => nb (by rw [hb]))
    rw [hs2] at k
    exact k _ α2 rfl _ H2 m2 R2 ⟨.ref p, vs, rfl, h1, r2⟩
  · exact absurd rfl nb
def datas : List Arg → Option (List D)
  | [] => some []
  | .dat d :: r => (datas r).map (d :: ·)
  | .slot _ :: _ => none
theorem datas_rep {L : List Addr} {σ : L2.St} {H : Hp} : ∀ {as : List Arg} {vs : List V} {ds : List D}, datas as = some ds → ArgsRep e L σ H as vs → Reps e (fz L H) ds vs
  | [], _, _, h, r => by cases h; cases r; exact Reps.nil
  | .dat d :: as, _, _, h, ⟨v, w, q, r1, r2⟩ => by
    unfold datas at h
    cases hs : datas as with
    | none => rw [hs] at h; cases h
    | some ds => rw [hs] at h; cases h; subst q; exact Reps.cons r1 (datas_rep hs r2)
  | .slot _ :: _, _, _, h, _ => by cases h
def rCall (m : List D → Option D) (sr : State → Res (List Arg)) : State → Res D := fun α => match sr α with
  | .ok as α1 => (match bnd (datas as) m with | some d => .ok d α1 | none => .bad)
  | .exc x => .exc x | .bad => .bad
/-- a call without side effects of its own, of arguments with such -/
theorem ee_call {E' : XK} {m : List D → Option D} {tr : TA} {sr : State → Res (List Arg)} (h : EvaE e E tr sr) : Eve e E (tCall (spP e m) [] E' tr) (rCall m sr) := fun c L S σ H α R Q k kx nb => by
  unfold rCall at k kx nb
  refine h c L S σ H α R _ (fun as α1 hs vs H1 m1 R1 r1 => ?_) (fun x hx => kx x (by rw [hx])) (fun hb => nb (by rw [hb]))
  rw [hs] at k nb
  dsimp only at k nb
  cases hb : bnd (datas as) m with
  | none => rw [hb] at nb; exact absurd rfl nb
  | some d =>
    rw [hb] at k
    obtain ⟨ds, h1, h2⟩ := bnd_some hb
    exact ⟨L, ds, d, R1.dom, by rw [List.append_nil]; exact datas_rep h1 r1, h2, fun v H' e2 r2 => k d α1 rfl v H' (m1.trans (.of e2)) (R1.up e2) r2⟩
/-- displays -/
def rTup (sr : State → Res (List Arg)) : State → Res D := fun α => match sr α with
  | .ok as α1 => (match datas as with | some ds => if ds.length ≤ 100000 then .ok (.tup ds) α1 else .bad | none => .bad)
  | .exc x => .exc x | .bad => .bad
theorem ee_tup {tr : TA} {sr : State → Res (List Arg)} (h : EvaE e E tr sr) : Eve e E (tTup tr) (rTup sr) := fun c L S σ H α R Q k kx nb => by
  unfold rTup at k kx nb
  refine h c L S σ H α R _ (fun as α1 hs vs H1 m1 R1 r1 => ?_) (fun x hx => kx x (by rw [hx])) (fun hb => nb (by rw [hb]))
  rw [hs] at k nb
  dsimp only at k nb
  cases hb : datas as with
  | none => rw [hb] at nb; exact absurd rfl nb
  | some ds =>
    rw [hb] at k nb
    dsimp only at k nb
    split at nb
    · rename_i hz
      rw [if_pos hz] at k
      have r2 := datas_rep hb r1
      refine ⟨by rw [r2.len]; exact sz_of hz, fun p hp => ?_⟩
      have s2 : Same H1 (upd H1 p (.tup vs)) := fun b o z => by rw [upd_ne (ne_of_none z hp)]; exact z
      exact k _ α1 rfl _ _ (m1.trans (.of s2)) (R1.up s2) ⟨p, vs, rfl, .inl (.inl (fz_new (fresh_nL R1.dom hp) upd_same)), r2.up (fz_same s2)⟩
    · exact absurd rfl nb

/-! ### a def that changes an object handed in -/
inductive MRes where
  | ok (r : RetV) (as : List A) | exc (x : Exn) | bad
def AsRep (e : En) (L S : List Addr) (H : Hp) : List A → List V → Prop
  | [], vs => vs = []
  | a :: r, vs => ∃ v w, vs = v :: w ∧ (match a with
    | .dat d => Rep e (fz L H) d v
    | .inn ct => ∃ p o, v = .ref p ∧ p ∈ S ∧ H p = some o ∧ RepC e (fz L H) ct o
    | .own _ => False) ∧ AsRep e L S H r w
def innCount : List A → Nat
  | [] => 0
  | .inn _ :: r => innCount r + 1
  | _ :: r => innCount r
/-- at most one object is handed in to be changed -/
def spM (e : En) (m : List A → MRes) : Sp := fun vs H Q E => ∃ L S as, Dom L H ∧ (∀ p ∈ S, p ∈ L) ∧ innCount as ≤ 1 ∧ AsRep e L S H as vs ∧
  (∀ r as', m as = .ok r as' → ∀ v H', Mod S H H' → AsRep e L S H' as' vs → RetRep e L H' v ⟨L, S, H, []⟩ r → Q v H') ∧
  (∀ x, m as = .exc x → ∀ cls dd H', Mod S H H' → XRep e (fz L H') H' x cls dd → E cls dd H') ∧ m as ≠ .bad

/-! ### a def's promise by its body -/
def ends (k : Nat) (α : State) : State := α
def inP (n k : Nat) (ds : List D) : State := ds.map (fun d => some (.dat d)) ++ List.replicate (n - k) none
def runP (n k : Nat) (s : State → Out) : List D → Option D := fun ds => if ds.length = k then (match s (inP n k ds) with
  | .ret (.dat d) _ => some d | .ret (.lst xs) _ => some (.lst xs) | .nxt _ => some .non | _ => none) else none
def runL (n k : Nat) (s : State → Out) : List D → Option (List D) := fun ds => if ds.length = k then (match s (inP n k ds) with
  | .ret (.lst xs) _ => some xs | _ => none) else none
theorem Mod.same {H H' : Hp} (h : Mod [] H H') : Same H H' := fun a o q => h a o q (by simp)
theorem inP_rel {L : List Addr} {H : Hp} {ds : List D} {vs : List V} {N : List Str} (dm : Dom L H) (r : Reps e (fz L H) ds vs) (hk : vs.length ≤ N.length) : Rel e ⟨L, [], H, L2.start N vs⟩ L [] (L2.start N vs) H (inP N.length vs.length ds) where
  slot := fun i a q => by
    unfold inP at q
    have hl := r.len
    by_cases hi : i < ds.length
    · rw [List.getElem?_append_left (by simpa using hi), List.getElem?_map, List.getElem?_eq_getElem hi] at q
      cases q
      obtain ⟨v, h1, h2⟩ := r.get (List.getElem?_eq_getElem hi)
      refine ⟨v, ?_, h2⟩
      unfold L2.start
      rw [List.getElem?_append_left (by simp; omega), List.getElem?_map, h1]
      rfl
    · rw [List.getElem?_append_right (by simp; omega)] at q
      rw [List.getElem?_replicate] at q
      split at q <;> cases q
  sep := fun i j p hi _ _ _ => by
    unfold inP at hi
    by_cases h : i < ds.length
    · rw [List.getElem?_append_left (by simpa using h), List.getElem?_map, List.getElem?_eq_getElem h] at hi
      simp [isOwn] at hi
    · rw [List.getElem?_append_right (by simp; omega), List.getElem?_replicate] at hi
      split at hi <;> simp [isOwn] at hi
  dom := dm
  sub := fun _ h => nomatch h
  l0 := fun _ h => h
  l1 := fun _ h => .inl h
  s1 := fun _ h => nomatch h
  md := Mod.refl
  s0 := fun _ h => nomatch h
  d0 := dm
  len := by
    unfold L2.start inP
    simp [r.len]
variable {P : Program} {w : World} {K : PySem.W.Frag} {mg : Str → Option Value} {base : Heap}
theorem fn_P {cls : String → Addr} {x qual : Str} {st : Stmt} {f : Addr} {fd : FuncData} {N ps : List Str} {k : Nat} (s : State → Out) (F : Fun K x qual st f fd) (S : FnScope N ps (defScope st)) {n kk : Nat} (hn : N.length = n) (hkk : ps.length = kk) (hps : kk ≤ n) {m : List D → Option D} (hmm : m = runP n kk s)
    (hbody : ∀ (cdv : Value) (A : Around) (outer : List Env) (s0 : Shared) (H : Hp) (E : XK), Room k (A.deeper (envOfC qual (defScope st) s0.heap.objs.size f cdv)) →
      ∃ t, PSs (cxOf CX0 P w K mg base N qual (defScope st) f cdv A outer s0 H E).nox (defBody st) t ∧ Sts ⟨K, cls⟩ E0 t s) : FnOk P w K mg base CX0 (k + 1) f fd ps (spP ⟨K, cls⟩ m) := by
  subst hn hkk hmm
  refine F.ok S (fun vs H Q E h => ?_) (fun cdv A outer s0 H vs Q E hr h => ?_)
  · obtain ⟨L, ds, d, dm, r, hm, q⟩ := h
    unfold runP at hm
    split at hm
    · rename_i hl
      rw [r.len, hl]
    · cases hm
  · obtain ⟨L, ds, d, dm, r, hm, q⟩ := h
    obtain ⟨t, h1, h2⟩ := hbody cdv A outer s0 H E hr
    refine ⟨t, h1, ?_⟩
    unfold runP at hm
    split at hm
    · rename_i hl
      have hvl : vs.length = ps.length := by rw [r.len, hl]
      have R := inP_rel (N := N) dm r (by omega)
      rw [hvl] at R
      refine h2 _ _ _ _ _ _ _ R ?_
      split at hm
      · rename_i d' β hs
        cases hm
        rw [hs]
        intro v L' S' σ' H' R' rr
        exact q v H' R'.md.same (Rep.mono (fz_anti R'.l0) _ _ rr)
      · rename_i xs β hs
        cases hm
        rw [hs]
        intro v L' S' σ' H' R' rr
        obtain ⟨p, us, rfl, n0, hp, r2⟩ := rr
        refine q _ H' R'.md.same ⟨p, us, rfl, .inl (.inl (fz_new (fun m => R'.d0 p m n0) hp)), r2.up (fz_anti fun a m => List.mem_cons_of_mem _ (R'.l0 a m))⟩
      · rename_i β hs
        cases hm
        rw [hs]
        intro L' S' σ' H' _ R'
        exact q _ H' R'.md.same rfl
      · cases hm
    · cases hm
theorem fn_L {cls : String → Addr} {x qual : Str} {st : Stmt} {f : Addr} {fd : FuncData} {N ps : List Str} {k : Nat} (s : State → Out) (F : Fun K x qual st f fd) (S : FnScope N ps (defScope st)) {n kk : Nat} (hn : N.length = n) (hkk : ps.length = kk) (hps : kk ≤ n) {m : List D → Option (List D)} (hmm : m = runL n kk s)
    (hbody : ∀ (cdv : Value) (A : Around) (outer : List Env) (s0 : Shared) (H : Hp) (E : XK), Room k (A.deeper (envOfC qual (defScope st) s0.heap.objs.size f cdv)) →
      ∃ t, PSs (cxOf CX0 P w K mg base N qual (defScope st) f cdv A outer s0 H E).nox (defBody st) t ∧ Sts ⟨K, cls⟩ E0 t s) : FnOk P w K mg base CX0 (k + 1) f fd ps (spL ⟨K, cls⟩ m) := by
  subst hn hkk hmm
  refine F.ok S (fun vs H Q E h => ?_) (fun cdv A outer s0 H vs Q E hr h => ?_)
  · obtain ⟨L, ds, d, dm, r, hm, q⟩ := h
    unfold runL at hm
    split at hm
    · rename_i hl
      rw [r.len, hl]
    · cases hm
  · obtain ⟨L, ds, d, dm, r, hm, q⟩ := h
    obtain ⟨t, h1, h2⟩ := hbody cdv A outer s0 H E hr
    refine ⟨t, h1, ?_⟩
    unfold runL at hm
    split at hm
    · rename_i hl
      have hvl : vs.length = ps.length := by rw [r.len, hl]
      have R := inP_rel (N := N) dm r (by omega)
      rw [hvl] at R
      refine h2 _ _ _ _ _ _ _ R ?_
      split at hm
      · rename_i xs β hs
        cases hm
        rw [hs]
        intro v L' S' σ' H' R' rr
        obtain ⟨p, us, rfl, n0, hp, r2⟩ := rr
        refine q p us H' R'.md.same n0 hp (r2.up (fz_anti fun a m => ?_))
        rcases List.mem_cons.mp m with rfl | m
        · exact List.mem_cons_self
        · exact List.mem_cons_of_mem _ (R'.l0 a m)
      · cases hm
    · cases hm

/-! ### comprehensions -/
def wipeA : List Nat → State → State
  | [], α => α
  | v :: vs, α => (wipeA vs α).set v none
theorem Rel.setN {c : Cn} {L S : List Addr} {σ : L2.St} {H : Hp} {α : State} (r : Rel e c L S σ H α) (i : Nat) : Rel e c L S (σ.set i none) H (α.set i none) where
  slot := fun j a q => by
    rw [getset] at q ⊢
    split at q
    · split at q <;> cases q
    · rename_i hn
      rw [if_neg hn]
      exact r.slot j a q
  sep := fun j k p hj hk sj sk => by
    rw [getset] at hj hk sj sk
    by_cases e1 : i = j
    · rw [if_pos e1] at hj
      split at hj <;> simp [isOwn] at hj
    · by_cases e2 : i = k
      · rw [if_pos e2] at hk
        split at hk <;> simp [isOwn] at hk
      · rw [if_neg e1] at hj sj; rw [if_neg e2] at hk sk
        exact r.sep j k p hj hk sj sk
  dom := r.dom
  sub := r.sub
  l0 := r.l0
  l1 := r.l1
  s1 := r.s1
  md := r.md
  s0 := r.s0
  d0 := r.d0
  len := by rw [List.length_set, List.length_set]; exact r.len
theorem Rel.wipe {c : Cn} {L S : List Addr} {σ : L2.St} {H : Hp} {α : State} (r : Rel e c L S σ H α) : ∀ vs : List Nat, Rel e c L S (L2.wipe σ vs) H (wipeA vs α)
  | [] => r
  | v :: vs => (Rel.wipe r vs).setN v
theorem wipe_idem {σ : L2.St} {vs : List Nat} : L2.wipe (L2.wipe σ vs) vs = L2.wipe σ vs := wipe_ext (wipe_length _ _) fun j hj => wipe_out hj
def lcF (gt : D → State → Option State) (st : State → Option Bool) (se : State → Option D) : List D → State → Option (List D)
  | [], _ => some []
  | x :: xs, α => bnd (gt x α) fun β => match st β with
    | some true => bnd (se β) fun d => bnd (lcF gt st se xs α) fun r => some (d :: r)
    | some false => lcF gt st se xs α
    | none => none
def xLc (vs : List Nat) (sx : State → Option (List D)) (gt : D → State → Option State) (st : State → Option Bool) (se : State → Option D) : State → Option (List D) := fun α =>
  bnd (sx α) fun xs => if xs.length ≤ 100000 then lcF gt st se xs (wipeA vs α) else none
def tbYes : State → Option Bool := fun _ => some true
theorem et_yes : Evt e tYes tbYes := fun c L S σ H α b R q Q k => by cases q; exact k H (Same.refl H)
theorem el_lc {wi : TI} {g : TG} {tt : TT} {vs js : List Nat} {sx : State → Option (List D)} {gt : D → State → Option State} {st : State → Option Bool} {se : State → Option D} (hi : Evi e wi sx) (hg : Etg e g gt js) (hj : ∀ j ∈ js, j ∈ vs) (ht : Evt e tt st) (he : Evp e te se) :
    Evl e (tLc wi g tt te vs) (xLc vs sx gt st se) := fun c L S σ H α out R q Q k => by
  obtain ⟨xs, hx, q⟩ := bnd_some q
  split at q
  · rename_i hz
    refine hi c L S σ H α xs R hx _ fun J H1 e1 wk => ?_
    intro D0 hD
    have hn : H D0 = none := by
      cases z : H D0 with
      | none => rfl
      | some o => rw [e1 D0 o z] at hD; cases hD
    have R1 := R.up e1
    refine ⟨fun i m H' => m = xs.length - i ∧ i ≤ xs.length ∧ Same H1 H' ∧ ∃ acc ds rest, H' D0 = some (.lst acc) ∧ acc.length ≤ i ∧ Reps e (fz (D0 :: L) H') ds acc ∧ lcF gt st se (xs.drop i) (wipeA vs α) = some rest ∧ ds ++ rest = out,
      ⟨xs.length, by simp, Nat.zero_le _, fun a o z => by rw [upd_ne (ne_of_none z hD)]; exact z, [], [], out, upd_same, Nat.le_refl _, Reps.nil, q, rfl⟩, ?_⟩
    rintro i m H2 ⟨rfl, hi, s2, acc, ds, rest, h2, hal, hr, hl, ho⟩
    have R2 : Rel e c (D0 :: L) S (L2.wipe σ vs) H2 (wipeA vs α) := (R1.more s2 hD h2).wipe vs
    have s2' : Same (fz L H1) (fz (D0 :: L) H2) := fz_cons s2 hD
    obtain ⟨w1, w2, w3⟩ := wk (D0 :: L) H2 s2' R2.dom i
    by_cases hlt : i < xs.length
    · rw [List.drop_eq_getElem_cons hlt] at hl
      obtain ⟨β, hgt, hl⟩ := bnd_some hl
      refine .inr ⟨w1 hlt, fun H' => Same H1 H' ∧ ∃ acc ds rest, H' D0 = some (.lst acc) ∧ acc.length ≤ i + 1 ∧ Reps e (fz (D0 :: L) H') ds acc ∧ lcF gt st se (xs.drop (i + 1)) (wipeA vs α) = some rest ∧ ds ++ rest = out,
        fun H' ⟨h', h''⟩ => ⟨xs.length - (i + 1), by omega, rfl, hlt, h', h''⟩, fun v H3 y => ?_⟩
      obtain ⟨e3, r3⟩ := w3 xs[i] v H3 (List.getElem?_eq_getElem hlt) y
      refine hg c _ S _ H3 _ xs[i] v β (R2.up e3) r3 hgt _ fun σ4 hl4 hj4 R4 => ⟨?_, ?_⟩
      · rw [wipe_ext hl4 fun j hn => hj4 j fun m => hn (hj j m), wipe_idem]
      · cases hst : st β with
        | none => rw [hst] at hl; cases hl
        | some b =>
          rw [hst] at hl
          refine ht c _ S σ4 H3 β b R4 hst _ fun H4 e4 => ?_
          cases b with
          | false =>
            rw [if_neg Bool.false_ne_true]
            exact ⟨s2.trans (e3.trans e4), acc, ds, rest, (e3.trans e4) _ _ h2, by omega, hr.up (fz_same (e3.trans e4)), hl, ho⟩
          | true =>
            rw [if_pos rfl]
            obtain ⟨d, hd, hl⟩ := bnd_some hl
            obtain ⟨rest', hr', hl⟩ := bnd_some hl
            cases hl
            refine he c _ S σ4 H4 β d (R4.up e4) hd _ fun v5 H5 e5 r5 => ?_
            have e35 := e3.trans (e4.trans e5)
            have fzs : Same (fz (D0 :: L) H5) (fz (D0 :: L) (upd H5 D0 (.lst (acc ++ [v5])))) := fz_mut fun a o z n => by
              rw [upd_ne (fun z' => n (by rw [z']; exact List.mem_cons_self))]; exact z
            refine ⟨acc, e35 _ _ h2, sz_lt (by omega), fun a o z => ?_, acc ++ [v5], ds ++ [d], rest', upd_same, by simp; omega, ((hr.up (fz_same e35)).append (Reps.cons r5 Reps.nil)).up fzs, hr', by rw [← ho, List.append_assoc]; rfl⟩
            rw [upd_ne (ne_of_none z hD)]
            exact e35 _ _ (s2 _ _ z)
    · have e2 : i = xs.length := by omega
      subst e2
      rw [List.drop_length] at hl
      cases hl
      rw [List.append_nil] at ho
      subst ho
      exact .inl ⟨w2 (Nat.le_refl _), k D0 acc H2 (e1.trans s2) hn h2 hr⟩
  · cases q
end
end Ab
end
section
set_option maxRecDepth 100000
set_option maxHeartbeats 1000000
namespace Ab
open PySem L2 PyProof.Rows PySem.Spec
section
variable {e : En} {E : XK} {te ta tb : TE} {sq sq2 : State → Option (List D)}
theorem none_back {H H1 : Hp} {p : Addr} (s : Same H H1) (n : H1 p = none) : H p = none := by
  cases z : H p with
  | none => rfl
  | some o => rw [s p o z] at n; cases n
theorem same_upd {H : Hp} {p : Addr} {o : HO} (h : H p = none) : Same H (upd H p o) := fun b u z => by rw [upd_ne (ne_of_none z h)]; exact z
/-! ### in -/
theorem reps_flat : ∀ {F : Hp} {ds : List D} {vs : List V}, ds.all flat = true → Reps e F ds vs → vs = ds.map dv
  | _, [], _, _, r => by cases r; rfl
  | F, d :: ds, _, h, ⟨v, w, q, r1, r2⟩ => by
    simp only [List.all_cons, Bool.and_eq_true] at h
    subst q
    rw [rep_flat h.1 r1, reps_flat h.2 r2]
    rfl
theorem flatV_dv {d : D} (h : flat d = true) : flatV (dv d) = true := by cases d <;> first | rfl | (simp [flat] at h)
theorem flatV_dvs {ds : List D} (h : ds.all flat = true) : (ds.map dv).all flatV = true := by
  rw [List.all_map]
  rw [List.all_eq_true] at h ⊢
  exact fun x hx => flatV_dv (h x hx)
def memD (neg : Bool) : D → D → Option D := fun a b => match b with
  | .tup xs => if (flat a && xs.all flat) = true then some (.bl (if neg then !inV (dv a) (xs.map dv) else inV (dv a) (xs.map dv))) else none
  | .lst xs => if (flat a && xs.all flat) = true then some (.bl (if neg then !inV (dv a) (xs.map dv) else inV (dv a) (xs.map dv))) else none
  | _ => none
theorem rv_in {neg : Bool} : RvD e (rIn e.K neg) (memD neg) := fun L H dx dy x y d dm rx ry h Q q => by
  unfold memD at h
  split at h
  · rename_i xs
    split at h
    · rename_i hc
      simp only [Bool.and_eq_true] at hc
      cases h
      obtain ⟨a, vs, rfl, r1, r2⟩ := ry
      have e1 := reps_flat hc.2 r2
      subst e1
      rw [rep_flat hc.1 rx]
      exact ⟨a, _, rfl, .inr (same_t fz_le r1), flatV_dv hc.1, flatV_dvs hc.2, q _ H (Same.refl H) rfl⟩
    · cases h
  · rename_i xs
    split at h
    · rename_i hc
      simp only [Bool.and_eq_true] at hc
      cases h
      obtain ⟨a, vs, rfl, r1, r2⟩ := ry
      have e1 := reps_flat hc.2 r2
      subst e1
      rw [rep_flat hc.1 rx]
      exact ⟨a, _, rfl, .inl (fz_le.seq r1), flatV_dv hc.1, flatV_dvs hc.2, q _ H (Same.refl H) rfl⟩
    · cases h
  · cases h
/-! ### == at any depth -/
mutual
def py : D → PyData
  | .non => .none | .bl b => .bool b | .int i => .int i | .str s => .str s
  | .tup xs => .tuple (pys xs) | .lst xs => .list (pys xs)
  | .ins _ _ => .none | .ty _ => .none | .cls _ => .none
def pys : List D → List PyData
  | [] => [] | d :: ds => py d :: pys ds
end
mutual
def plainD : D → Bool
  | .non | .bl _ | .int _ => true
  | .str s => PyData.strOk s
  | .tup xs => plainDs xs | .lst xs => plainDs xs
  | _ => false
def plainDs : List D → Bool
  | [] => true | d :: ds => plainD d && plainDs ds
end
mutual
def depD : D → Nat
  | .tup xs => depDs xs + 1 | .lst xs => depDs xs + 1
  | _ => 0
def depDs : List D → Nat
  | [] => 0 | d :: ds => max (depD d) (depDs ds)
end
mutual
theorem dp_of {F : Hp} : ∀ (d : D) (v : V), plainD d = true → Rep e F d v → Dp e.K F v (py d)
  | .non, _, _, r => by cases r; exact .non
  | .bl b, _, _, r => by cases r; exact .bl b
  | .int b, _, _, r => by cases r; exact .int b
  | .str b, _, _, r => by cases r; exact .str b
  | .tup xs, _, h, ⟨a, vs, q, t, r⟩ => by subst q; exact .tup t (dps_of xs vs h r)
  | .lst xs, _, h, ⟨a, vs, q, t, r⟩ => by subst q; exact .lst t (dps_of xs vs h r)
  | .ins _ _, _, h, _ => by cases h
  | .ty _, _, h, _ => by cases h
  | .cls _, _, h, _ => by cases h
theorem dps_of {F : Hp} : ∀ (ds : List D) (vs : List V), plainDs ds = true → Reps e F ds vs → DpAll e.K F vs (pys ds)
  | [], _, _, r => by cases r; exact .nil
  | d :: ds, _, h, ⟨v, w, q, r1, r2⟩ => by
    subst q
    have h' : plainD d = true ∧ plainDs ds = true := by simpa [plainDs] using h
    exact .cons (dp_of d v h'.1 r1) (dps_of ds w h'.2 r2)
end
mutual
theorem lay_of : ∀ d : D, plainD d = true → (py d).canLay0 = true
  | .non, _ => rfl
  | .bl _, _ => rfl
  | .int _, _ => rfl
  | .str s, h => h
  | .tup xs, h => lays_of xs h
  | .lst xs, h => lays_of xs h
  | .ins _ _, h => by cases h
  | .ty _, h => by cases h
  | .cls _, h => by cases h
theorem lays_of : ∀ ds : List D, plainDs ds = true → PyData.canLayAll0 (pys ds) = true
  | [], _ => rfl
  | d :: ds, h => by
    have h' : plainD d = true ∧ plainDs ds = true := by simpa [plainDs] using h
    show ((py d).canLay0 && PyData.canLayAll0 (pys ds)) = true
    rw [lay_of d h'.1, lays_of ds h'.2]; rfl
end
mutual
theorem dep_py : ∀ d : D, (py d).depth ≤ depD d
  | .non => Nat.le_refl _
  | .bl _ => Nat.le_refl _
  | .int _ => Nat.le_refl _
  | .str s => Nat.le_refl _
  | .tup xs => by show PyData.depth (.tuple (pys xs)) ≤ depDs xs + 1; have := deps_py xs; simp only [PyData.depth]; omega
  | .lst xs => by show PyData.depth (.list (pys xs)) ≤ depDs xs + 1; have := deps_py xs; simp only [PyData.depth]; omega
  | .ins _ _ => Nat.le_refl _
  | .ty _ => Nat.le_refl _
  | .cls _ => Nat.le_refl _
theorem deps_py : ∀ ds : List D, PyData.depthAll (pys ds) ≤ depDs ds
  | [] => Nat.le_refl _
  | d :: ds => by
    have h1 := dep_py d
    have h2 := deps_py ds
    show PyData.depthAll (py d :: pys ds) ≤ max (depD d) (depDs ds)
    simp only [PyData.depthAll]
    omega
end
def eqOk (a b : D) : Bool := plainD a && plainD b && decide (min (depD a) (depD b) ≤ 190)
def eqv (a b : D) : Bool := PyData.eqv (py a) (py b)
def rEqQ (K : PySem.W.Frag) : R2 := fun x y H Q => ∃ d e, Dp K H x d ∧ Dp K H y e ∧ d.canLay0 = true ∧ e.canLay0 = true ∧ min d.depth e.depth ≤ 190 ∧ Q (.bl (PyData.eqv d e)) H
def rNeQ (K : PySem.W.Frag) : R2 := fun x y H Q => ∃ d e, Dp K H x d ∧ Dp K H y e ∧ d.canLay0 = true ∧ e.canLay0 = true ∧ min d.depth e.depth ≤ 190 ∧ Q (.bl (!PyData.eqv d e)) H
theorem op_eqQ {X : Cx} (hu : X.A.units + 200 < cLine) : OpR X (compareOp .Eq) (rEqQ X.K) := by
  intro pins s σ H x y v u Q I rx ry h
  obtain ⟨d, e, hd, he, sd, se, hm, q⟩ := h
  obtain ⟨as, r1⟩ := Dp.reads I d x v hd rx
  obtain ⟨bs, r2⟩ := Dp.reads I e y u he ry
  exact SeqAt.compareEq_reads r1 r2 sd se (by omega) ⟨.bl _, H, I, rfl, q⟩
theorem op_neQ {X : Cx} (hu : X.A.units + 200 < cLine) : OpR X (compareOp .NotEq) (rNeQ X.K) := by
  intro pins s σ H x y v u Q I rx ry h
  obtain ⟨d, e, hd, he, sd, se, hm, q⟩ := h
  obtain ⟨as, r1⟩ := Dp.reads I d x v hd rx
  obtain ⟨bs, r2⟩ := Dp.reads I e y u he ry
  exact SeqAt.compareNe_reads r1 r2 sd se (by omega) ⟨.bl _, H, I, rfl, q⟩
theorem units_of {k : Nat} {A : Around} (hr : Room k A) : A.units + 200 < cLine := by have := hr.un; omega
theorem dp_up {K : PySem.W.Frag} {F H : Hp} (h : Same F H) : ∀ {v : V} {d : PyData}, Dp K F v d → Dp K H v d := by
  intro v d r
  exact Dp.rec (motive_1 := fun v d _ => Dp K H v d) (motive_2 := fun vs ds _ => DpAll K H vs ds) .non .bl .int .str (fun s _ ih => .lst (h.seq s) ih) (fun s _ ih => .tup (same_t h s) ih) .nil (fun _ _ a b => .cons a b) r
def fEqQ : D → D → Option D := fun a b => if eqOk a b = true then some (.bl (eqv a b)) else none
def fNeQ : D → D → Option D := fun a b => if eqOk a b = true then some (.bl (!eqv a b)) else none
theorem rv_eqQ : RvD e (rEqQ e.K) fEqQ := fun L H dx dy x y d dm rx ry h Q q => by
  unfold fEqQ at h
  split at h
  · rename_i hc
    cases h
    unfold eqOk at hc
    simp only [Bool.and_eq_true, decide_eq_true_eq] at hc
    have h1 := dep_py dx
    have h2 := dep_py dy
    exact ⟨py dx, py dy, dp_up fz_le (dp_of dx x hc.1.1 rx), dp_up fz_le (dp_of dy y hc.1.2 ry), lay_of _ hc.1.1, lay_of _ hc.1.2, by omega, q _ H (Same.refl H) rfl⟩
  · cases h
theorem rv_neQ : RvD e (rNeQ e.K) fNeQ := fun L H dx dy x y d dm rx ry h Q q => by
  unfold fNeQ at h
  split at h
  · rename_i hc
    cases h
    unfold eqOk at hc
    simp only [Bool.and_eq_true, decide_eq_true_eq] at hc
    have h1 := dep_py dx
    have h2 := dep_py dy
    exact ⟨py dx, py dy, dp_up fz_le (dp_of dx x hc.1.1 rx), dp_up fz_le (dp_of dy y hc.1.2 ry), lay_of _ hc.1.1, lay_of _ hc.1.2, by omega, q _ H (Same.refl H) rfl⟩
  · cases h
/-! ### isinstance of built-in types -/
def tyName : D → Option String
  | .non => some "NoneType" | .bl _ => some "bool" | .int _ => some "int" | .str _ => some "str" | .lst _ => some "list" | .tup _ => some "tuple"
  | _ => none
def fIsi : List D → Option D := fun ds => match ds with | [d, .ty n] => bnd (tyName d) fun m => (kitB m n).map .bl | _ => none
theorem ty_of {L : List Addr} {H : Hp} {d : D} {v : V} {m : String} (h : tyName d = some m) (r : Rep e (fz L H) d v) : TyX e.K H v (.type m) := by
  cases d with
  | non => cases h; cases r; exact .base .non
  | bl b => cases h; cases r; exact .base (.bl b)
  | int b => cases h; cases r; exact .base (.int b)
  | str b => cases h; cases r; exact .base (.str b)
  | ins _ _ => cases h
  | ty _ => cases h
  | cls _ => cases h
  | tup xs =>
    cases h
    obtain ⟨a, vs, rfl, t, _⟩ := r
    rcases t with (t | ⟨o, t⟩) | ⟨o, its, n, k, c, _⟩
    · exact .base (.tup (fz_le _ _ t))
    · exact .fTuple (fz_le _ _ t)
    · exact .kTuple k c
  | lst xs =>
    cases h
    obtain ⟨a, vs, rfl, t, _⟩ := r
    rcases t with (t | ⟨o, t⟩) | ⟨o, its, n, k, c, _⟩
    · exact .base (.lst (fz_le _ _ t))
    · exact .base (.frz (fz_le _ _ t))
    · exact .kList k c
theorem rc_isi : RcD e (rIsi e.K) fIsi := fun L H ds vs d dm r q Q k => by
  unfold fIsi at q
  split at q
  · rename_i d' n
    obtain ⟨m, hm, q⟩ := bnd_some q
    cases hb : kitB m n with
    | none => rw [hb] at q; cases q
    | some b =>
      rw [hb] at q
      cases q
      obtain ⟨v, _, rfl, r1, v2, _, rfl, r2, r3⟩ := r
      cases r2; cases r3
      exact ⟨v, .ty n, .type m, .type n, b, rfl, .ty n, ty_of hm r1, kit_ty hb, k _ H (Same.refl H) rfl⟩
  · cases q
theorem ev_ty {n : String} : Evp e (tC (.ty n)) (xC (.ty n)) := ev_c fun _ => rfl
/-! ### + of lists, tuples, texts -/
def rCatQ (K : PySem.W.Frag) : R2 := fun x y H Q => ∃ l b xs zs, x = .ref l ∧ y = .ref b ∧ SqL K H l xs ∧ SqL K H b zs ∧ xs.length + zs.length ≤ sizeLine ∧ ∀ p, H p = none → Q (.ref p) (upd H p (.lst (xs ++ zs)))
theorem op_catQ {X : Cx} : OpR X (binaryOp .Add) (rCatQ X.K) := by
  intro pins s σ H x y v u Q I rx ry h
  obtain ⟨l, b, xs, zs, rfl, rfl, hH, hB, hz, q⟩ := h
  cases rx
  cases ry
  obtain ⟨its, r, p1, hz1⟩ := I.list hH
  obtain ⟨its2, r2, p2, hz2⟩ := I.list hB
  obtain ⟨⟨cls, dd, data, sl⟩, n, e1, c1, d1, f1⟩ := p1
  obtain ⟨⟨cls2, dd2, data2, sl2⟩, n2, e2, c2, d2, f2⟩ := p2
  simp only at c1 f1 c2 f2
  subst c1 f1 c2 f2
  have hl := r.length
  have hl2 := r2.length
  have ea : its.toArray ++ its2.toArray = (its ++ its2).toArray := by simp
  refine concat_meets ⟨_, e1, rfl⟩ ⟨_, e2, rfl⟩ noFill_list_add seq_list_add PySem.F.slot_list_add PySem.F.entry_list_add (PySem.F.args_list_add_2 _ _) (list_addW l b its.toArray its2.toArray n n2 dd dd2 sl sl2 (by simp; omega)) ⟨e1, e2, ?_⟩
  rw [ea]
  exact ⟨.ref _, _, I.lnew (t' := s.toks) (r.append r2) (by rw [List.length_append]; omega), rfl, q _ I.fresh⟩

def xCat (sq sq2 : State → Option (List D)) : State → Option (List D) := fun α => bnd (sq α) fun xs => bnd (sq2 α) fun ys => lenOk (xs ++ ys)
theorem el_cat (ha : EvqL e ta sq) (hb : EvqL e tb sq2) : Evl e (tOp (rCatQ e.K) ta tb) (xCat sq sq2) := fun c L S σ H α d R q Q k => by
  obtain ⟨xs, h1, q⟩ := bnd_some q
  obtain ⟨ys, h2, q⟩ := bnd_some q
  obtain ⟨rfl, hz⟩ := lenOk_some q
  refine ha c L S σ H α xs R h1 _ fun a vs H1 e1 r1 r2 => ?_
  refine hb c L S σ H1 α ys (R.up e1) h2 _ fun b us H2 e2 r3 r4 => ?_
  rw [List.length_append] at hz
  refine ⟨a, b, vs, us, rfl, rfl, e2.seq r1, r3, by rw [r2.len, r4.len]; exact sz_of hz, fun p hp => ?_⟩
  have s3 : Same H2 (upd H2 p (.lst (vs ++ us))) := same_upd hp
  exact k p _ _ (e1.trans (e2.trans s3)) (none_back (e1.trans e2) hp) upd_same (((r2.up (fz_same e2)).append r4).up (fz_cons s3 hp))
def xCatT (sq sq2 : State → Option (List D)) : State → Option D := fun α => bnd (sq α) fun xs => bnd (sq2 α) fun ys => if (xs ++ ys).length ≤ 100000 then some (.tup (xs ++ ys)) else none
theorem ev_catT (ha : EvqT e ta sq) (hb : EvqT e tb sq2) : Evp e (tOp (rCatA e.K) ta tb) (xCatT sq sq2) := fun c L S σ H α d R q Q k => by
  obtain ⟨xs, h1, q⟩ := bnd_some q
  obtain ⟨ys, h2, q⟩ := bnd_some q
  split at q
  · rename_i hz
    cases q
    refine ha c L S σ H α xs R h1 _ fun a vs H1 e1 r1 r2 => ?_
    refine hb c L S σ H1 α ys (R.up e1) h2 _ fun b us H2 e2 r3 r4 => ?_
    rw [List.length_append] at hz
    have r12 := r1
    have q1 : SqT e.K (fz L H2) a vs := same_t (fz_same e2) r1
    have rr := (r2.up (fz_same e2)).append r4
    refine ⟨a, b, vs, us, rfl, rfl, same_t fz_le q1, same_t fz_le r3, by rw [r2.len, r4.len]; exact sz_of hz, fun z => ?_, fun _ z => ?_, fun _ _ p hp => ?_⟩
    · refine k _ H2 (e1.trans e2) ⟨b, vs ++ us, rfl, ?_, rr⟩
      rw [z]; exact r3
    · refine k _ H2 (e1.trans e2) ⟨a, vs ++ us, rfl, ?_, rr⟩
      rw [z, List.append_nil]; exact q1
    · have s3 : Same H2 (upd H2 p (.tup (vs ++ us))) := same_upd hp
      exact k _ _ (e1.trans (e2.trans s3)) ⟨p, vs ++ us, rfl, .inl (.inl (fz_new (fresh_nL (dom_up (e1.trans e2) R.dom) hp) upd_same)), rr.up (fz_same s3)⟩
  · cases q
def xSlA (sq : State → Option (List D)) (sl sh : State → Option (Option Int)) : State → Option D := fun α => bnd (sq α) fun xs => bnd (sl α) fun lo => bnd (sh α) fun hi => some (.tup (cutD xs lo hi))
theorem cut_whole {β : Type} {xs : List β} {lo hi : Option Int} (h : HT.sIx xs.length 0 lo = 0 ∧ HT.sIx xs.length xs.length hi = xs.length) : (xs.drop (HT.sIx xs.length 0 lo)).take (HT.sIx xs.length xs.length hi - HT.sIx xs.length 0 lo) = xs := by
  rw [h.1, h.2]; simp
variable {tl th : TO} {sl sh : State → Option (Option Int)}
theorem ev_slA (h : EvqT e te sq) (hl : Evo e tl sl) (hh : Evo e th sh) : Evp e (tSl (rSlA e.K) te tl th) (xSlA sq sl sh) := fun c L S σ H α d R q Q k => by
  obtain ⟨xs, h1, q⟩ := bnd_some q
  obtain ⟨lo, h2, q⟩ := bnd_some q
  obtain ⟨hi, h3, q⟩ := bnd_some q
  cases q
  refine h c L S σ H α xs R h1 _ fun a vs H1 e1 r1 r2 => ?_
  refine hl c L S σ H1 α lo (R.up e1) h2 _ fun H2 e2 => ?_
  refine hh c L S σ H2 α hi (R.up (e1.trans e2)) h3 _ fun H3 e3 => ?_
  have q1 : SqT e.K (fz L H3) a vs := same_t (fz_same (e2.trans e3)) r1
  have rr := r2.up (fz_same (e2.trans e3))
  refine ⟨a, vs, rfl, same_t fz_le q1, fun hw => ?_, fun hw p hp => ?_⟩
  · refine k _ H3 (e1.trans (e2.trans e3)) ⟨a, cutV vs lo hi, rfl, ?_, cut_rep rr⟩
    unfold cutV
    rw [cut_whole hw]
    exact q1
  · have s4 : Same H3 (upd H3 p (.tup (cutV vs lo hi))) := same_upd hp
    exact k _ _ ((e1.trans (e2.trans e3)).trans s4) ⟨p, _, rfl, .inl (.inl (fz_new (fresh_nL (dom_up (e1.trans (e2.trans e3)) R.dom) hp) upd_same)), cut_rep (rr.up (fz_same s4))⟩
/-! ### texts -/
def fCatS : D → D → Option D := fun a b => match a, b with | .str i, .str j => if i.length + j.length ≤ 100000 then some (.str (i ++ j)) else none | _, _ => none
theorem rv_catS : RvD e (fun x y H Q => ∃ i j, x = .str i ∧ y = .str j ∧ i.length + j.length ≤ sizeLine ∧ Q (.str (i ++ j)) H) fCatS := fun L H dx dy x y d dm rx ry h Q q => by
  unfold fCatS at h
  split at h
  · split at h
    · cases h; cases rx; cases ry
      exact ⟨_, _, rfl, rfl, sz_of (by assumption), q _ H (Same.refl H) rfl⟩
    · cases h
  · cases h
def fIxS : D → D → Option D := fun a b => match a, b with | .str z, .int i => if z.length ≤ 100000 then (atI z.cps.toList i).map fun c => .str ⟨#[c]⟩ else none | _, _ => none
theorem rv_ixS : RvD e rIxS fIxS := fun L H dx dy x y d dm rx ry h Q q => by
  unfold fIxS at h
  split at h
  · rename_i z i
    split at h
    · cases hx : atI z.cps.toList i with
      | none => rw [hx] at h; cases h
      | some c =>
        rw [hx] at h
        cases h; cases rx; cases ry
        exact ⟨z, i, c, rfl, rfl, sz_of (by assumption), hx, q _ H (Same.refl H) rfl⟩
    · cases h
  · cases h
/-! ### chains of two comparisons; least and greatest of two -/
def xChain (f g : D → D → Option D) (sa sb sc : State → Option D) : State → Option D := fun α => bnd (sa α) fun a => bnd (sb α) fun b => match f a b with
  | some (.bl true) => (bnd (sc α) fun c => match g b c with | some (.bl k) => some (.bl k) | _ => none) | some (.bl false) => some (.bl false) | _ => none
theorem ev_chain {tc : TE} {sa sb sc : State → Option D} {r r' : R2} {f g : D → D → Option D} (hr : RvD e r f) (hr' : RvD e r' g) (ha : Evp e ta sa) (hb : Evp e tb sb) (hc : Evp e tc sc) : Evp e (tChain r r' ta tb tc) (xChain f g sa sb sc) := fun c L S σ H α d R q Q k => by
  obtain ⟨a, h1, q⟩ := bnd_some q
  obtain ⟨b, h2, q⟩ := bnd_some q
  refine ha c L S σ H α a R h1 _ fun v H1 e1 r1 => ?_
  refine hb c L S σ H1 α b (R.up e1) h2 _ fun u H2 e2 r2 => ?_
  have e12 := e1.trans e2
  split at q
  · rename_i hf
    refine hr L H2 a b v u _ (dom_up e12 R.dom) (r1.up (fz_same e2)) r2 hf _ fun z H3 e3 r3 => ?_
    cases r3
    refine ⟨true, rfl, ?_⟩
    obtain ⟨c', h3, q⟩ := bnd_some q
    split at q
    · rename_i kk hg
      cases q
      show tc σ H3 _
      refine hc c L S σ H3 α c' (R.up (e12.trans e3)) h3 _ fun w H4 e4 r4 => ?_
      exact hr' L H4 b c' u w _ (dom_up (e12.trans (e3.trans e4)) R.dom) (r2.up (fz_same (e3.trans e4))) r4 hg _ fun z5 H5 e5 r5 => by
        exact k z5 H5 ((e12.trans (e3.trans e4)).trans e5) r5
    · cases q
  · rename_i hf
    cases q
    refine hr L H2 a b v u _ (dom_up e12 R.dom) (r1.up (fz_same e2)) r2 hf _ fun z H3 e3 r3 => ?_
    cases r3
    refine ⟨false, rfl, ?_⟩
    exact k _ H3 (e12.trans e3) rfl
  · cases q
def fMax2 : List D → Option D := fun ds => match ds with | [.int i, .int j] => some (.int (if j > i then j else i)) | _ => none
theorem rc_max2 : RcD e (fun xs H Q => ∃ i j, xs = [.int i, .int j] ∧ Q (.int (if j > i then j else i)) H) fMax2 := fun L H ds vs d dm r q Q k => by
  unfold fMax2 at q
  split at q
  · cases q
    obtain ⟨v, _, rfl, r1, v2, _, rfl, r2, r3⟩ := r
    cases r1; cases r2; cases r3
    exact ⟨_, _, rfl, k _ H (Same.refl H) rfl⟩
  · cases q
def fMin2 : List D → Option D := fun ds => match ds with | [.int i, .int j] => some (.int (if j < i then j else i)) | _ => none
theorem rc_min2 : RcD e (fun xs H Q => ∃ i j, xs = [.int i, .int j] ∧ Q (.int (if j < i then j else i)) H) fMin2 := fun L H ds vs d dm r q Q k => by
  unfold fMin2 at q
  split at q
  · cases q
    obtain ⟨v, _, rfl, r1, v2, _, rfl, r2, r3⟩ := r
    cases r1; cases r2; cases r3
    exact ⟨_, _, rfl, k _ H (Same.refl H) rfl⟩
  · cases q
/-! ### tuple(reversed(list)); enumerate(list) -/
def xTupRev (sq : State → Option (List D)) : State → Option D := fun α => match sq α with | some xs => some (.tup xs.reverse) | none => none
theorem ev_tupRev (h : EvqL e te sq) : Evp e (RT.tTupRev e.K te) (xTupRev sq) := fun c L S σ H α d R q Q k => by
  unfold xTupRev at q
  cases hs : sq α with
  | none => rw [hs] at q; cases q
  | some xs =>
    rw [hs] at q; cases q
    refine h c L S σ H α xs R hs _ fun a vs H' e1 r1 r2 => ⟨a, vs, rfl, r1, fun l hl => ?_⟩
    have s4 : Same H' (upd H' l (.tup vs.reverse)) := same_upd hl
    exact k _ _ (e1.trans s4) ⟨l, _, rfl, .inl (.inl (fz_new (fresh_nL (dom_up e1 R.dom) hl) upd_same)), (r2.up (fz_same s4)).rev⟩
def enumL (n : Int) : List D → List D
  | [] => [] | d :: ds => .tup [.int n, d] :: enumL (n + 1) ds
theorem enumL_len : ∀ (xs : List D) (n : Int), (enumL n xs).length = xs.length
  | [], _ => rfl
  | d :: ds, n => by simp [enumL, enumL_len ds]
theorem enumL_get : ∀ (xs : List D) (n : Int) (i : Nat) (y : D), (enumL n xs)[i]? = some y → ∃ d, xs[i]? = some d ∧ y = .tup [.int (n + i), d]
  | [], _, _, _, h => by simp [enumL] at h
  | d :: ds, n, 0, y, h => by simp [enumL] at h; exact ⟨d, rfl, by rw [← h]; simp⟩
  | d :: ds, n, i + 1, y, h => by
    obtain ⟨d', h1, h2⟩ := enumL_get ds (n + 1) i y (by simpa [enumL] using h)
    exact ⟨d', by simpa using h1, by rw [h2]; congr 3; omega⟩
def xEnum (s : State → Option D) : State → Option (List D) := fun α => match s α with | some (.lst xs) => some (enumL 0 xs) | _ => none
theorem ei_enum {s : State → Option D} (h : Evp e te s) : Evi e (iEnum e.K (tCons te tNil)) (xEnum s) := fun c L S σ H α xs R q W k => by
  unfold xEnum at q
  split at q
  · rename_i ys hs
    cases q
    refine h c L S σ H α _ R hs _ fun v H' e1 ⟨a, vs, e2, r1, r2⟩ => ?_
    subst e2
    refine ⟨a, vs, rfl, fz_le.seq r1, k _ H' e1 fun L2 H2 s2 dm i => ?_⟩
    have t2 : SqL e.K H2 a vs := fz_le.seq (s2.seq r1)
    rw [enumL_len]
    refine ⟨fun hi => ⟨vs, vs[i]'(by rw [r2.len]; exact hi), t2, List.getElem?_eq_getElem _⟩, fun hi => ⟨vs, t2, by rw [r2.len]; exact hi⟩, fun x v H3 hx ⟨T, y, e3, n, e4, yy⟩ => ?_⟩
    subst e3 e4
    obtain ⟨d, h1, h2⟩ := enumL_get _ _ _ _ hx
    obtain ⟨v', h3, h4⟩ := r2.get h1
    have h5 := yy vs t2
    have h6 : v' = y := Option.some.inj (h3.symm.trans h5)
    subst h6
    have s3 : Same H2 (upd H2 T (.tup [.int (i : Nat), v'])) := same_upd n
    refine ⟨s3, ?_⟩
    subst h2
    refine ⟨T, _, rfl, .inl (.inl (fz_new (fresh_nL dm n) upd_same)), Reps.cons ?_ (Reps.cons (h4.up (s2.trans (fz_same s3))) Reps.nil)⟩
    show V.int _ = V.int _
    rw [Int.zero_add]
  · cases q
end
end Ab
end
section
set_option maxRecDepth 100000
set_option maxHeartbeats 1000000
namespace Ab
open PySem L2 PyProof.Rows PySem.Spec
/-- a def of the top, with its promise -/
structure Cal (P : Program) (w : World) (K : PySem.W.Frag) (mg : Str → Option Value) (base : Heap) (x : Str) (ps : List Str) (k : Nat) (sp : Sp) : Prop where
  ex : ∃ f fd, FnOk P w K mg base CX0 k f fd ps sp ∧ mg x = some (.ref f) ∧ PySem.W.keepIn K (.ref f) = true ∧ Binds K fd ps []
section
variable {X : Cx} {x : Str} {ps : List Str} {k j : Nat} {sp : Sp} {p pos : Pos} {e : Expr} {es : List Expr} {t : TA}
theorem pe_cal (C : Cal X.prog X.w X.K X.mg X.base x ps k sp) (hr : Room j X.A) (hkj : k ≤ j) (hg : Gl X x) (ha : PA X (e :: es) t) (hdb : (x == ("__debug__" : Str)) = false := by decide) (he : starEach (e :: es) X.env = (false, eval e X.env) :: starEach es X.env := by rfl) (hpl : (backTo pos (starEach es X.env)).any (·.1) = false := by rfl) :
    PE X (.Call (.Name x p) (e :: es) [] pos) (tCall sp [] E0 t) := by
  obtain ⟨f, fd, G, hm, hk, hb⟩ := C.ex
  exact pe_call G (hr.mono hkj) hg hm hk hb .nil pass0 ha hdb he hpl
theorem pe_cal0 (C : Cal X.prog X.w X.K X.mg X.base x ps k sp) (hr : Room j X.A) (hkj : k ≤ j) (hg : Gl X x) (hdb : (x == ("__debug__" : Str)) = false := by decide) : PE X (.Call (.Name x p) [] [] pos) (tCall sp [] E0 tNil) := by
  obtain ⟨f, fd, G, hm, hk, hb⟩ := C.ex
  exact pe_call0 G (hr.mono hkj) hg hm hk hb .nil pass0 hdb
end
section
variable {P : Program} {w : World} {K : PySem.W.Frag} {mg : Str → Option Value} {base : Heap} {x : Str} {ps : List Str} {k j : Nat} {sp : Sp}
theorem Cal.mono (C : Cal P w K mg base x ps k sp) (h : k ≤ j) : Cal P w K mg base x ps j sp := by
  obtain ⟨f, fd, G, r⟩ := C.ex
  exact ⟨f, fd, G.mono h, r⟩
theorem Cal.vacuous {f : Addr} {fd : FuncData} (hm : mg x = some (.ref f)) (hk : PySem.W.keepIn K (.ref f) = true) (hb : Binds K fd ps []) (no : ∀ vs H Q E, ¬ sp vs H Q E) : Cal P w K mg base x ps k sp :=
  ⟨f, fd, ⟨fun vs H Q E h => absurd h (no vs H Q E), fun A outer s H args us vs Q E _ _ _ _ h => absurd h (no vs H Q E)⟩, hm, hk, hb⟩
end
theorem no_P {e : En} {m : List D → Option D} (h : ∀ ds, m ds = none) : ∀ vs H Q E, ¬ spP e m vs H Q E := fun vs H Q E ⟨L, ds, d, _, _, hm, _⟩ => by rw [h] at hm; cases hm
theorem no_L {e : En} {m : List D → Option (List D)} (h : ∀ ds, m ds = none) : ∀ vs H Q E, ¬ spL e m vs H Q E := fun vs H Q E ⟨L, ds, d, _, _, hm, _⟩ => by rw [h] at hm; cases hm
/-- a law's end -/
def spLaw (K : PySem.W.Frag) : Sp := fun vs H Q _ => ∃ (a : Addr) (ns : List Int), vs = [.ref a] ∧ SqL K H a (ns.map V.int) ∧ ns.length ≤ 63 ∧ ∀ H', Q (.bl true) H'
theorem reps_ints {e : En} {F : Hp} : ∀ ns : List Int, Reps e F (ns.map D.int) (ns.map V.int)
  | [] => Reps.nil
  | a :: r => Reps.cons rfl (reps_ints r)
theorem law_of {P : Program} {w : World} {K : PySem.W.Frag} {mg : Str → Option Value} {base : Heap} {cls : String → Addr} {k : Nat} {f : Addr} {fd : FuncData} {ps : List Str} {m : List D → Option D} (F : FnOk P w K mg base CX0 k f fd ps (spP ⟨K, cls⟩ m))
    (h : ∀ ns : List Int, ns.length ≤ 63 → m [.lst (ns.map .int)] = some (.bl true)) : FnOk P w K mg base CX0 k f fd ps (spLaw K) :=
  F.imp fun vs H Q E ⟨a, ns, hv, hS, hl, q⟩ => by
    subst hv
    refine ⟨[], [.lst (ns.map .int)], .bl true, (fun _ z => nomatch z), Reps.cons ⟨a, ns.map V.int, rfl, ?_, reps_ints ns⟩ Reps.nil, h ns hl, fun v H' _ r => by cases r; exact q H'⟩
    have : fz [] H = H := by funext a; rfl
    rw [this]; exact hS
theorem runP_dat {n k : Nat} {s : State → Out} {ds : List D} {d : D} {β : State} (hk : ds.length = k) (h : s (inP n k ds) = .ret (.dat d) β) : runP n k s ds = some d := by
  unfold runP; rw [if_pos hk, h]
theorem runP_lst {n k : Nat} {s : State → Out} {ds : List D} {d : List D} {β : State} (hk : ds.length = k) (h : s (inP n k ds) = .ret (.lst d) β) : runP n k s ds = some (.lst d) := by
  unfold runP; rw [if_pos hk, h]
theorem runL_lst {n k : Nat} {s : State → Out} {ds : List D} {d : List D} {β : State} (hk : ds.length = k) (h : s (inP n k ds) = .ret (.lst d) β) : runL n k s ds = some d := by
  unfold runL; rw [if_pos hk, h]
end Ab
end
section
set_option maxRecDepth 100000
set_option maxHeartbeats 1000000
namespace Ab
open PySem L2 PyProof.Rows PySem.Spec
section
variable {e : En} {E : XK} {te ta tb : TE} {ts tu tw : TS} {t : TT}
def backA : List A → State → Option (List A)
  | [], _ => some []
  | .dat d :: r, _ :: β => (backA r β).map (.dat d :: ·)
  | .inn _ :: r, some (.inn ct) :: β => (backA r β).map (.inn ct :: ·)
  | _, _ => none
def inM (n k : Nat) (as : List A) : State := as.map some ++ List.replicate (n - k) none
def runM (n k : Nat) (s : State → Out) : List A → MRes := fun as => if as.length = k then (match s (inM n k as) with
  | .ret r β => (match backA as β with | some as' => .ok r as' | none => .bad)
  | .nxt β => (match backA as β with | some as' => .ok (.dat .non) as' | none => .bad)
  | .exc x => .exc x
  | _ => .bad) else .bad
theorem AsRep.len {L S : List Addr} {H : Hp} : ∀ {as : List A} {vs : List V}, AsRep e L S H as vs → vs.length = as.length
  | [], _, r => by cases r; rfl
  | a :: as, _, ⟨v, w, q, _, r⟩ => by subst q; simp [AsRep.len r]
theorem AsRep.get {L S : List Addr} {H : Hp} : ∀ {as : List A} {vs : List V} {i : Nat} {a : A}, AsRep e L S H as vs → as[i]? = some a → ∃ v, vs[i]? = some v ∧ (match a with
    | .dat d => Rep e (fz L H) d v
    | .inn ct => ∃ p o, v = .ref p ∧ p ∈ S ∧ H p = some o ∧ RepC e (fz L H) ct o
    | .own _ => False)
  | [], _, _, _, _, h => by simp at h
  | a :: as, _, 0, _, ⟨v, w, q, r1, _⟩, h => by subst q; simp at h; subst h; exact ⟨v, rfl, r1⟩
  | a :: as, _, i + 1, _, ⟨v, w, q, _, r⟩, h => by subst q; obtain ⟨v', h1, h2⟩ := AsRep.get (i := i) r (by simpa using h); exact ⟨v', by simpa using h1, h2⟩
theorem innCount_sep : ∀ {as : List A} {i j : Nat} {c d : Ct}, innCount as ≤ 1 → as[i]? = some (.inn c) → as[j]? = some (.inn d) → i = j := by
  have pos : ∀ {as : List A} {i : Nat} {c : Ct}, as[i]? = some (.inn c) → 1 ≤ innCount as := by
    intro as
    induction as with
    | nil => intro i c h; simp at h
    | cons a r ih =>
      intro i c h
      cases i with
      | zero => simp at h; subst h; simp [innCount]
      | succ i =>
        have := ih (i := i) (c := c) (by simpa using h)
        cases a <;> simp [innCount] <;> omega
  intro as
  induction as with
  | nil => intro i j c d _ h; simp at h
  | cons a r ih =>
    intro i j c d hc hi hj
    cases i with
    | zero =>
      cases j with
      | zero => rfl
      | succ j =>
        simp at hi; subst hi
        have := pos (i := j) (c := d) (as := r) (by simpa using hj)
        simp [innCount] at hc; omega
    | succ i =>
      cases j with
      | zero =>
        simp at hj; subst hj
        have := pos (i := i) (c := c) (as := r) (by simpa using hi)
        simp [innCount] at hc; omega
      | succ j =>
        have h2 : innCount r ≤ 1 := by cases a <;> simp [innCount] at hc <;> omega
        have := ih (i := i) (j := j) (c := c) (d := d) h2 (by simpa using hi) (by simpa using hj)
        omega
theorem inM_get {n k : Nat} {as : List A} {i : Nat} {a : A} (h : (inM n k as)[i]? = some (some a)) : as[i]? = some a := by
  unfold inM at h
  by_cases hi : i < as.length
  · rw [List.getElem?_append_left (by simpa using hi), List.getElem?_map, List.getElem?_eq_getElem hi] at h
    rw [List.getElem?_eq_getElem hi]
    have this : as[i]'hi = a := by simpa using h
    exact congrArg some this
  · rw [List.getElem?_append_right (by simp; omega), List.getElem?_replicate] at h
    split at h <;> cases h
theorem inM_rel {L S : List Addr} {H : Hp} {as : List A} {vs : List V} {N : List Str} (dm : Dom L H) (sub : ∀ p ∈ S, p ∈ L) (hc : innCount as ≤ 1) (r : AsRep e L S H as vs) (hk : vs.length ≤ N.length) :
    Rel e ⟨L, S, H, L2.start N vs⟩ L S (L2.start N vs) H (inM N.length vs.length as) where
  slot := fun i a q => by
    have ha := inM_get q
    obtain ⟨v, h1, h2⟩ := r.get ha
    have h3 : (L2.start N vs)[i]? = some (some v) := by
      unfold L2.start
      have : i < vs.length := (List.getElem?_eq_some_iff.mp h1).1
      rw [List.getElem?_append_left (by simp; exact this), List.getElem?_map, h1]; rfl
    refine ⟨v, h3, ?_⟩
    cases a with
    | dat d => exact h2
    | inn ct => obtain ⟨p, o, q1, m, ho, rc⟩ := h2; exact ⟨p, o, q1, m, h3, ho, rc⟩
    | own ct => exact h2.elim
  sep := fun i j p hi hj _ _ => by
    have un : ∀ i : Nat, isOwn (inM N.length vs.length as)[i]? = true → ∃ c : Ct, as[i]? = some (A.inn c) := fun i hi => by
      cases hx : (inM N.length vs.length as)[i]? with
      | none => rw [hx] at hi; simp [isOwn] at hi
      | some x =>
        cases x with
        | none => rw [hx] at hi; simp [isOwn] at hi
        | some a =>
          have ha := inM_get hx
          obtain ⟨v, h1, h2⟩ := r.get ha
          cases a with
          | dat d => rw [hx] at hi; simp [isOwn] at hi
          | inn c => exact ⟨c, ha⟩
          | own c => exact h2.elim
    obtain ⟨c, h1⟩ := un i hi
    obtain ⟨d, h2⟩ := un j hj
    exact innCount_sep hc h1 h2
  dom := dm
  sub := sub
  l0 := fun _ h => h
  l1 := fun _ h => .inl h
  s1 := fun _ h => .inl h
  md := Mod.refl
  s0 := sub
  d0 := dm
  len := by unfold L2.start inM; simp [r.len]
theorem start_get {N : List Str} {vs : List V} {i : Nat} {v : V} (h : vs[i]? = some v) : (L2.start N vs)[i]? = some (some v) := by
  unfold L2.start
  have : i < vs.length := (List.getElem?_eq_some_iff.mp h).1
  rw [List.getElem?_append_left (by simp; exact this), List.getElem?_map, h]; rfl
/-- what stands at the arguments behind the body -/
theorem back_rep {c : Cn} {L S L' S' : List Addr} {σ' : L2.St} {H H' : Hp} {β0 : State} (R : Rel e c L' S' σ' H' β0) (hL : ∀ p ∈ L, p ∈ L') (md : Mod S H H') (sub : ∀ p ∈ S, p ∈ L) :
    ∀ (as : List A) (β : State) (as' : List A) (vs : List V) (j : Nat), (∀ i, β[i]? = β0[j + i]?) → (∀ i v, vs[i]? = some v → c.σ0[j + i]? = some (some v)) → backA as β = some as' → AsRep e L S H as vs → AsRep e L S H' as' vs
  | [], _, as', vs, _, _, _, h, r => by cases h; exact r
  | .own _ :: _, _, _, _, _, _, _, h, _ => by simp [backA] at h
  | .dat d :: r, [], _, _, _, _, _, h, _ => by simp [backA] at h
  | .inn d :: r, [], _, _, _, _, _, h, _ => by simp [backA] at h
  | .dat d :: r, x :: β, as', vs, j, hb, hv, h, ⟨v, w, q, r1, r2⟩ => by
    unfold backA at h
    cases hr : backA r β with
    | none => rw [hr] at h; cases h
    | some as2 =>
      rw [hr] at h; cases h
      subst q
      refine ⟨v, w, rfl, Rep.up (d := d) r1 (fz_mod md sub), back_rep R hL md sub r β as2 w (j + 1) (fun i => ?_) (fun i u hu => ?_) hr r2⟩
      · have := hb (i + 1); simpa [Nat.add_assoc, Nat.add_comm 1 i] using this
      · have := hv (i + 1) u (by simpa using hu); simpa [Nat.add_assoc, Nat.add_comm 1 i] using this
  | .inn c0 :: r, x :: β, as', vs, j, hb, hv, h, ⟨v, w, q, r1, r2⟩ => by
    cases x with
    | none => simp [backA] at h
    | some a =>
      cases a with
      | dat d => simp [backA] at h
      | own ct => simp [backA] at h
      | inn ct =>
        unfold backA at h
        cases hr : backA r β with
        | none => rw [hr] at h; cases h
        | some as2 =>
          rw [hr] at h; cases h
          subst q
          obtain ⟨p, o, rfl, m, ho, rc⟩ := r1
          have h0 : β0[j]? = some (some (.inn ct)) := by have := hb 0; simpa using this.symm
          obtain ⟨v', k1, p', o', k2, m', k3, ho', rc'⟩ := R.slot j _ h0
          have k4 := hv 0 (.ref p) rfl
          rw [Nat.add_zero] at k4
          rw [k4] at k3
          cases k3
          cases k2
          refine ⟨_, w, rfl, ⟨p, o', rfl, m, ho', rc'.up (fz_anti hL)⟩, back_rep R hL md sub r β as2 w (j + 1) (fun i => ?_) (fun i u hu => ?_) hr r2⟩
          · have := hb (i + 1); simpa [Nat.add_assoc, Nat.add_comm 1 i] using this
          · have := hv (i + 1) u (by simpa using hu); simpa [Nat.add_assoc, Nat.add_comm 1 i] using this
theorem retrep_anti {L L' : List Addr} {H' H : Hp} {v : V} {c : Cn} {r : RetV} {S : List Addr} (hL : ∀ p ∈ L, p ∈ L') (h0 : c.H0 = H) (rr : RetRep e L' H' v c r) : RetRep e L H' v ⟨L, S, H, []⟩ r := by
  cases r with
  | dat d => exact Rep.up (d := d) rr (fz_anti hL)
  | lst xs =>
    obtain ⟨p, vs, q, n, hp, rs⟩ := rr
    refine ⟨p, vs, q, by rw [← h0]; exact n, hp, rs.up (fz_anti fun a m => ?_)⟩
    rcases List.mem_cons.mp m with rfl | m
    · exact List.mem_cons_self
    · exact List.mem_cons_of_mem _ (hL a m)
variable {P : Program} {w : World} {K : PySem.W.Frag} {mg : Str → Option Value} {base : Heap}
/-- the body meets the promise -/
theorem body_M {cls : String → Addr} {N : List Str} {n kk : Nat} {vs : List V} {H : Hp} {Q : VK} {E : XK} {t : TS} {s : State → Out} {m : List A → MRes} (hn : N.length = n) (hps : kk ≤ n) (hmm : m = runM n kk s) (h2 : Sts ⟨K, cls⟩ E t s) (h : spM ⟨K, cls⟩ m vs H Q E) :
    t { nx := fun _ H' => Q .non H', rt := Q } (L2.start N vs) H := by
  subst hn hmm
  obtain ⟨L, S, as, dm, sub, hc, r, hq, hx, hb⟩ := h
  have hl : as.length = kk := by
    unfold runM at hb
    split at hb
    · assumption
    · exact absurd rfl hb
  have hvl : vs.length = kk := by rw [r.len, hl]
  have R := inM_rel (N := N) dm sub hc r (by omega)
  rw [hvl] at R
  refine h2 _ _ _ _ _ _ _ R ?_
  unfold runM at hq hx hb
  simp only [if_pos hl] at hq hx hb
  cases hs : s (inM N.length kk as) with
  | nxt β =>
    rw [hs] at hq hb
    dsimp only at hq hb
    cases hba : backA as β with
    | none => rw [hba] at hb; exact absurd rfl hb
    | some as' =>
      rw [hba] at hq
      intro L' S' σ' H' _ R'
      have ar := back_rep R' R'.l0 R'.md sub as β as' vs 0 (fun i => by rw [Nat.zero_add]) (fun i v hv => by rw [Nat.zero_add]; exact start_get hv) hba r
      exact hq _ as' rfl _ H' R'.md ar rfl
  | ret rv β =>
    rw [hs] at hq hb
    dsimp only at hq hb
    cases hba : backA as β with
    | none => rw [hba] at hb; exact absurd rfl hb
    | some as' =>
      rw [hba] at hq
      intro v L' S' σ' H' R' rr
      have ar := back_rep R' R'.l0 R'.md sub as β as' vs 0 (fun i => by rw [Nat.zero_add]) (fun i v hv => by rw [Nat.zero_add]; exact start_get hv) hba r
      exact hq _ as' rfl v H' R'.md ar (retrep_anti R'.l0 rfl rr)
  | exc x =>
    rw [hs] at hx
    intro cls' dd H' md xr
    exact hx x rfl cls' dd H' md xr
  | brk β => rw [hs] at hb; exact absurd rfl hb
  | cnt β => rw [hs] at hb; exact absurd rfl hb
  | bad => rw [hs] at hb; exact absurd rfl hb
theorem spM_len {cls : String → Addr} {n kk : Nat} {vs : List V} {H : Hp} {Q : VK} {E : XK} {s : State → Out} {m : List A → MRes} (hmm : m = runM n kk s) (h : spM ⟨K, cls⟩ m vs H Q E) : vs.length = kk := by
  subst hmm
  obtain ⟨L, S, as, dm, sub, hc, r, hq, hx, hb⟩ := h
  rw [r.len]
  unfold runM at hb
  split at hb
  · assumption
  · exact absurd rfl hb
theorem spM_E {cls : String → Addr} {m : List A → MRes} {vs : List V} {H : Hp} {Q : VK} {E : XK} (hno : ∀ as x, m as ≠ .exc x) (h : spM ⟨K, cls⟩ m vs H Q E) : spM ⟨K, cls⟩ m vs H Q E0 := by
  obtain ⟨L, S, as, dm, sub, hc, r, hq, hx, hb⟩ := h
  exact ⟨L, S, as, dm, sub, hc, r, hq, fun x hm => absurd hm (hno as x), hb⟩
theorem fn_M {cls : String → Addr} {x qual : Str} {st : Stmt} {f : Addr} {fd : FuncData} {N ps : List Str} {k : Nat} (s : State → Out) (F : Fun K x qual st f fd) (S : FnScope N ps (defScope st)) {n kk : Nat} (hn : N.length = n) (hkk : ps.length = kk) (hps : kk ≤ n) {m : List A → MRes} (hmm : m = runM n kk s)
    (hbody : ∀ (cdv : Value) (A : Around) (outer : List Env) (s0 : Shared) (H : Hp) (E : XK), Room k (A.deeper (envOfC qual (defScope st) s0.heap.objs.size f cdv)) →
      ∃ t, PSs (cxOf CX0 P w K mg base N qual (defScope st) f cdv A outer s0 H E).nox (defBody st) t ∧ Sts ⟨K, cls⟩ E t s) : FnOk P w K mg base CX0 (k + 1) f fd ps (spM ⟨K, cls⟩ m) := by
  refine F.ok S (fun vs H Q E h => by rw [spM_len hmm h, hkk]) (fun cdv A outer s0 H vs Q E hr h => ?_)
  obtain ⟨t, h1, h2⟩ := hbody cdv A outer s0 H E hr
  exact ⟨t, h1, body_M hn hps hmm h2 h⟩

/-! ### a call that changes an own object -/
def toAs : List Arg → State → Option (List A)
  | [], _ => some []
  | .dat d :: r, α => (toAs r α).map (.dat d :: ·)
  | .slot i :: r, α => (match ctOf α[i]? with | some ct => (toAs r α).map (.inn ct :: ·) | none => none)
def putBack : List Arg → List A → State → State
  | .slot i :: r, .inn ct :: as, α => putBack r as (putC α i ct)
  | _ :: r, _ :: as, α => putBack r as α
  | _, _, α => α
def slots : List Arg → List Nat
  | [] => []
  | .slot i :: r => i :: slots r
  | .dat _ :: r => slots r
def rCallM (m : List A → MRes) (sr : State → Res (List Arg)) : State → Res D := fun α => match sr α with
  | .ok as α1 => (match slots as with
    | [i] => (match toAs as α1 with
      | some bs => (match m bs with
        | .ok (.dat d) bs' => (match bs'.find? (fun b => match b with | .inn _ => true | _ => false) with | some (.inn ct) => .ok d (putC α1 i ct) | _ => .bad)
        | .exc x => .exc x
        | _ => .bad)
      | none => .bad)
    | _ => .bad)
  | .exc x => .exc x
  | .bad => .bad
theorem toAs_rep {c : Cn} {L S : List Addr} {σ : L2.St} {H : Hp} {α : State} (R : Rel e c L S σ H α) {T : List Addr} : ∀ {as : List Arg} {vs : List V} {bs : List A}, (∀ i ∈ slots as, ∀ p, σ[i]? = some (some (V.ref p)) → p ∈ T) → toAs as α = some bs → ArgsRep e L σ H as vs → AsRep e L T H bs vs ∧ innCount bs = (slots as).length
  | [], _, _, _, h, r => by cases h; exact ⟨r, rfl⟩
  | .dat d :: as, _, _, ht, h, ⟨v, w, q, r1, r2⟩ => by
    unfold toAs at h
    cases hs : toAs as α with
    | none => rw [hs] at h; cases h
    | some bs =>
      rw [hs] at h; cases h; subst q
      obtain ⟨h1, h2⟩ := toAs_rep (as := as) R ht hs r2
      exact ⟨⟨v, w, rfl, r1, h1⟩, h2⟩
  | .slot i :: as, _, _, ht, h, ⟨v, w, q, r1, r2⟩ => by
    unfold toAs at h
    split at h
    · rename_i ct hct
      cases hs : toAs as α with
      | none => rw [hs] at h; cases h
      | some bs =>
        rw [hs] at h; cases h; subst q
        obtain ⟨h1, h2⟩ := toAs_rep (as := as) R (fun j hj => ht j (List.mem_cons_of_mem _ hj)) hs r2
        obtain ⟨p, o, k1, m, ho, rc⟩ := R.at hct
        have k2 : σ[i]? = some (some v) := r1
        rw [k1] at k2; cases k2
        exact ⟨⟨_, w, rfl, ⟨p, o, rfl, ht i List.mem_cons_self p k1, ho, rc⟩, h1⟩, by simp [innCount, slots, h2]⟩
    · cases h
theorem find_inn {L S : List Addr} {H : Hp} : ∀ {bs : List A} {vs : List V} {ct : Ct}, AsRep e L S H bs vs → bs.find? (fun b => match b with | .inn _ => true | _ => false) = some (.inn ct) → ∃ p o, p ∈ S ∧ H p = some o ∧ RepC e (fz L H) ct o
  | [], _, _, _, h => by cases h
  | .dat d :: bs, _, _, ⟨v, w, q, r1, r2⟩, h => find_inn r2 (by simpa using h)
  | .inn c :: bs, _, _, ⟨v, w, q, r1, r2⟩, h => by
    simp at h
    subst h
    obtain ⟨p, o, _, m, ho, rc⟩ := r1
    exact ⟨p, o, m, ho, rc⟩
  | .own c :: bs, _, _, ⟨v, w, q, r1, r2⟩, h => r1.elim
theorem slots_own {c : Cn} {L S : List Addr} {σ : L2.St} {H : Hp} {α : State} (R : Rel e c L S σ H α) : ∀ {as : List Arg} {bs : List A}, toAs as α = some bs → ∀ i ∈ slots as, ∃ ct, ctOf α[i]? = some ct
  | [], _, _, i, m => nomatch m
  | .dat d :: as, _, h, i, m => by
    unfold toAs at h
    cases hs : toAs as α with
    | none => rw [hs] at h; cases h
    | some bs => exact slots_own R hs i m
  | .slot j :: as, _, h, i, m => by
    unfold toAs at h
    split at h
    · rename_i ct hct
      cases hs : toAs as α with
      | none => rw [hs] at h; cases h
      | some bs =>
        rcases List.mem_cons.mp m with rfl | m
        · exact ⟨ct, hct⟩
        · exact slots_own R hs i m
    · cases h
theorem ee_callM {m : List A → MRes} {tr : TA} {sr : State → Res (List Arg)} (h : EvaE e E tr sr) : Eve e E (tCall (spM e m) [] E tr) (rCallM m sr) := fun c L S σ H α R Q k kx nb => by
  unfold rCallM at k kx nb
  refine h c L S σ H α R _ (fun as α1 hs vs H1 m1 R1 r1 => ?_) (fun x hx => kx x (by rw [hx])) (fun hb => nb (by rw [hb]))
  rw [hs] at k kx nb
  dsimp only at k kx nb
  split at nb
  · rename_i i hi
    simp only [hi] at k kx
    split at nb
    · rename_i bs hbs
      simp only [hbs] at k kx
      obtain ⟨ct, hct⟩ := slots_own R1 hbs i (by rw [hi]; exact List.mem_cons_self)
      obtain ⟨p, o, hp, mS, ho, rc⟩ := R1.at hct
      obtain ⟨ar, hcount⟩ := toAs_rep (T := [p]) R1 (fun j hj q hq => by
        rw [hi] at hj
        have : j = i := by simpa using hj
        subst this
        rw [hp] at hq; cases hq; simp) hbs r1
      rw [hi] at hcount
      show spM e m (vs ++ []) H1 Q E
      rw [List.append_nil]
      refine ⟨L, [p], bs, R1.dom, fun q hq => by have : q = p := by simpa using hq
                                                 subst this; exact R1.sub _ mS, by rw [hcount]; exact Nat.le_refl _, ar, fun r as' hm v H' md ar' rr => ?_, fun x hm cls' dd H' md xr => ?_, fun hb => nb (by rw [hb])⟩
      · rw [hm] at k nb
        cases r with
        | lst xs => exact absurd rfl nb
        | dat d =>
          dsimp only at k nb
          split at nb
          · rename_i ct' hf
            simp only [hf] at k
            obtain ⟨p', o', mp, ho', rc'⟩ := find_inn ar' hf
            have : p' = p := by simpa using mp
            subst this
            obtain ⟨R2, m2⟩ := R1.mutM hct hp md ho' rc'
            exact k d _ rfl v H' (m1.trans m2) R2 rr
          · exact absurd rfl nb
      · rw [hm] at kx
        refine kx x rfl cls' dd H' ?_ ⟨xr.1, xr.2.elim .inl fun ⟨q, gs, a1, a2, a3⟩ => .inr ⟨q, gs, a1, a2, RepF.mono (fz_anti R1.l0) _ _ a3⟩⟩
        intro a u q n
        refine md a u (R1.md a u q n) fun z => ?_
        have : a = p := by simpa using z
        subst this
        rcases R1.s1 a mS with z | z
        · exact n z
        · rw [q] at z; cases z
    · exact absurd rfl nb
  · exact absurd rfl nb

/-! ### comprehensions whose element has side effects -/
theorem Rel.unwipe {c : Cn} {L S : List Addr} {σ : L2.St} {H : Hp} {α : State} {vs : List Nat} (r : Rel e c L S (L2.wipe σ vs) H α) : Rel e c L S σ H α where
  slot := fun i a q => by
    obtain ⟨v, h1, h2⟩ := r.slot i a q
    exact ⟨v, (wipe_some h1).1, h2⟩
  sep := fun i j p hi hj si sj => by
    have un : ∀ i : Nat, isOwn α[i]? = true → ∀ p : Addr, σ[i]? = some (some (V.ref p)) → (L2.wipe σ vs)[i]? = some (some (V.ref p)) := fun i hi p hp => by
      cases ha : α[i]? with
      | none => rw [ha] at hi; simp [isOwn] at hi
      | some x =>
        cases x with
        | none => rw [ha] at hi; simp [isOwn] at hi
        | some a =>
          obtain ⟨v, h1, _⟩ := r.slot i a ha
          have := (wipe_some h1).1
          rw [hp] at this
          rw [h1, this]
    exact r.sep i j p hi hj (un i hi p si) (un j hj p sj)
  dom := r.dom
  sub := r.sub
  l0 := r.l0
  l1 := r.l1
  s1 := r.s1
  md := r.md
  s0 := r.s0
  d0 := r.d0
  len := by rw [← r.len, wipe_length]
theorem Rel.mutL {c : Cn} {L S : List Addr} {σ : L2.St} {H : Hp} {α : State} {D0 : Addr} {o o' : HO} (r : Rel e c L S σ H α) (nS : D0 ∉ S) (mL : D0 ∈ L) (h0 : H D0 = some o) (n0 : c.H0 D0 = none) : Rel e c L S σ (upd H D0 o') α := by
  have fzs : Same (fz L H) (fz L (upd H D0 o')) := fz_mut fun a u z n => by rw [upd_ne (fun z' => n (by rw [z']; exact mL))]; exact z
  refine ⟨fun i a q => ?_, r.sep, fun p m z => ?_, r.sub, r.l0, r.l1, r.s1, fun a u q n => ?_, r.s0, r.d0, r.len⟩
  · obtain ⟨v, h1, h2⟩ := r.slot i a q
    refine ⟨v, h1, ?_⟩
    cases a with
    | dat d => exact Rep.up (d := d) h2 fzs
    | own ct => obtain ⟨p', o2, q', m, n', ho', rc⟩ := h2; exact ⟨p', o2, q', m, n', by rw [upd_ne (fun z => nS (by rw [← z]; exact m))]; exact ho', rc.up fzs⟩
    | inn ct => obtain ⟨p', o2, q', m, n', ho', rc⟩ := h2; exact ⟨p', o2, q', m, n', by rw [upd_ne (fun z => nS (by rw [← z]; exact m))]; exact ho', rc.up fzs⟩
  · by_cases hp : p = D0
    · rw [hp, upd_same] at z; cases z
    · rw [upd_ne hp] at z; exact r.dom p m z
  · rw [upd_ne (ne_of_none q n0)]; exact r.md a u q n
def lcE (gt : D → State → Option State) (se : State → Res D) (vs : List Nat) : List D → State → Res (List D)
  | [], α => .ok [] α
  | x :: xs, α => match gt x α with
    | none => .bad
    | some β => match se β with
      | .ok d β' => (match lcE gt se vs xs (wipeA vs β') with | .ok ds γ => .ok (d :: ds) γ | .exc x => .exc x | .bad => .bad)
      | _ => .bad
theorem lcE_cons {gt : D → State → Option State} {se : State → Res D} {vs : List Nat} {x : D} {xs : List D} {α : State} : lcE gt se vs (x :: xs) α = match gt x α with
    | none => .bad
    | some β => match se β with
      | .ok d β' => (match lcE gt se vs xs (wipeA vs β') with | .ok ds γ => .ok (d :: ds) γ | .exc x => .exc x | .bad => .bad)
      | _ => .bad := rfl
def rLc (vs : List Nat) (sx : State → Option (List D)) (gt : D → State → Option State) (se : State → Res D) : State → Res (List D) := fun α => match sx α with
  | some xs => if xs.length ≤ 100000 then lcE gt se vs xs (wipeA vs α) else .bad
  | none => .bad
theorem ele_lc {wi : TI} {g : TG} {vs js : List Nat} {sx : State → Option (List D)} {gt : D → State → Option State} {se : State → Res D} (hi : Evi e wi sx) (hg : Etg e g gt js) (hj : ∀ j ∈ js, j ∈ vs) (he : Eve e E te se) :
    EvlE e E (tLc wi g tYes te vs) (rLc vs sx gt se) := fun c L S σ H α R Q k kx nb => by
  unfold rLc at k kx nb
  cases hx : sx α with
  | none => rw [hx] at nb; exact absurd rfl nb
  | some xs =>
    rw [hx] at k kx nb
    dsimp only at k kx nb
    split at nb
    · rename_i hz
      rw [if_pos hz] at k kx
      refine hi c L S σ H α xs R hx _ fun J H1 e1 wk => ?_
      intro D0 hD
      have hn : H D0 = none := none_back e1 hD
      have R1 := R.up e1
      have hDS : D0 ∉ S := fun m => R1.dom D0 (R1.sub D0 m) hD
      -- the outcome of what is left, from a state
      refine ⟨fun i m H' => m = xs.length - i ∧ i ≤ xs.length ∧ Mod S H1 H' ∧ ∃ acc ds αi, H' D0 = some (.lst acc) ∧ acc.length ≤ i ∧ Reps e (fz (D0 :: L) H') ds acc ∧ Rel e c (D0 :: L) S (L2.wipe σ vs) H' αi ∧ Same (fz (D0 :: L) (upd H1 D0 (.lst []))) (fz (D0 :: L) H') ∧
          lcE gt se vs (xs.drop i) αi ≠ .bad ∧ (∀ x, lcE gt se vs (xs.drop i) αi ≠ .exc x) ∧ (∀ rest γ, lcE gt se vs (xs.drop i) αi = .ok rest γ → lcE gt se vs xs (wipeA vs α) = .ok (ds ++ rest) γ),
        ⟨xs.length, by simp, Nat.zero_le _, fun a o z _ => by rw [upd_ne (ne_of_none z hD)]; exact z, [], [], wipeA vs α, upd_same, Nat.le_refl _, Reps.nil, (R1.more (same_upd hD) hD upd_same).wipe vs, Same.refl _, nb, ?_, fun rest γ h => h⟩, ?_⟩
      · -- no exception can leave a comprehension here
        have noexc : ∀ (ys : List D) (a : State) (x : Exn), lcE gt se vs ys a ≠ .exc x := by
          intro ys
          induction ys with
          | nil => intro a x h; cases h
          | cons y ys ih =>
            intro a x h
            unfold lcE at h
            split at h
            · cases h
            · split at h
              · split at h
                · cases h
                · rename_i hh; exact ih _ _ hh
                · cases h
              · cases h
        exact fun x => noexc _ _ x
      rintro i m H2 ⟨rfl, hi2, s2, acc, ds, αi, h2, hal, hr, R2, f2, hnb, hnx, hout⟩
      have w2' : Same (fz L H1) (fz (D0 :: L) H2) := (fz_cons (same_upd hD) hD).trans f2
      obtain ⟨w1, w2, w3⟩ := wk (D0 :: L) H2 w2' R2.dom i
      by_cases hlt : i < xs.length
      · rw [List.drop_eq_getElem_cons hlt] at hnb hnx hout
        simp only [lcE_cons] at hnb hnx hout
        cases hgt : gt xs[i] αi with
        | none => rw [hgt] at hnb; exact absurd rfl hnb
        | some β =>
          rw [hgt] at hnb hnx hout
          dsimp only at hnb hnx hout
          refine .inr ⟨w1 hlt, fun H' => Mod S H1 H' ∧ ∃ acc ds αi, H' D0 = some (.lst acc) ∧ acc.length ≤ i + 1 ∧ Reps e (fz (D0 :: L) H') ds acc ∧ Rel e c (D0 :: L) S (L2.wipe σ vs) H' αi ∧ Same (fz (D0 :: L) (upd H1 D0 (.lst []))) (fz (D0 :: L) H') ∧
              lcE gt se vs (xs.drop (i + 1)) αi ≠ .bad ∧ (∀ x, lcE gt se vs (xs.drop (i + 1)) αi ≠ .exc x) ∧ (∀ rest γ, lcE gt se vs (xs.drop (i + 1)) αi = .ok rest γ → lcE gt se vs xs (wipeA vs α) = .ok (ds ++ rest) γ),
            fun H' ⟨h', h''⟩ => ⟨xs.length - (i + 1), by omega, rfl, hlt, h', h''⟩, fun v H3 y => ?_⟩
          obtain ⟨e3, r3⟩ := w3 xs[i] v H3 (List.getElem?_eq_getElem hlt) y
          refine hg c _ S _ H3 _ xs[i] v β (R2.up e3) r3 hgt _ fun σ4 hl4 hj4 R4 => ⟨?_, ?_⟩
          · rw [wipe_ext hl4 fun j hn => hj4 j fun m => hn (hj j m), wipe_idem]
          · show te σ4 H3 _
            refine he c _ S σ4 H3 β R4 _ (fun d β' hse v5 H5 m5 R5 r5 => ?_) (fun x hse => ?_) (fun hse => ?_)
            · rw [hse] at hnb hnx hout
              dsimp only at hnb hnx hout
              have h5 : H5 D0 = some (.lst acc) := m5 _ _ (e3 _ _ h2) hDS
              have fzs : Same (fz (D0 :: L) H5) (fz (D0 :: L) (upd H5 D0 (.lst (acc ++ [v5])))) := fz_mut fun a o z n => by
                rw [upd_ne (fun z' => n (by rw [z']; exact List.mem_cons_self))]; exact z
              have f35 : Same (fz (D0 :: L) H2) (fz (D0 :: L) H5) := (fz_same e3).trans (fz_mod m5 R4.sub)
              have wq : L2.wipe σ4 vs = L2.wipe σ vs := by rw [wipe_ext hl4 fun j hn => hj4 j fun m => hn (hj j m), wipe_idem]
              have R6 : Rel e c (D0 :: L) S (L2.wipe σ vs) (upd H5 D0 (.lst (acc ++ [v5]))) (wipeA vs β') := by
                have q := R5.wipe vs
                rw [wq] at q
                exact q.mutL hDS (List.mem_cons_self) h5 (R1.h0 hD)
              refine ⟨acc, h5, sz_lt (by omega), fun a o z n => ?_, acc ++ [v5], ds ++ [d], wipeA vs β', upd_same, by simp; omega, ((hr.up f35).append (Reps.cons r5 Reps.nil)).up fzs, R6, f2.trans (f35.trans fzs), ?_, ?_, ?_⟩
              · rw [upd_ne (ne_of_none z hD)]
                exact m5 _ _ (e3 _ _ (s2 _ _ z n)) n
              · intro hb; rw [hb] at hnb; exact hnb rfl
              · intro x hb; rw [hb] at hnx; exact hnx x rfl
              · intro rest γ hb
                rw [hb] at hout
                have := hout (d :: rest) γ rfl
                rw [this, List.append_assoc]; rfl
            · rw [hse] at hnb; exact absurd rfl hnb
            · rw [hse] at hnb; exact absurd rfl hnb
      · have e2 : i = xs.length := by omega
        subst e2
        rw [List.drop_length] at hout
        have ho := hout [] αi rfl
        rw [List.append_nil] at ho
        refine .inl ⟨w2 (Nat.le_refl _), k ds αi ho D0 acc H2 ?_ hn R2.unwipe h2 hr⟩
        intro a o z n
        exact s2 a o (e1 _ _ z) n
    · exact absurd rfl nb
end
end Ab
end
section
set_option maxRecDepth 100000
set_option maxHeartbeats 1000000
namespace Ab
open PySem L2 PyProof.Rows PySem.Spec
open Builtin Builtin.SmallTypes
set_option maxHeartbeats 2000000 in
theorem meets_enum1B {v : Value} {o : Obj} {H : Heap → Prop} (B : Begins v o H) :
    Meets (Builtin.«enumerate.__new__» ⟨[.type "enumerate", v], []⟩) (fun _ R s => H s.heap ∧
      R (.ok (.ret (.ref (s.heap.push o).objs.size))) { s with heap := (s.heap.push o).push { cls := .type "enumerate", data := .fields #[.none, .bool false, .ref s.heap.objs.size, rawInt 0, .none, .none] } }) :=
  .of_wp fun prog w A R s h => by
    obtain ⟨hp, g, d, tk, os⟩ := s; obtain ⟨h1, h⟩ := h
    have hsub := sub_enumerate
    have q1 : ∀ {A' : Around} {E : Value → Shared → Prop} {Q : Value → Shared → Prop}, Q (.ref hp.objs.size) ⟨hp.push o, g, d, tk, os⟩ → wpAny (model prog w) A' (pyIter v) Q E ⟨hp, g, d, tk, os⟩ :=
      fun q => B.iter prog w _ _ ⟨hp, g, d, tk, os⟩ _ h1 q
    wp_walk using q1
    refine wpAny_stack_any fun st => wpAny_pure ?_
    split
    · rename_i c _ _ _ _ _
      cases (c == Value.type "enumerate")
      · wp_walk using q1
        exact ⟨_, rfl, h⟩
      · wp_walk using q1
        exact ⟨_, rfl, h⟩
    · wp_walk using q1
      exact ⟨_, rfl, h⟩
section
variable {prog : Program} {w : World} {A : Around} {E : Value → Shared → Prop} {s : Shared}
theorem enum1_begins {v : Value} {o : Obj} {H : Heap → Prop} {Q : Value → Shared → Prop} (B : Begins v o H) (h1 : H s.heap)
    (h : ∀ h', IsEnum h' (s.heap.objs.size + 1) s.heap.objs.size 0 .none → h'.get? s.heap.objs.size = some o → h'.objs.size = s.heap.objs.size + 2 →
      (∀ b o, s.heap.get? b = some o → h'.get? b = some o) → Q (.ref (s.heap.objs.size + 1)) { s with heap := h' }) :
    wpAny (model prog w) A (call (.type "enumerate") [v]) Q E s := by
  refine callType_new F.called_enumerate (by decide) (F.typeCall_enumerate_1 _) (F.newCall_enumerate_1 _) (fun obj => F.args_object_init_2 obj _) F.entry_enumerate_new
    (meets_enum1B B) ⟨h1, ?_⟩
  have hz : (s.heap.push o).objs.size = s.heap.objs.size + 1 := Heap.size_push ..
  show _ ∧ _
  rw [hz]
  have he : IsEnum ((s.heap.push o).push { cls := .type "enumerate", data := .fields #[.none, .bool false, .ref s.heap.objs.size, rawInt 0, .none, .none] }) (s.heap.objs.size + 1) s.heap.objs.size 0 .none := by
    have := Heap.get?_push_size (s.heap.push o) (o := { cls := .type "enumerate", data := .fields #[.none, .bool false, .ref s.heap.objs.size, rawInt 0, .none, .none] }) rfl
    rw [hz] at this; exact this
  refine ⟨⟨_, he, rfl⟩, h _ he (Heap.get?_push_of_some _ (Heap.get?_push_size _ B.free)) (by rw [Heap.size_push, hz]) fun b o x => Heap.get?_push_of_some _ (Heap.get?_push_of_some _ x)⟩
end
def IteT (K : PySem.W.Frag) (a : Addr) : It :=
  ⟨fun i H => ∃ (xs : List V) (x : V), SqT K H a xs ∧ xs[i]? = some x, fun i H v H' => ∃ T x, v = .ref T ∧ H T = none ∧ H' = upd H T (.tup [.int (i : Nat), x]) ∧ ∀ xs, SqT K H a xs → xs[i]? = some x, fun i H => ∃ xs : List V, SqT K H a xs ∧ xs.length ≤ i⟩
theorem turn_enumT {P : Program} {w : World} {K : PySem.W.Frag} {elts : List Expr} {kk : Nat} {tpos : Pos} (a e it : Addr) :
    Turn P w K (.Tuple elts kk tpos) (IteT K a) [e, it] e (fun i h => (∃ old, IsEnum h e it ((i : Nat) : Int) old) ∧ h.IsTupleIter it a i ∧ e ≠ it) where
  mem := by simp
  obj := fun i h st b hb => by
    obtain ⟨⟨old, he⟩, ⟨o, ho, hc, hd⟩, _⟩ := st
    have e' : b = e ∨ b = it := by simpa using hb
    rcases e' with z | z
    · rw [z]; exact ⟨_, he, fun v q => nomatch q⟩
    · rw [z]; exact ⟨o, ho, fun v q => by rw [hd] at q; cases q⟩
  keep := fun i h h' st k => let ⟨⟨old, he⟩, hi, hne⟩ := st; ⟨⟨old, k e (by simp) _ he⟩, hi.at fun o q => k it (by simp) o q, hne⟩
  item := by
    intro X hP hw hK hc i pins s σ H E I hf st hg
    subst hP hw hK
    obtain ⟨⟨old, he⟩, hit, hne⟩ := st
    obtain ⟨xs, x, hq, hx⟩ := hg
    obtain ⟨its, rv, p, hz⟩ := I.tuple hq
    obtain ⟨u, hu, ru⟩ := rv.get hx
    have hel : e < s.heap.objs.size := Heap.lt_size he
    have hil : it < s.heap.objs.size := by obtain ⟨_, q, _⟩ := hit; exact Heap.lt_size q
    have hat : a ≠ it := by
      rintro rfl
      obtain ⟨o, ho, hc2, hd⟩ := hit
      obtain ⟨o2, ho2, hc3, _⟩ := p
      rw [ho] at ho2; cases ho2
      rw [hc2] at hc3; exact absurd hc3 (by simp)
    have hae : e ∉ [it, a] := by
      intro m
      rcases List.mem_cons.mp m with z | m
      · exact hne z
      · have z : e = a := by simpa using m
        subst z
        obtain ⟨o2, ho2, hc3, _⟩ := p
        have he2 : s.heap.get? e = _ := he
        rw [ho2] at he2; cases he2; exact absurd hc3 (by simp)
    have hlt : i < its.length := (List.getElem?_eq_some_iff.mp hu).1
    have D := Draws.tuple (prog := X.prog) (w := X.w) (A := X.A.in1) (I.ok.hd hc) it a hat its.toArray
    refine wpAny_pyNext_enum_itemD D he ⟨hit, p⟩ (by simpa using hlt) hne hae fun x' h' tk hx' ho hst hT hsz hk => ?_
    have hxu : x' = u := by
      have h1 : its[i]? = some x' := by simpa using hx'
      rw [hu] at h1
      exact (Option.some.inj h1).symm
    subst hxu
    refine ⟨_, rfl, wpAny_letOwnedTupleGo_enum (s := { s with heap := h', toks := tk + 1 }) ho fun h'' he' sb => ?_⟩
    have hT2 : h''.get? s.heap.objs.size = some { cls := .type "tuple", data := .seq #[.int i tk, x'] } := (sb.2 _ (Nat.ne_of_gt hel)).trans hT
    have new : ObjOk X.prog X.w (upd H s.heap.objs.size (.tup [.int (i : Nat), x])) h'' s.heap.objs.size (.tup [.int (i : Nat), x]) :=
      ⟨by show 2 ≤ sizeLine; decide, [.int i tk, x'], .cons ⟨_, rfl⟩ (.cons ru .nil), ⟨_, hT2, rfl, _, rfl⟩⟩
    have I1 : Inv X pins σ (upd H s.heap.objs.size (.tup [.int (i : Nat), x])) { s with heap := h'', toks := tk + 1 } :=
      I.turnedNew (ch := [e, it]) (fun b ob hb q => (sb.2 b (fun z => hb (by simp [z]))).trans (hk b ob (fun z => hb (by simp [z])) (fun z => hb (by simp [z])) q)) hf (Nat.le_refl _) new
    refine ⟨.ref s.heap.objs.size, _, I1, rfl, ⟨_, x, rfl, I.hok.fresh (Nat.le_refl _), rfl, fun ys hy => by rw [I.tuple_inj hy hq]; exact hx⟩, ⟨⟨x', ?_⟩, hst.1.at fun o q => (sb.2 it (Ne.symm hne)).trans q, hne⟩, fun b hb => ?_⟩
    · have e1 : ((i + 1 : Nat) : Int) = (i : Int) + 1 := by omega
      rw [e1]; exact he'
    · have hb' : b < s.heap.objs.size := by
        have e' : b = e ∨ b = it := by simpa using hb
        rcases e' with z | z
        · rw [z]; exact hel
        · rw [z]; exact hil
      rw [upd_ne (Nat.ne_of_lt hb')]
      exact (hf b hb).1
  done := by
    intro X hP hw hK hc i pins s σ H E I hf st hg
    subst hP hw hK
    obtain ⟨⟨old, he⟩, hit, hne⟩ := st
    obtain ⟨xs, hq, hx⟩ := hg
    obtain ⟨its, rv, p, hz⟩ := I.tuple hq
    obtain ⟨f0, f1, f2, f3, f4, f5⟩ := hf it (by simp)
    have hl := rv.length
    have hat : a ≠ it := by
      rintro rfl
      obtain ⟨o, ho, hc2, hd⟩ := hit
      obtain ⟨o2, ho2, hc3, _⟩ := p
      rw [ho] at ho2; cases ho2
      rw [hc2] at hc3; exact absurd hc3 (by simp)
    have D : Draws X.prog X.w X.A.in1 it [it, a] i (fun i v => its.toArray[i]? = some v) (fun j h => j = i ∧ h.IsTuple a its.toArray ∧ h.IsTupleIter it a j) :=
      { live := fun _ _ st => let ⟨o, ho, _⟩ := st.2.2; ⟨o, ho⟩
        frame := fun _ _ _ st hk => ⟨st.1, st.2.1.at fun o e => hk a (by simp) o e, st.2.2.at fun o e => hk it (by simp) o e⟩
        item := fun j s Q E hj st hQ => absurd st.1 (Nat.ne_of_lt hj)
        done := fun s Q E st hE => wpAny_nextOf_tuple_end (I.ok.hd hc) st.2.2 st.2.1 (by simp; omega) hE }
    exact wpAny_pyNext_enum_endD D he ⟨rfl, p, hit⟩ fun h' eb => ⟨rfl, I.turned (t' := s.toks) (fun b o hb q => eb b o hb q) f0 f1 f3 f4 f5⟩
  self := fun A i s Q E st h => let ⟨⟨_, he⟩, _⟩ := st; wpAny_pyIter_enum he h
def iEnumT (K : PySem.W.Frag) (ta : TA) : TI := fun σ H R => ta σ H fun vs H1 => ∃ a xs, vs = [.ref a] ∧ SqT K H1 a xs ∧ R (IteT K a) H1
theorem pi_enumT {X : Cx} {e : Expr} {ta : TA} {p pos tpos : Pos} {elts : List Expr} {kk : Nat} (hg : Gl X "enumerate") (hm : X.mg "enumerate" = none) (ha : PA X [e] ta) (hs : starEach [e] X.env = [(false, eval e X.env)] := by rfl) :
    PI X (.Tuple elts kk tpos) (.Call (.Name "enumerate" p) [e] [] pos) (iEnumT X.K ta) := by
  refine ⟨fun pins s σ H R I h => ?_⟩
  refine Call_ (ld_blt I hg hm boot_enumerate (PyProof.Rows.callWith_type1 (thn (ha.run pos pins s σ H _ I h) fun us s1 ⟨vs, H1, I1, r1, q1⟩ => ?_) hs rfl))
  obtain ⟨a, xs, ex, hq, q⟩ := q1
  subst ex
  cases r1 with
  | cons r rr =>
    cases rr
    cases r
    obtain ⟨its, rv, p', hz⟩ := I1.tuple hq
    refine enum1_begins (begins_tuple a its.toArray) (show s1.heap.IsTuple a its.toArray from p') fun h' he hit hsz hk => wpAny_pyIter_enum he ?_
    have I2 : Inv X pins σ H1 { s1 with heap := h' } := I1.kept (t' := s1.toks) hk
    refine ⟨s1.heap.objs.size + 1, [s1.heap.objs.size + 1, s1.heap.objs.size], _, _, H1, rfl, I2, turn_enumT a (s1.heap.objs.size + 1) s1.heap.objs.size, ⟨⟨.none, he⟩, ⟨_, hit, rfl, rfl⟩, Nat.succ_ne_self _⟩, fun b hb => ?_, q⟩
    have e' : b = s1.heap.objs.size + 1 ∨ b = s1.heap.objs.size := by simpa using hb
    have hle : s1.heap.objs.size ≤ b := by
      rcases e' with z | z
      · rw [z]; exact Nat.le_add_right _ _
      · rw [z]; exact Nat.le_refl _
    exact I1.fpOk hle (I1.hok.fresh hle)
section
variable {e : En} {te : TE}
def xEnumT (s : State → Option D) : State → Option (List D) := fun α => match s α with | some (.tup xs) => some (enumL 0 xs) | _ => none
theorem ei_enumT {s : State → Option D} (h : Evp e te s) : Evi e (iEnumT e.K (tCons te tNil)) (xEnumT s) := fun c L S σ H α xs R q W k => by
  unfold xEnumT at q
  split at q
  · rename_i ys hs
    cases q
    refine h c L S σ H α _ R hs _ fun v H' e1 ⟨a, vs, e2, r1, r2⟩ => ?_
    subst e2
    refine ⟨a, vs, rfl, same_t fz_le r1, k _ H' e1 fun L2 H2 s2 dm i => ?_⟩
    have t2 : SqT e.K H2 a vs := same_t fz_le (same_t s2 r1)
    rw [enumL_len]
    refine ⟨fun hi => ⟨vs, vs[i]'(by rw [r2.len]; exact hi), t2, List.getElem?_eq_getElem _⟩, fun hi => ⟨vs, t2, by rw [r2.len]; exact hi⟩, fun x v H3 hx ⟨T, y, e3, n, e4, yy⟩ => ?_⟩
    subst e3 e4
    obtain ⟨d, h1, h2⟩ := enumL_get _ _ _ _ hx
    obtain ⟨v', h3, h4⟩ := r2.get h1
    have h5 := yy vs t2
    have h6 : v' = y := Option.some.inj (h3.symm.trans h5)
    subst h6
    have s3 : Same H2 (upd H2 T (.tup [.int (i : Nat), v'])) := same_upd n
    refine ⟨s3, ?_⟩
    subst h2
    refine ⟨T, _, rfl, .inl (.inl (fz_new (fresh_nL dm n) upd_same)), Reps.cons ?_ (Reps.cons (h4.up (s2.trans (fz_same s3))) Reps.nil)⟩
    show V.int _ = V.int _
    rw [Int.zero_add]
  · cases q
end
end Ab
end
section
set_option maxRecDepth 100000
set_option maxHeartbeats 1000000
namespace Ab
open PySem L2 PyProof.Rows PySem.Spec
/-- a tuple of flat things at the module's top -/
def isTup (ds : List D) (o : Obj) : Prop := ∃ (its : Array Value) (n : Nat), o.cls = .type "tuple" ∧ o.data = .seq its n ∧ its.size ≤ sizeLine ∧ Vals (ds.map dv) its.toList ∧ ds.all flat = true ∧ o.dict = none
theorem reps_dv {e : En} {F : Hp} : ∀ {ds : List D}, ds.all flat = true → Reps e F ds (ds.map dv)
  | [], _ => Reps.nil
  | d :: ds, h => by
    simp only [List.all_cons, Bool.and_eq_true] at h
    exact Reps.cons (rep_of_flat h.1) (reps_dv h.2)
theorem top_tup {K : PySem.W.Frag} {cls : String → Addr} {q : Addr} {o : Obj} {ds : List D} (h : K.lookup q = some o) (r : isTup ds o) : ∀ F, Rep ⟨K, cls⟩ F (.tup ds) (.ref q) := fun F => by
  obtain ⟨its, n, h1, h2, h3, h4, h5, _⟩ := r
  exact ⟨q, _, rfl, .inr ⟨o, its, n, h, h1, h2, h3, h4⟩, reps_dv h5⟩
theorem top_ty {K : PySem.W.Frag} {q : Addr} {o : Obj} {ds : List D} (h : K.lookup q = some o) (r : isTup ds o) : ∀ H, tyV K "tuple" (.ref q) H := fun H => by
  obtain ⟨its, n, h1, h2, h3, h4, h5, h6⟩ := r
  exact .inr (.inl ⟨rfl, o, h, h1, h6⟩)
/-! ### the rules with the written part told by itself (within a comprehension's block) -/
section
variable {X : Cx} {K : PySem.W.Frag}
theorem ixl (h : X.K = K) : IxR X (rIxL K) := h ▸ ix_list
theorem ixt (h : X.K = K) : IxR X (rIxT K) := h ▸ ix_tup
theorem sll (h : X.K = K) : SlR X (rSlL K) := h ▸ sl_list
theorem sla (h : X.K = K) : SlR X (rSlA K) := h ▸ sl_tupA
theorem in_q (h : X.K = K) : OpR X (compareOp .In) (rIn K false) := h ▸ op_in_seq
theorem nin_q (h : X.K = K) : OpR X (compareOp .NotIn) (rIn K true) := h ▸ op_notIn_seq
theorem eq_q (h : X.K = K) (hu : X.A.units + 200 < cLine) : OpR X (compareOp .Eq) (rEqQ K) := h ▸ op_eqQ hu
theorem ne_q (h : X.K = K) (hu : X.A.units + 200 < cLine) : OpR X (compareOp .NotEq) (rNeQ K) := h ▸ op_neQ hu
theorem cat_q (h : X.K = K) : OpR X (binaryOp .Add) (rCatQ K) := h ▸ op_catQ
theorem cat_a (h : X.K = K) : OpR X (binaryOp .Add) (rCatA K) := h ▸ op_catA
theorem isi_q (h : X.K = K) : CallR X (.builtin "isinstance") (rIsi K) := h ▸ call_isi
theorem len_q (h : X.K = K) : CallR X (.builtin "len") (fun xs H Q => ∃ p ys, xs = [.ref p] ∧ (SqL K H p ys ∨ SqT K H p ys) ∧ Q (.int ys.length) H) := h ▸ call_len_seq
theorem list_q (h : X.K = K) : CallR X (.type "list") (fun xs H Q => ∃ p ys, xs = [.ref p] ∧ (SqL K H p ys ∨ SqT K H p ys) ∧ ∀ l, H l = none → Q (.ref l) (upd H l (.lst ys))) := h ▸ call_list_of
theorem tuple_q (h : X.K = K) : CallR X (.type "tuple") (fun xs H Q => ∃ p ys, xs = [.ref p] ∧ ((SqL K H p ys ∧ ∀ l, H l = none → Q (.ref l) (upd H l (.tup ys))) ∨ (SqT K H p ys ∧ Q (.ref p) H))) := h ▸ call_tuple_of
theorem sum_q (h : X.K = K) (hc : X.calm = true) : CallR X (.builtin "sum") (rSum K) := h ▸ cr_sum hc
theorem pil (h : X.K = K) {tg l : Expr} {tl : TE} (hl : PE X l tl) : PI X tg l (iList K tl) := h ▸ pi_list hl
theorem pit (h : X.K = K) {tg l : Expr} {tl : TE} (hl : PE X l tl) : PI X tg l (iTup K tl) := h ▸ pi_tup hl
theorem pienum (h : X.K = K) {e : Expr} {ta : TA} {p pos tpos : Pos} {elts : List Expr} {kk : Nat} (hg : Gl X "enumerate") (hm : X.mg "enumerate" = none) (ha : PA X [e] ta) (hs : starEach [e] X.env = [(false, eval e X.env)] := by rfl) :
    PI X (.Tuple elts kk tpos) (.Call (.Name "enumerate" p) [e] [] pos) (iEnum K ta) := h ▸ pi_enum hg hm ha hs
theorem pienumT (h : X.K = K) {e : Expr} {ta : TA} {p pos tpos : Pos} {elts : List Expr} {kk : Nat} (hg : Gl X "enumerate") (hm : X.mg "enumerate" = none) (ha : PA X [e] ta) (hs : starEach [e] X.env = [(false, eval e X.env)] := by rfl) :
    PI X (.Tuple elts kk tpos) (.Call (.Name "enumerate" p) [e] [] pos) (iEnumT K ta) := h ▸ pi_enumT hg hm ha hs
theorem pe_pop (h : X.K = K) {o : Expr} {to : TE} {apos cpos : Pos} (ho : PE X o to) (hbase : attributeBase o "pop" X.env (eval o X.env) = eval o X.env := by rfl) (hline : (apos.endLine == cpos.line) = true := by rfl) :
    PE X (.Call (.Attribute o "pop" apos) [] [] cpos) (tBM0 K "list" rPop to) := h ▸ pe_bm0 PySem.F.plainAttrs_list PySem.F.slot_list_pop PySem.F.type_list_pop mt_pop ho hbase hline
theorem pe_tuprev (h : X.K = K) {e : Expr} {te : TE} {p p2 pos pos2 : Pos} (hc : X.calm = true) (hg : Gl X "tuple") (hm : X.mg "tuple" = none) (hg2 : Gl X "reversed") (hm2 : X.mg "reversed" = none) (he : PE X e te)
    (q : PE X (.Call (.Name "tuple" p) [.Call (.Name "reversed" p2) [e] [] pos2] [] pos) (RT.tTupRev X.K te)) : PE X (.Call (.Name "tuple" p) [.Call (.Name "reversed" p2) [e] [] pos2] [] pos) (RT.tTupRev K te) := h ▸ q
end
end Ab
end
section
set_option maxRecDepth 100000
set_option maxHeartbeats 1000000
namespace Ab
open PySem L2 PyProof.Rows PySem.Spec
section
variable {α β : State} {i j : Nat} {d : D} {sa sb s s' : State → Option D} {f : D → D → Option D} {sq sq2 sr : State → Option (List D)} {st su : State → Option Bool}
@[simp] theorem a_xVar : xVar i α = (match α[i]? with | some (some (.dat d)) => some d | _ => none) := (rfl)
@[simp] theorem a_xC : xC d α = some d := (rfl)
@[simp] theorem a_x2 : x2 f sa sb α = bnd (sa α) fun a => bnd (sb α) fun b => f a b := (rfl)
@[simp] theorem a_x1 {g : D → Option D} : x1 g sa α = bnd (sa α) g := (rfl)
@[simp] theorem a_asB : asB s α = (match s α with | some (.bl b) => some b | _ => none) := (rfl)
@[simp] theorem a_tbNot : tbNot st α = (st α).map (!·) := (rfl)
@[simp] theorem a_tbAnd : tbAnd st su α = (match st α with | some true => su α | o => o) := (rfl)
@[simp] theorem a_tbOr : tbOr st su α = (match st α with | some false => su α | o => o) := (rfl)
@[simp] theorem a_xIf : xIf st sa sb α = (match st α with | some true => sa α | some false => sb α | none => none) := (rfl)
@[simp] theorem a_xB : xB st α = (st α).map .bl := (rfl)
@[simp] theorem a_aNil : aNil α = some [] := (rfl)
@[simp] theorem a_aCons : aCons s sr α = bnd (s α) fun d => bnd (sr α) fun ds => some (d :: ds) := (rfl)
@[simp] theorem a_xTup : xTup sr α = bnd (sr α) fun ds => if ds.length ≤ 100000 then some (.tup ds) else none := (rfl)
@[simp] theorem a_xL : xL sr α = (sr α).map .lst := (rfl)
@[simp] theorem a_qL : qL s α = (match s α with | some (.lst xs) => some xs | _ => none) := (rfl)
@[simp] theorem a_qT : qT s α = (match s α with | some (.tup xs) => some xs | _ => none) := (rfl)
@[simp] theorem a_qO : qO i α = (match ctOf α[i]? with | some (.lst xs) => some xs | _ => none) := (rfl)
@[simp] theorem a_xCall {m : List D → Option D} : xCall m sr α = bnd (sr α) m := (rfl)
@[simp] theorem a_xLen : xLen sq α = (match sq α with | some xs => some (.int xs.length) | none => none) := (rfl)
@[simp] theorem a_xIx : xIx sq sb α = bnd (sq α) fun xs => match sb α with | some (.int i) => atI xs i | _ => none := (rfl)
@[simp] theorem a_xSlL {sl sh : State → Option (Option Int)} : xSlL sq sl sh α = bnd (sq α) fun xs => bnd (sl α) fun lo => bnd (sh α) fun hi => some (cutD xs lo hi) := (rfl)
@[simp] theorem a_xSlA {sl sh : State → Option (Option Int)} : xSlA sq sl sh α = bnd (sq α) fun xs => bnd (sl α) fun lo => bnd (sh α) fun hi => some (.tup (cutD xs lo hi)) := (rfl)
@[simp] theorem a_oNone : oNone α = some none := (rfl)
@[simp] theorem a_oSome : oSome s α = (match s α with | some (.int i) => some (some i) | _ => none) := (rfl)
@[simp] theorem a_xTupL : xTupL sq α = (match sq α with | some xs => some (.tup xs) | none => none) := (rfl)
@[simp] theorem a_xSum : xSum sq α = bnd (sq α) fSum := (rfl)
@[simp] theorem a_xLend : xLend i s α = bnd (lendD i α) fun β => match s β with | some d => if flat d = true then some d else none | none => none := (rfl)
@[simp] theorem a_tLend : tLend i st α = bnd (lendD i α) st := (rfl)
@[simp] theorem a_xChain {g : D → D → Option D} : xChain f g sa sb s α = bnd (sa α) fun a => bnd (sb α) fun b => match f a b with
  | some (.bl true) => (bnd (s α) fun c => match g b c with | some (.bl k) => some (.bl k) | _ => none) | some (.bl false) => some (.bl false) | _ => none := (rfl)
@[simp] theorem a_xTupRev : xTupRev sq α = (match sq α with | some xs => some (.tup xs.reverse) | none => none) := (rfl)
@[simp] theorem a_xEnum : xEnum s α = (match s α with | some (.lst xs) => some (enumL 0 xs) | _ => none) := (rfl)
@[simp] theorem a_xEnumT : xEnumT s α = (match s α with | some (.tup xs) => some (enumL 0 xs) | _ => none) := (rfl)
@[simp] theorem a_xCat : xCat sq sq2 α = bnd (sq α) fun xs => bnd (sq2 α) fun ys => lenOk (xs ++ ys) := (rfl)
@[simp] theorem a_xCatT : xCatT sq sq2 α = bnd (sq α) fun xs => bnd (sq2 α) fun ys => if (xs ++ ys).length ≤ 100000 then some (.tup (xs ++ ys)) else none := (rfl)
@[simp] theorem a_xLc {vs : List Nat} {gt : D → State → Option State} : xLc vs sq gt st s α = bnd (sq α) fun xs => if xs.length ≤ 100000 then lcF gt st s xs (wipeA vs α) else none := (rfl)
@[simp] theorem a_tbYes : tbYes α = some true := (rfl)
theorem rngOk_of {n : Int} (h0 : -1000000 ≤ n) (h1 : n ≤ 1000000) : rngOk n = true := by
  unfold rngOk
  exact decide_eq_true ⟨Int.le_trans (by decide) h0, Int.lt_of_le_of_lt h1 (by decide)⟩
theorem rngOk_nat {n : Nat} (h1 : n ≤ 1000000) : rngOk (n : Int) = true := rngOk_of (by omega) (by omega)
@[simp] theorem rngOk_0 : rngOk 0 = true := rngOk_of (by omega) (by omega)
@[simp] theorem rngOk_1 : rngOk 1 = true := rngOk_of (by omega) (by omega)
@[simp] theorem rngOk_2 : rngOk 2 = true := rngOk_of (by omega) (by omega)
@[simp] theorem a_xRng1 : xRng1 sr α = (match sr α with | some [.int n] => if rngOk n = true then some (rngD 0 n.toNat) else none | _ => none) := (rfl)
@[simp] theorem a_xRng2 : xRng2 sr α = (match sr α with | some [.int a, .int n] => if rngOk a = true ∧ rngOk n = true then some (rngD a (n - a).toNat) else none | _ => none) := (rfl)
@[simp] theorem a_lift : lift s α = (match s α with | some d => .ok d α | none => .bad) := (rfl)
@[simp] theorem a_liftL : liftL sq α = (match sq α with | some d => .ok d α | none => .bad) := (rfl)
@[simp] theorem a_liftB : liftB st α = (match st α with | some d => .ok d α | none => .bad) := (rfl)
section
variable {r : State → Res D} {rl : State → Res (List D)} {rb : State → Res Bool} {u v : State → Out} {ra : State → Res (List Arg)} {gt : D → State → Option State} {gs : List D → State → Option State}
@[simp] theorem a_sSeq : sSeq u v α = (match u α with | .nxt β => v β | o => o) := (rfl)
@[simp] theorem a_sNext : sNext α = .nxt α := (rfl)
@[simp] theorem a_sBrk : sBrk α = .brk α := (rfl)
@[simp] theorem a_sCnt : sCnt α = .cnt α := (rfl)
@[simp] theorem a_sSet : sSet i r α = (match r α with | .ok d α' => .nxt (α'.set i (some (.dat d))) | .exc x => .exc x | .bad => .bad) := (rfl)
@[simp] theorem a_sSetL : sSetL i rl α = (match rl α with | .ok xs α' => .nxt (α'.set i (some (.own (.lst xs)))) | .exc x => .exc x | .bad => .bad) := (rfl)
@[simp] theorem a_sIf : sIf rb u v α = (match rb α with | .ok true α' => u α' | .ok false α' => v α' | .exc x => .exc x | .bad => .bad) := (rfl)
@[simp] theorem a_sDrop : sDrop r α = (match r α with | .ok _ α' => .nxt α' | .exc x => .exc x | .bad => .bad) := (rfl)
@[simp] theorem a_sRet : sRet r α = (match r α with | .ok d α' => .ret (.dat d) α' | .exc x => .exc x | .bad => .bad) := (rfl)
@[simp] theorem a_sRetN : sRetN α = .ret (.dat .non) α := (rfl)
@[simp] theorem a_sRetL : sRetL rl α = (match rl α with | .ok xs α' => .ret (.lst xs) α' | .exc x => .exc x | .bad => .bad) := (rfl)
@[simp] theorem a_sRetO : sRetO i α = (match α[i]? with | some (some (.own (.lst xs))) => .ret (.lst xs) α | _ => .bad) := (rfl)
@[simp] theorem a_sFrz : sFrz i u α = u (frzD i α) := (rfl)
@[simp] theorem a_gN {x : D} : gN i x α = some (α.set i (some (.dat x))) := (rfl)
@[simp] theorem a_gsN : gsN [] α = some α := (rfl)
@[simp] theorem a_gsC {x : D} {xs : List D} : gsC gt gs (x :: xs) α = bnd (gt x α) (gs xs) := (rfl)
@[simp] theorem a_gT {n : Nat} {xs : List D} : gT n gs (.tup xs) α = if xs.length = n then gs xs α else none := (rfl)
@[simp] theorem a_sFor {sx : State → Option (List D)} : sFor sx gt u α = (match sx α with | some xs => loopF gt u xs α | none => .bad) := (rfl)
@[simp] theorem a_sApp : sApp i r α = if isL α[i]? = true then (match r α with
  | .ok d α' => (match ctOf α'[i]? with | some (.lst xs) => if xs.length < 100000 then .nxt (putC α' i (.lst (xs ++ [d]))) else .bad | _ => .bad)
  | .exc x => .exc x | .bad => .bad) else .bad := (rfl)
@[simp] theorem a_xPop : xPop i α = (match ctOf α[i]? with | some (.lst xs) => (match xs.getLast? with | some d => .ok d (putC α i (.lst xs.dropLast)) | none => .bad) | _ => .bad) := (rfl)
@[simp] theorem a_sSetI : sSetI i r s α = (match r α with
  | .ok d α' => (match s α', ctOf α'[i]? with | some (.int z), some (.lst xs) => (match ixN xs.length z with | some j => .nxt (putC α' i (.lst (xs.set j d))) | none => .bad) | _, _ => .bad)
  | .exc x => .exc x | .bad => .bad) := (rfl)
@[simp] theorem a_anil : anil α = .ok [] α := (rfl)
@[simp] theorem a_acons : acons r ra α = (match r α with
  | .ok d α1 => (match ra α1 with | .ok as α2 => .ok (.dat d :: as) α2 | .exc x => .exc x | .bad => .bad)
  | .exc x => .exc x | .bad => .bad) := (rfl)
@[simp] theorem a_aslot : aslot i ra α = if (ctOf α[i]?).isSome = true then (match ra α with | .ok as α2 => .ok (.slot i :: as) α2 | .exc x => .exc x | .bad => .bad) else .bad := (rfl)
@[simp] theorem a_rCall {m : List D → Option D} : rCall m ra α = (match ra α with
  | .ok as α1 => (match bnd (datas as) m with | some d => .ok d α1 | none => .bad)
  | .exc x => .exc x | .bad => .bad) := (rfl)
@[simp] theorem a_rTup : rTup ra α = (match ra α with
  | .ok as α1 => (match datas as with | some ds => if ds.length ≤ 100000 then .ok (.tup ds) α1 else .bad | none => .bad)
  | .exc x => .exc x | .bad => .bad) := (rfl)
@[simp] theorem a_datN : datas [] = some [] := (rfl)
@[simp] theorem a_datC {d : D} {as : List Arg} : datas (.dat d :: as) = (datas as).map (d :: ·) := (rfl)
@[simp] theorem a_rCallM {m : List A → MRes} : rCallM m ra α = (match ra α with
  | .ok as α1 => (match slots as with
    | [i] => (match toAs as α1 with
      | some bs => (match m bs with
        | .ok (.dat d) bs' => (match bs'.find? (fun b => match b with | .inn _ => true | _ => false) with | some (.inn ct) => .ok d (putC α1 i ct) | _ => .bad)
        | .exc x => .exc x
        | _ => .bad)
      | none => .bad)
    | _ => .bad)
  | .exc x => .exc x
  | .bad => .bad) := (rfl)
@[simp] theorem a_slN : slots [] = [] := (rfl)
@[simp] theorem a_slS {as : List Arg} : slots (.slot i :: as) = i :: slots as := (rfl)
@[simp] theorem a_slD {d : D} {as : List Arg} : slots (.dat d :: as) = slots as := (rfl)
@[simp] theorem a_toN : toAs [] α = some [] := (rfl)
@[simp] theorem a_toD {d : D} {as : List Arg} : toAs (.dat d :: as) α = (toAs as α).map (.dat d :: ·) := (rfl)
@[simp] theorem a_toS {as : List Arg} : toAs (.slot i :: as) α = (match ctOf α[i]? with | some ct => (toAs as α).map (.inn ct :: ·) | none => none) := (rfl)
@[simp] theorem a_rLc {vs : List Nat} : rLc vs sq gt r α = (match sq α with
  | some xs => if xs.length ≤ 100000 then lcE gt r vs xs (wipeA vs α) else .bad
  | none => .bad) := (rfl)
end
@[simp] theorem a_ctD : ctOf (some (some (.dat d))) = none := (rfl)
@[simp] theorem a_ctO {c : Ct} : ctOf (some (some (.own c))) = some c := (rfl)
@[simp] theorem a_ctI {c : Ct} : ctOf (some (some (.inn c))) = some c := (rfl)
@[simp] theorem a_isLO {xs : List D} : isL (some (some (.own (.lst xs)))) = true := (rfl)
@[simp] theorem a_isLI {xs : List D} : isL (some (some (.inn (.lst xs)))) = true := (rfl)
@[simp] theorem a_wN : wipeA [] α = α := (rfl)
@[simp] theorem a_wC {v : Nat} {vs : List Nat} : wipeA (v :: vs) α = (wipeA vs α).set v none := (rfl)
@[simp] theorem a_add {i j : Int} : ii (fun i j => some (.int (i + j))) (.int i) (.int j) = some (.int (i + j)) := (rfl)
@[simp] theorem a_ii {g : Int → Int → Option D} {i j : Int} : ii g (.int i) (.int j) = g i j := (rfl)
@[simp] theorem a_eqI {i j : Int} : fEq (.int i) (.int j) = some (.bl (decide (i = j))) := by
  simp [fEq, flat, scal, dv]
@[simp] theorem a_neI {i j : Int} : fNe (.int i) (.int j) = some (.bl (!decide (i = j))) := by
  simp [fNe, flat, scal, dv]
@[simp] theorem a_eqS {i j : Str} : fEq (.str i) (.str j) = some (.bl (decide (i = j))) := by
  simp [fEq, flat, scal, dv]
@[simp] theorem a_neS {i j : Str} : fNe (.str i) (.str j) = some (.bl (!decide (i = j))) := by
  simp [fNe, flat, scal, dv]
@[simp] theorem a_eqB {i j : Bool} : fEq (.bl i) (.bl j) = some (.bl (decide (i = j))) := by
  simp [fEq, flat, scal, dv]
@[simp] theorem a_neB {i j : Bool} : fNe (.bl i) (.bl j) = some (.bl (!decide (i = j))) := by
  simp [fNe, flat, scal, dv]
@[simp] theorem a_min2 {i j : Int} : fMin2 [.int i, .int j] = some (.int (if j < i then j else i)) := (rfl)
@[simp] theorem a_max2 {i j : Int} : fMax2 [.int i, .int j] = some (.int (if j > i then j else i)) := (rfl)
@[simp] theorem a_neg {i : Int} : fNeg (.int i) = some (.int (-i)) := (rfl)
@[simp] theorem a_lenOk {β : Type} {xs : List β} : lenOk xs = if xs.length ≤ 100000 then some xs else none := (rfl)
theorem atI_zero {β : Type} {x : β} {xs : List β} : atI (x :: xs) 0 = some x := by
  unfold atI ixN
  rw [if_pos (by decide), if_pos (by simp only [List.length_cons]; omega)]; rfl
theorem atI_nat' {β : Type} {xs : List β} {i : Nat} (h : i < xs.length) : atI xs (i : Int) = some xs[i] := by
  unfold atI ixN
  rw [if_pos (by omega), if_pos (by omega)]
  show xs[((i : Nat) : Int).toNat]? = _
  rw [Int.toNat_natCast, List.getElem?_eq_getElem h]
@[simp] theorem atI0 {β : Type} {x : β} {xs : List β} : atI (x :: xs) 0 = some x := atI_zero
@[simp] theorem atI1 {β : Type} {x y : β} {xs : List β} : atI (x :: y :: xs) 1 = some y := by
  unfold atI ixN
  rw [if_pos (by decide), if_pos (by simp only [List.length_cons]; omega)]; rfl
@[simp] theorem atI2 {β : Type} {x y z : β} {xs : List β} : atI (x :: y :: z :: xs) 2 = some z := by
  unfold atI ixN
  rw [if_pos (by decide), if_pos (by simp only [List.length_cons]; omega)]; rfl
theorem cutD_from {xs : List D} {k : Nat} : cutD xs (some (k : Int)) none = xs.drop k := by
  unfold cutD
  rw [HT.sIx_nat, HT.sIx_none]
  rw [List.take_of_length_le (by rw [List.length_drop]; omega)]
  by_cases h : k ≤ xs.length
  · rw [Nat.min_eq_left h]
  · rw [Nat.min_eq_right (by omega), List.drop_of_length_le (Nat.le_refl _), List.drop_of_length_le (by omega)]
theorem cutD_to {xs : List D} {k : Nat} : cutD xs none (some (k : Int)) = xs.take k := by
  unfold cutD
  rw [HT.sIx_nat, HT.sIx_none]
  rw [List.drop_zero, Nat.sub_zero]
  by_cases h : k ≤ xs.length
  · rw [Nat.min_eq_left h]
  · rw [Nat.min_eq_right (by omega), List.take_of_length_le (Nat.le_refl _), List.take_of_length_le (by omega)]
theorem cutD_mid {xs : List D} {i j : Nat} (h : i ≤ j) : cutD xs (some (i : Int)) (some (j : Int)) = (xs.drop i).take (j - i) := by
  unfold cutD
  rw [HT.sIx_nat, HT.sIx_nat]
  by_cases h1 : i ≤ xs.length
  · rw [Nat.min_eq_left h1]
    by_cases h2 : j ≤ xs.length
    · rw [Nat.min_eq_left h2]
    · rw [Nat.min_eq_right (by omega), List.take_of_length_le (by rw [List.length_drop]; omega), List.take_of_length_le (by rw [List.length_drop]; omega)]
  · rw [Nat.min_eq_right (show xs.length ≤ i by omega), Nat.min_eq_right (show xs.length ≤ j by omega), List.drop_of_length_le (Nat.le_refl _), List.drop_of_length_le (show xs.length ≤ i by omega)]; simp
@[simp] theorem cutD1 {xs : List D} : cutD xs (some 1) none = xs.drop 1 := cutD_from (k := 1)
/-! ### == -/
mutual
theorem eqv_refl : ∀ d : D, PyData.eqv (py d) (py d) = true
  | .non => rfl
  | .bl b => by show (b == b) = true; simp
  | .int b => by show (b == b) = true; simp
  | .str b => by show (b == b) = true; simp
  | .tup xs => by show PyData.eqvAll (pys xs) (pys xs) = true; exact eqvs_refl xs
  | .lst xs => by show PyData.eqvAll (pys xs) (pys xs) = true; exact eqvs_refl xs
  | .ins _ _ => rfl
  | .ty _ => rfl
  | .cls _ => rfl
theorem eqvs_refl : ∀ ds : List D, PyData.eqvAll (pys ds) (pys ds) = true
  | [] => rfl
  | d :: ds => by
    show (PyData.eqv (py d) (py d) && PyData.eqvAll (pys ds) (pys ds)) = true
    rw [eqv_refl d, eqvs_refl ds]; rfl
end
/-! data without truths: == tells it apart -/
mutual
def noBl : D → Bool
  | .bl _ => false | .ins _ _ => false | .ty _ => false | .cls _ => false
  | .tup xs => noBls xs | .lst xs => noBls xs
  | _ => true
def noBls : List D → Bool
  | [] => true | d :: ds => noBl d && noBls ds
end
mutual
theorem eqv_eq : ∀ (a b : D), noBl a = true → noBl b = true → PyData.eqv (py a) (py b) = true → a = b
  | .non, b, _, hb, h => by cases b <;> first | rfl | (simp [noBl] at hb; done) | (simp [py, PyData.eqv] at h; done)
  | .int i, b, _, hb, h => by cases b <;> first | (simp [noBl] at hb; done) | (simp [py, PyData.eqv] at h; done) | (simp [py, PyData.eqv] at h; rw [h])
  | .str i, b, _, hb, h => by cases b <;> first | (simp [noBl] at hb; done) | (simp [py, PyData.eqv] at h; done) | (simp [py, PyData.eqv] at h; rw [h])
  | .tup xs, b, ha, hb, h => by
    cases b with
    | tup ys => rw [eqvs_eq xs ys (by simpa [noBl] using ha) (by simpa [noBl] using hb) (by simpa [py, PyData.eqv] using h)]
    | _ => first | (simp [noBl] at hb; done) | (simp [py, PyData.eqv] at h; done)
  | .lst xs, b, ha, hb, h => by
    cases b with
    | lst ys => rw [eqvs_eq xs ys (by simpa [noBl] using ha) (by simpa [noBl] using hb) (by simpa [py, PyData.eqv] using h)]
    | _ => first | (simp [noBl] at hb; done) | (simp [py, PyData.eqv] at h; done)
  | .bl _, _, ha, _, _ => by simp [noBl] at ha
  | .ins _ _, _, ha, _, _ => by simp [noBl] at ha
  | .ty _, _, ha, _, _ => by simp [noBl] at ha
  | .cls _, _, ha, _, _ => by simp [noBl] at ha
theorem eqvs_eq : ∀ (a b : List D), noBls a = true → noBls b = true → PyData.eqvAll (pys a) (pys b) = true → a = b
  | [], [], _, _, _ => rfl
  | [], _ :: _, _, _, h => by simp [pys, PyData.eqvAll] at h
  | _ :: _, [], _, _, h => by simp [pys, PyData.eqvAll] at h
  | a :: as, b :: bs, ha, hb, h => by
    simp only [noBls, Bool.and_eq_true] at ha hb
    simp only [pys, PyData.eqvAll, Bool.and_eq_true] at h
    rw [eqv_eq a b ha.1 hb.1 h.1, eqvs_eq as bs ha.2 hb.2 h.2]
end
end
end Ab
end
section
set_option maxRecDepth 100000
set_option maxHeartbeats 1000000
namespace Ab
open PySem L2 PyProof.Rows PySem.Spec
theorem loop_cons' {gt : D → State → Option State} {bl : State → Out} {x : D} {xs : List D} {α α' β : State} (h1 : gt x α = some α') (h2 : bl α' = .nxt β) : loopF gt bl (x :: xs) α = loopF gt bl xs β := by
  conv => lhs; unfold loopF
  simp [h1, h2]
/-- a loop that goes through to its end; P i: what stands when i turns are done -/
theorem loop_all {gt : D → State → Option State} {bl : State → Out} (P : Nat → State → Prop) : ∀ (xs : List D) (i : Nat) (α : State), P i α → (∀ (j : Nat) (x : D) (β : State), xs[j]? = some x → P (i + j) β → ∃ γ δ, gt x β = some γ ∧ bl γ = .nxt δ ∧ P (i + j + 1) δ) → ∃ δ, loopF gt bl xs α = .nxt δ ∧ P (i + xs.length) δ
  | [], i, α, h, _ => ⟨α, rfl, h⟩
  | x :: xs, i, α, h, hs => by
    obtain ⟨γ, δ, h1, h2, h3⟩ := hs 0 x α rfl h
    obtain ⟨ε, h4, h5⟩ := loop_all P xs (i + 1) δ h3 fun j y β hj hp => by
      have := hs (j + 1) y β (by simpa using hj) (by rw [show i + (j + 1) = i + 1 + j by omega]; exact hp)
      obtain ⟨γ, δ, a, b, c⟩ := this
      exact ⟨γ, δ, a, b, by rw [show i + 1 + j + 1 = i + (j + 1) + 1 by omega]; exact c⟩
    exact ⟨ε, (loop_cons' h1 h2).trans h4, by rw [show i + (x :: xs).length = i + 1 + xs.length by simp; omega]; exact h5⟩
/-- the same over a mapped list -/
theorem loop_map {ι : Type} {gt : D → State → Option State} {bl : State → Out} (E : ι → D) (P : Nat → State → Prop) (xs : List ι) (α : State) (h0 : P 0 α) (hs : ∀ (j : Nat) (hj : j < xs.length) (β : State), P j β → ∃ γ δ, gt (E xs[j]) β = some γ ∧ bl γ = .nxt δ ∧ P (j + 1) δ) : ∃ δ, loopF gt bl (xs.map E) α = .nxt δ ∧ P xs.length δ := by
  have := loop_all (gt := gt) (bl := bl) P (xs.map E) 0 α h0 fun j x β hj hp => by
    rw [List.getElem?_map] at hj
    by_cases hl : j < xs.length
    · rw [List.getElem?_eq_getElem hl] at hj
      cases hj
      rw [Nat.zero_add] at hp ⊢
      exact hs j hl β hp
    · rw [List.getElem?_eq_none (by omega)] at hj; cases hj
  simpa using this
/-- range(n) -/
theorem loop_rng {gt : D → State → Option State} {bl : State → Out} (lo : Int) (n : Nat) (P : Nat → State → Prop) (α : State) (h0 : P 0 α) (hs : ∀ (j : Nat), j < n → ∀ (β : State), P j β → ∃ γ δ, gt (.int (lo + (j : Int))) β = some γ ∧ bl γ = .nxt δ ∧ P (j + 1) δ) : ∃ δ, loopF gt bl (rngD lo n) α = .nxt δ ∧ P n δ := by
  have := loop_map (gt := gt) (bl := bl) (fun (k : Nat) => D.int (lo + (k : Int))) P (List.range n) α h0 fun j hj β hp => by
    rw [List.getElem_range]
    exact hs j (by simpa using hj) β hp
  simpa [rngD] using this
theorem lcF_map {gt : D → State → Option State} {st : State → Option Bool} {se : State → Option D} {α : State} {ι : Type} {E F : ι → D} : ∀ {xs : List ι}, (∀ x ∈ xs, ∃ β, gt (E x) α = some β ∧ st β = some true ∧ se β = some (F x)) → lcF gt st se (xs.map E) α = some (xs.map F)
  | [], _ => rfl
  | x :: xs, h => by
    obtain ⟨β, h1, h0, h2⟩ := h x List.mem_cons_self
    show lcF gt st se (E x :: xs.map E) α = _
    unfold lcF
    rw [h1]
    simp [h0, h2, lcF_map (xs := xs) fun y m => h y (List.mem_cons_of_mem _ m)]
theorem lcF_filter {gt : D → State → Option State} {st : State → Option Bool} {se : State → Option D} {α : State} {ι : Type} {E F : ι → D} {p : ι → Bool} : ∀ {xs : List ι}, (∀ x ∈ xs, ∃ β, gt (E x) α = some β ∧ st β = some (p x) ∧ (p x = true → se β = some (F x))) → lcF gt st se (xs.map E) α = some ((xs.filter p).map F)
  | [], _ => rfl
  | x :: xs, h => by
    obtain ⟨β, h1, h2, h3⟩ := h x List.mem_cons_self
    show lcF gt st se (E x :: xs.map E) α = _
    unfold lcF
    have ih := lcF_filter (xs := xs) fun y m => h y (List.mem_cons_of_mem _ m)
    rw [h1]
    cases hp : p x
    · rw [hp] at h2
      simp [h2, ih, hp]
    · rw [hp] at h2
      simp [h2, ih, hp, h3 hp]
/-! lists of whole numbers given by a function -/
def df (f : Nat → Int) (n : Nat) : List D := (List.range n).map fun i => .int (f i)
@[simp] theorem df_len {f : Nat → Int} {n : Nat} : (df f n).length = n := by simp [df]
theorem df_get {f : Nat → Int} {n i : Nat} (h : i < n) : (df f n)[i]? = some (.int (f i)) := by
  unfold df; rw [List.getElem?_map, List.getElem?_eq_getElem (by simpa using h)]; simp
theorem df_at {f : Nat → Int} {n j : Nat} {i : Int} (hj : i = j) (h : j < n) : atI (df f n) i = some (.int (f j)) := by
  subst hj
  rw [atI_nat' (by simpa using h)]
  have := df_get (f := f) h
  rw [List.getElem?_eq_getElem (by simpa using h)] at this
  exact this
theorem df_ext {f g : Nat → Int} {n : Nat} (h : ∀ i, i < n → f i = g i) : df f n = df g n := List.map_congr_left fun i hi => by rw [h i (List.mem_range.mp hi)]
theorem df_set {f : Nat → Int} {n i : Nat} {v : Int} : (df f n).set i (.int v) = df (fun x => if x = i then v else f x) n := by
  apply List.ext_getElem?
  intro j
  rw [List.getElem?_set]
  by_cases h : j < n
  · rw [df_get h, df_get h]
    by_cases e : i = j
    · subst e; rw [if_pos rfl, if_pos (by simpa using h), if_pos rfl]
    · rw [if_neg e, if_neg fun z => e z.symm]
  · rw [List.getElem?_eq_none (by simpa using h), List.getElem?_eq_none (by simpa using h)]
    split
    · rw [if_neg (by simpa using (by omega : ¬ i < n))]
    · rfl
theorem df_snoc {f : Nat → Int} {n : Nat} : df f n ++ [.int (f n)] = df f (n + 1) := by
  unfold df; rw [List.range_succ, List.map_append]; rfl
theorem df_ints {f : Nat → Int} {n : Nat} : df f n = ((List.range n).map f).map .int := by
  unfold df; rw [List.map_map]; rfl
theorem ints_df (ns : List Int) : ns.map D.int = df (fun i => ns.getD i 0) ns.length := by
  apply List.ext_getElem?
  intro j
  by_cases h : j < ns.length
  · rw [df_get h, List.getElem?_map, List.getElem?_eq_getElem h, List.getD_eq_getElem?_getD, List.getElem?_eq_getElem h]; rfl
  · rw [List.getElem?_eq_none (by simpa using h), List.getElem?_eq_none (by simpa using h)]
theorem fSum_ints (ns : List Int) : fSum (ns.map .int) = some (.int ns.sum) := by
  unfold fSum; rw [dints_of]; rfl
theorem ixN_nat {n i : Nat} (h : i < n) : ixN n (i : Int) = some i := by
  unfold ixN
  rw [if_pos (by omega), if_pos (by omega)]
  rfl
theorem toNat_sub' (a b : Nat) : ((a : Int) - (b : Int)).toNat = a - b := by omega
end Ab
end
section
set_option maxRecDepth 100000
set_option maxHeartbeats 1000000
namespace Ab
open PySem L2 PyProof.Rows PySem.Spec
section
variable {e : En} {te : TE} {s : State → Option D}
/-! ### a field of an object that stands still -/
def xFld (c : String) (f : Str) (s : State → Option D) : State → Option D := fun α => match s α with | some (.ins c' fs) => if c' = c then fs.lookup f else none | _ => none
theorem repF_lookup {F : Hp} {f : Str} {d : D} : ∀ {fs : List (Str × D)} {gs : List (Str × V)}, RepF e F fs gs → fs.lookup f = some d → ∃ v, gs.lookup f = some v ∧ Rep e F d v
  | [], _, _, h => by cases h
  | (x, y) :: fs, _, ⟨v, r, q, r1, r2⟩, h => by
    subst q
    rw [List.lookup_cons] at h ⊢
    cases hx : f == x with
    | true => rw [hx] at h; cases h; exact ⟨v, rfl, r1⟩
    | false => rw [hx] at h; exact repF_lookup r2 h
theorem ev_fld {c : String} {f : Str} (hc : Cls e.K (e.cls c)) (hn : NoAttr e.K (e.cls c) f) (h : Evp e te s) : Evp e (tFld e.K te f) (xFld c f s) := fun cn L S σ H α d R q Q k => by
  unfold xFld at q
  split at q
  · rename_i c' fs hs
    split at q
    · rename_i hcc
      subst hcc
      refine h cn L S σ H α _ R hs _ fun v H1 e1 r1 => ?_
      obtain ⟨a, dx, gs, rfl, h2, h3⟩ := r1
      obtain ⟨v, h4, h5⟩ := repF_lookup h3 q
      exact ⟨a, _, dx, gs, v, rfl, fz_le _ _ h2, hc, hn, h4, k v H1 e1 h5⟩
    · cases q
  · cases q
theorem pe_fldK {X : Cx} {K : PySem.W.Frag} (hK : X.K = K) {o : Expr} {f : Str} {pos : Pos} {ta : TE} (he : PE X o ta) (hb : attributeBase o f X.env (eval o X.env) = eval o X.env := by rfl) : PE X (.Attribute o f pos) (tFld K ta f) := hK ▸ pe_fld he hb
/-! ### wide products -/
instance (i j : Int) : Decidable (CMulW i j) := by unfold CMulW; infer_instance
instance (i j : Int) : Decidable (CDivW i j) := by unfold CDivW; infer_instance
abbrev fMulW : D → D → Option D := ii fun i j => if CMulW i j then some (.int (i * j)) else none
abbrev fDivW : D → D → Option D := ii fun i j => if CDivW i j then some (.int (i / j)) else none
theorem rv_mulW : RvD e (rI CMulW fun i j => .int (i * j)) fMulW := rv_I fun _ _ _ => rfl
theorem rv_divW : RvD e (rI CDivW fun i j => .int (i / j)) fDivW := rv_I fun _ _ _ => rfl
@[simp] theorem a_xFld {c : String} {f : Str} {α : State} : xFld c f s α = (match s α with | some (.ins c' fs) => if c' = c then fs.lookup f else none | _ => none) := (rfl)
end
end Ab
end
section
set_option maxRecDepth 100000
set_option maxHeartbeats 1000000
namespace Ab
open PySem L2 PyProof.Rows PySem.Spec
section
variable {X : Cx} {k : Nat} {C f : Addr} {mc : Value} {fd : FuncData} {ps : List Str} {sp : Sp} {e : Expr} {es : List Expr} {x m : Str} {pos apos p1 : Pos} {t : TA} {pl : Sem Bool}
/-- C.m(e, ..), m a plain def of the class -/
theorem pe_cfun (hg : Gl X x) (hm : X.mg x = some (.ref C)) (r : ClX.CRead X.K C mc) (cv : ClX.CVal X.K C mc m (.ref f) (.ref f)) (kp : PySem.W.keepIn X.K (.ref f) = true) (F : FnOk X.prog X.w X.K X.mg X.base CX0 k f fd ps sp) (hr : Room k X.A) (hb : Binds X.K fd ps []) (ha : PA X (e :: es) t)
    (hst : starEach (e :: es) X.env = (false, eval e X.env) :: starEach es X.env := by rfl) (hpl : (backTo pos (starEach es X.env)).any (·.1) = false := by rfl) (hdb : (x == ("__debug__" : Str)) = false := by decide)
    (ht : eval (.Call (.Attribute (.Name x p1) m apos) (e :: es) [] pos) X.env = (do
      let ov ← eval (.Name x p1) X.env
      standAt apos.atName
      let (f, first) ← holding [ov] (getMethod ov m pl)
      callWith pos f first (backTo pos (starEach (e :: es) X.env)) (backToKw pos (keywordEach [] X.env))) := by rfl) :
    PE X (.Call (.Attribute (.Name x p1) m apos) (e :: es) [] pos) (tCall sp [] E0 t) := by
  refine ⟨fun pins s σ H Q I h => ?_⟩
  refine PySem.W.methodCall_KW (pl := pl) (ld_glob I hg hm ?_ hdb) ht
  refine PySem.W.method_cls I.kIn r.ga (ClX.getcval_ok I r cv fun s2 I2 => ?_)
  exact PySem.W.callWith_K (first := []) (h₀ := X.base) I.ok.mod.kin kp (thn (ha.run pos pins s2 σ H _ I2 h) fun us s3 ⟨vs, H2, I3, r3, q2⟩ => ⟨I3.kIn, run_fn (us := us) (vs := vs) F hr hb .nil pass0 I3 r3 q2⟩) hst hpl
end
/-- the rest of a body, read as a pure def -/
theorem rest_P {K : PySem.W.Frag} {cls : String → Addr} {N : List Str} {n kk : Nat} {vs : List V} {H : Hp} {Q : VK} {E : XK} {t : TS} {s : State → Out} {m : List D → Option D} (hn : N.length = n) (hps : kk ≤ n) (hmm : m = runP n kk s) (h2 : Sts ⟨K, cls⟩ E0 t s) (h : spP ⟨K, cls⟩ m vs H Q E) :
    t { nx := fun _ H' => Q .non H', rt := Q } (start N vs) H := by
  subst hn hmm
  obtain ⟨L, ds, d, dm, r, hm, q⟩ := h
  unfold runP at hm
  split at hm
  · rename_i hl
    have hvl : vs.length = kk := by rw [r.len, hl]
    have R := inP_rel (N := N) dm r (by omega)
    rw [hvl] at R
    refine h2 _ _ _ _ _ _ _ R ?_
    split at hm
    · rename_i d' β hs
      cases hm
      rw [hs]
      intro v L' S' σ' H' R' rr
      exact q v H' R'.md.same (Rep.mono (fz_anti R'.l0) _ _ rr)
    · rename_i xs β hs
      cases hm
      rw [hs]
      intro v L' S' σ' H' R' rr
      obtain ⟨p, us, rfl, n0, hp, r2⟩ := rr
      refine q _ H' R'.md.same ⟨p, us, rfl, .inl (.inl (fz_new (fun m => R'.d0 p m n0) hp)), r2.up (fz_anti fun a m => List.mem_cons_of_mem _ (R'.l0 a m))⟩
    · rename_i β hs
      cases hm
      rw [hs]
      intro L' S' σ' H' _ R'
      exact q _ H' R'.md.same rfl
    · cases hm
  · cases hm
end Ab
end
section
set_option maxRecDepth 100000
set_option maxHeartbeats 400000
namespace W_k21
open PySem L2 PyProof.Rows PySem.Spec Ab
def topS (i : Nat) : Stmt := PySem.Challenge.pw_figurebook_k21_choices_packed.main.body.getD i (.Pass ⟨0, 0, 0, 0⟩)
def clsS (i j : Nat) : Stmt := match topS i with | .ClassDef (body := b) .. => b.getD j (.Pass ⟨0, 0, 0, 0⟩) | _ => .Pass ⟨0, 0, 0, 0⟩
def serD (c : String) (gs ms ws : List D) : D := .ins c [("gone", .lst gs), ("made", .lst ms), ("weights", .lst ws)]
def growLoop (wt new : List D → Option D) (c : String) : List D → List D → List D → List D → Option (List D)
  | [], _, ms, _ => some ms
  | x :: xs, gs, ms, ws => match wt [serD c (gs ++ [x]) ms ws, .int gs.length] with
    | some (.int u) => (match new [serD c (gs ++ [x]) ms (ws ++ [.int u]), .int gs.length] with | some (.int v) => growLoop wt new c xs (gs ++ [x]) (ms ++ [.int v]) (ws ++ [.int u]) | _ => none)
    | _ => none

structure Zs (mg : Str → Option Value) : Prop where
  z_bool : mg "bool" = none
  z_int : mg "int" = none
  z_isinstance : mg "isinstance" = none
  z_len : mg "len" = none
  z_list : mg "list" = none
  z_range : mg "range" = none
  z_sum : mg "sum" = none
abbrev s_divisors : Stmt := topS 1
abbrev N_divisors : List Str := ["n", "d"]
theorem sc_divisors : FnScope ["n", "d"] ["n"] (defScope s_divisors) := ⟨rfl, rfl, rfl, by decide +kernel, rfl, by decide +kernel, by decide +kernel⟩
def b_divisors : State → Out :=
      (sRetL (liftL (xLc [1] (xRng2 (aCons (xC (.int 1)) (aCons (x2 fAdd (xVar 0) (xC (.int 1))) aNil))) (gN 1) (asB (x2 fEq (x2 fMod (xVar 0) (xVar 1)) (xC (.int 0)))) (xVar 1))))
def m_divisors : List D → Option (List D) := runL 2 1 b_divisors
abbrev s_BagSeries_newest : Stmt := clsS 3 2
abbrev N_BagSeries_newest : List Str := ["self", "n", "k"]
theorem sc_BagSeries_newest : FnScope ["self", "n", "k"] ["self", "n"] (defScope s_BagSeries_newest) := ⟨rfl, rfl, rfl, by decide +kernel, rfl, by decide +kernel, by decide +kernel⟩
def b_BagSeries_newest : State → Out :=
      (sSeq (sIf (liftB (asB (x2 fEq (xVar 1) (xC (.int 0))))) (sRet (lift (xC (.int 1)))) sNext)
      (sRet (lift (x2 fDivW (xSum (xLc [2] (xRng2 (aCons (xC (.int 1)) (aCons (x2 fAdd (xVar 1) (xC (.int 1))) aNil))) (gN 2) tbYes (x2 fMulW (xIx (qL (xFld "ChoiceSeries" "weights" (xVar 0))) (xVar 2)) (xIx (qL (xFld "ChoiceSeries" "made" (xVar 0))) (x2 fSub (xVar 1) (xVar 2)))))) (xVar 1)))))
def m_BagSeries_newest : List D → Option D := runP 3 2 b_BagSeries_newest
abbrev s_ChoiceSeries_weight : Stmt := clsS 4 0
abbrev N_ChoiceSeries_weight : List Str := ["self", "k", "d"]
theorem sc_ChoiceSeries_weight : FnScope ["self", "k", "d"] ["self", "k"] (defScope s_ChoiceSeries_weight) := ⟨rfl, rfl, rfl, by decide +kernel, rfl, by decide +kernel, by decide +kernel⟩
def b_ChoiceSeries_weight : State → Out :=
      (sRet (lift (xSum (xLc [2] (fun α => bnd ((aCons (xVar 1) aNil) α) m_divisors) (gN 2) tbYes (x2 fMulW (x2 fMulW (xVar 2) (xIx (qL (xFld "ChoiceSeries" "gone" (xVar 0))) (xVar 2))) (x2 fSub (x2 fMulW (x2 fMod (x2 fDivW (xVar 1) (xVar 2)) (xC (.int 2))) (xC (.int 2))) (xC (.int 1))))))))
def m_ChoiceSeries_weight : List D → Option D := runP 3 2 b_ChoiceSeries_weight
def m_choice_counts : List D → Option (List D) := fun ds => match ds with
  | [.lst xs] => if xs.length ≤ 1000 ∧ xs.all flat = true then growLoop m_ChoiceSeries_weight m_BagSeries_newest "ChoiceSeries" xs [] [] [] else none
  | _ => none
abbrev s__law_whole : Stmt := topS 8
abbrev N__law_whole : List Str := ["_law_found"]
theorem sc__law_whole : FnScope ["_law_found"] ["_law_found"] (defScope s__law_whole) := ⟨rfl, rfl, rfl, by decide +kernel, rfl, by decide +kernel, by decide +kernel⟩
def b__law_whole : State → Out :=
      (sRet (lift (xB (tbAnd (asB (xCall fIsi (aCons (xVar 0) (aCons (xC (.ty "int")) aNil)))) (asB (xB (tbNot (asB (xCall fIsi (aCons (xVar 0) (aCons (xC (.ty "bool")) aNil)))))))))))
def m__law_whole : List D → Option D := runP 1 1 b__law_whole
abbrev s__law_is_row : Stmt := topS 9
abbrev N__law_is_row : List Str := ["_law_found", "_law_due", "_law_k"]
theorem sc__law_is_row : FnScope ["_law_found", "_law_due", "_law_k"] ["_law_found", "_law_due"] (defScope s__law_is_row) := ⟨rfl, rfl, rfl, by decide +kernel, rfl, by decide +kernel, by decide +kernel⟩
def bl__law_is_row_1 : State → Out :=
      (sIf (liftB (tbOr (tbNot (asB (xCall m__law_whole (aCons (xIx (qL (xVar 0)) (xVar 2)) aNil)))) (asB (x2 fNeQ (xIx (qL (xVar 0)) (xVar 2)) (xIx (qL (xVar 1)) (xVar 2)))))) (sRet (lift (xC (.bl false)))) sNext)
def b__law_is_row : State → Out :=
      (sSeq (sIf (liftB (tbOr (tbNot (asB (xCall fIsi (aCons (xVar 0) (aCons (xC (.ty "list")) aNil))))) (asB (x2 fNe (xLen (qL (xVar 0))) (xLen (qL (xVar 1))))))) (sRet (lift (xC (.bl false)))) sNext)
      (sSeq (sFor (xRng1 (aCons (xLen (qL (xVar 1))) aNil)) (gN 2)
      bl__law_is_row_1)
      (sRet (lift (xC (.bl true))))))
def m__law_is_row : List D → Option D := runP 3 2 b__law_is_row
abbrev s__law_amounts : Stmt := topS 10
abbrev N__law_amounts : List Str := ["_law_script", "_law_most", "_law_found", "_law_cell"]
theorem sc__law_amounts : FnScope ["_law_script", "_law_most", "_law_found", "_law_cell"] ["_law_script", "_law_most"] (defScope s__law_amounts) := ⟨rfl, rfl, rfl, by decide +kernel, rfl, by decide +kernel, by decide +kernel⟩
def bl__law_amounts_1 : State → Out :=
      (sIf (liftB (asB (x2 fEq (x2 fMod (xVar 3) (xC (.int 3))) (xC (.int 0))))) (sApp 2 (lift (x2 fMod (x2 fDiv (xVar 3) (xC (.int 3))) (xC (.int 4))))) (sIf (liftB (asB (x2 fEq (x2 fMod (xVar 3) (xC (.int 3))) (xC (.int 1))))) (sApp 2 (lift (xC (.int 0)))) (sApp 2 (lift (x2 fMod (x2 fDiv (xVar 3) (xC (.int 3))) (xVar 1))))))
def b__law_amounts : State → Out :=
      (sSeq (sSetL 2 (liftL (fun α => bnd ((aCons (xC (.int 0)) aNil) α) lenOk)))
      (sSeq (sFor (xSlL (qL (xVar 0)) (oSome (xC (.int 1))) (oSome (xC (.int 41)))) (gN 3)
      bl__law_amounts_1)
      (sRetO 2)))
def m__law_amounts : List D → Option (List D) := runL 4 2 b__law_amounts
abbrev s__law_packed : Stmt := topS 11
abbrev N__law_packed : List Str := ["_law_b", "_law_size", "_law_many", "_law_twins", "_law_found", "_law_ways", "_law_m", "_law_n"]
theorem sc__law_packed : FnScope ["_law_b", "_law_size", "_law_many", "_law_twins", "_law_found", "_law_ways", "_law_m", "_law_n"] ["_law_b", "_law_size", "_law_many", "_law_twins"] (defScope s__law_packed) := ⟨rfl, rfl, rfl, by decide +kernel, rfl, by decide +kernel, by decide +kernel⟩
def bl__law_packed_1 : State → Out :=
      (sSetI 4 (lift (x2 fAdd (xIx (qO 4) (xVar 7)) (x2 fMulW (xVar 5) (xIx (qL (xVar 0)) (x2 fSub (xVar 7) (x2 fMulW (xVar 6) (xVar 1))))))) (xVar 7))
def bl__law_packed_2 : State → Out :=
      (sSeq (sSet 5 (lift (x2 fDivW (x2 fMulW (xVar 5) (x2 fAdd (xVar 2) (x2 fMulW (x2 fSub (xVar 6) (xC (.int 1))) (xVar 3)))) (xVar 6))))
      (sFor (xRng2 (aCons (x2 fMulW (xVar 6) (xVar 1)) (aCons (xLen (qL (xVar 0))) aNil))) (gN 7)
      bl__law_packed_1))
def b__law_packed : State → Out :=
      (sSeq (sSetL 4 (liftL (qL (xVar 0))))
      (sSeq (sSet 5 (lift (xC (.int 1))))
      (sSeq (sFor (xRng2 (aCons (xC (.int 1)) (aCons (x2 fAdd (x2 fDivW (x2 fSub (xLen (qL (xVar 0))) (xC (.int 1))) (xVar 1)) (xC (.int 1))) aNil))) (gN 6)
      bl__law_packed_2)
      (sRetO 4))))
def m__law_packed : List D → Option (List D) := runL 8 4 b__law_packed
abbrev s__law_bags : Stmt := topS 12
abbrev N__law_bags : List Str := ["_law_a", "_law_twins", "_law_found", "_law_k", "_law_size"]
theorem sc__law_bags : FnScope ["_law_a", "_law_twins", "_law_found", "_law_k", "_law_size"] ["_law_a", "_law_twins"] (defScope s__law_bags) := ⟨rfl, rfl, rfl, by decide +kernel, rfl, by decide +kernel, by decide +kernel⟩
def bl__law_bags_1 : State → Out :=
      (sSet 2 (lift (xL (fun α => bnd ((aCons (xVar 2) (aCons (xVar 4) (aCons (xIx (qL (xVar 0)) (xVar 4)) (aCons (xVar 1) aNil)))) α) m__law_packed))))
def b__law_bags : State → Out :=
      (sSeq (sSet 2 (lift (xL (xCat (fun α => bnd ((aCons (xC (.int 1)) aNil) α) lenOk) (xLc [3] (xRng1 (aCons (x2 fSub (xLen (qL (xVar 0))) (xC (.int 1))) aNil)) (gN 3) tbYes (xC (.int 0)))))))
      (sSeq (sFor (xRng2 (aCons (xC (.int 1)) (aCons (xLen (qL (xVar 0))) aNil))) (gN 4)
      bl__law_bags_1)
      (sRet (lift (xVar 2)))))
def m__law_bags : List D → Option D := runP 5 2 b__law_bags
abbrev s_law : Stmt := topS 13
abbrev N_law : List Str := ["_law_script", "_law_a", "_law_due", "_law_handed", "_law_found"]
theorem sc_law : FnScope ["_law_script", "_law_a", "_law_due", "_law_handed", "_law_found"] ["_law_script"] (defScope s_law) := ⟨rfl, rfl, rfl, by decide +kernel, rfl, by decide +kernel, by decide +kernel⟩
def b_law : State → Out :=
      (sSeq (sSet 1 (lift (xL (fun α => bnd ((aCons (xVar 0) (aCons (x2 fPow (xC (.int 10)) (xC (.int 30))) aNil)) α) m__law_amounts))))
      (sSeq (sSet 2 (lift (xCall m__law_bags (aCons (xVar 1) (aCons (x1 fNeg (xC (.int 1))) aNil)))))
      (sSeq (sSet 3 (lift (xL (qL (xVar 1)))))
      (sSeq (sSetL 4 (liftL (fun α => bnd ((aCons (xVar 3) aNil) α) m_choice_counts)))
      (sSeq (sIf (liftB (tbOr (tbNot (asB (xLend 4 (xCall m__law_is_row (aCons (xVar 4) (aCons (xVar 2) aNil)))))) (asB (x2 fNeQ (xVar 3) (xVar 1))))) (sRet (lift (xC (.bl false)))) sNext)
      (sSeq (sApp 4 (lift (xC (.int 7))))
      (sRet (lift (xB (tbAnd (asB (xCall m__law_is_row (aCons (xL (fun α => bnd ((aCons (xVar 3) aNil) α) m_choice_counts)) (aCons (xVar 2) aNil)))) (asB (x2 fEqQ (xVar 3) (xVar 1)))))))))))))
def m_law : List D → Option D := runP 5 1 b_law
section
variable {P : Program} {w : World} {K : PySem.W.Frag} {mg : Str → Option Value} {base : Heap} {cls : String → Addr}
theorem ok_divisors {f : Addr} {fd : FuncData} (F : Fun K "divisors" "divisors" s_divisors f fd) (bF : Binds K fd ["n"] []) (gF : mg "divisors" = some (.ref f)) (Z : Zs mg) :
    Cal P w K mg base "divisors" ["n"] 1 (spL ⟨K, cls⟩ m_divisors) := by
  have nd := sc_divisors.nd
  refine ⟨f, fd, fn_L b_divisors F sc_divisors (n := 2) (kk := 1) rfl rfl (by decide) rfl (fun cdv A outer s0 H E hr => ?_), gF, F.kp, bF⟩
  refine ⟨_, (pss_one (ps_ret (pe_lc (own := [("d", 1)]) rfl nd (pi_range2 (by rfl) Z.z_range (pa_cons pe_int (pa_cons (pe_op op_add (pv 0) pe_int) pa_nil))) (blkOk_by (N := N_divisors) (sc := defScope s_divisors) (by decide +kernel)) (fun _ _ _ _ _ => (pg_name (i := 1) nd rfl (Or.inl rfl))) (fun _ _ _ _ _ => (pts_one (pt_cmpR op_eq (pe_op op_mod (pv 0) (pv 1)) pe_int (nomark _)))) (fun _ _ _ _ _ => (pv 1))))), ?_⟩
  exact (st_retL (ele_p (el_lc (vs := [1]) (ei_rng2 (ea_cons ev_int (ea_cons (ev_op rv_add (ev_var 0) ev_int) ea_nil))) (eg_name 1) (by decide) (et_test (ev_op rv_eq (ev_op rv_mod (ev_var 0) (ev_var 1)) ev_int)) (ev_var 1))))
theorem rest_BagSeries_newest {f : Addr} {fd : FuncData} (F : Fun K "newest" "BagSeries.newest" s_BagSeries_newest f fd) (bF : Binds K fd ["self", "n"] []) (Z : Zs mg) (kc_ChoiceSeries : Cls K (cls "ChoiceSeries")) (kn_ChoiceSeries_made : NoAttr K (cls "ChoiceSeries") "made") (kn_ChoiceSeries_weights : NoAttr K (cls "ChoiceSeries") "weights") (cdv : Value) (A : Around) (outer : List Env) (s0 : Shared) (H : Hp) (E : XK) (hr : Room 0 (A.deeper (envOfC "BagSeries.newest" (defScope s_BagSeries_newest) s0.heap.objs.size f cdv))) :
    ∃ t, PSs (cxOf CX0 P w K mg base N_BagSeries_newest "BagSeries.newest" (defScope s_BagSeries_newest) f cdv A outer s0 H E).nox ((defBody s_BagSeries_newest).drop 1) t ∧ Sts ⟨K, cls⟩ E0 t b_BagSeries_newest := by
  have nd := sc_BagSeries_newest.nd
  refine ⟨_, (pss_cons (ps_if (pt_cmpR op_eq (pv 1) pe_int (nomark _)) (pss_one (ps_ret pe_int)) pss_nil)
      (pss_one (ps_ret (pe_op op_fdivW (pe_callB (sum_q (K := K) rfl rfl) (by rfl) Z.z_sum PyProof.Rows.boot_sum (pa_cons (pe_lc (own := [("k", 2)]) rfl nd (pi_range2 (by rfl) Z.z_range (pa_cons pe_int (pa_cons (pe_op op_add (pv 1) pe_int) pa_nil))) (blkOk_by (N := N_BagSeries_newest) (sc := defScope s_BagSeries_newest) (by decide +kernel)) (fun _ _ _ _ _ => (pg_name (i := 2) nd rfl (Or.inl rfl))) (fun _ _ _ _ _ => pts_nil) (fun _ _ _ _ _ => (pe_op op_mulW (pe_ix (ixl (K := K) rfl) (pe_fldK (K := K) rfl (pv 0)) (pv 2) (fun _ _ => rfl)) (pe_ix (ixl (K := K) rfl) (pe_fldK (K := K) rfl (pv 0)) (pe_op op_sub (pv 1) (pv 2)) (fun _ _ => rfl))))) pa_nil)) (pv 1))))), ?_⟩
  exact (st_seq (st_if (ete_p (et_test (ev_op rv_eq (ev_var 1) ev_int))) (st_ret (ee_p ev_int)) st_next)
      (st_ret (ee_p (ev_op rv_divW (ev_sum (eq_n (el_lc (vs := [2]) (ei_rng2 (ea_cons ev_int (ea_cons (ev_op rv_add (ev_var 1) ev_int) ea_nil))) (eg_name 2) (by decide) et_yes (ev_op rv_mulW (ev_ixL (eq_l (ev_fld kc_ChoiceSeries kn_ChoiceSeries_weights (ev_var 0))) (ev_var 2)) (ev_ixL (eq_l (ev_fld kc_ChoiceSeries kn_ChoiceSeries_made (ev_var 0))) (ev_op rv_sub (ev_var 1) (ev_var 2))))))) (ev_var 1)))))
theorem ok_ChoiceSeries_weight {f : Addr} {fd : FuncData} (F : Fun K "weight" "ChoiceSeries.weight" s_ChoiceSeries_weight f fd) (bF : Binds K fd ["self", "k"] []) (Z : Zs mg) (C_divisors : Cal P w K mg base "divisors" ["n"] 1 (spL ⟨K, cls⟩ m_divisors)) (kc_ChoiceSeries : Cls K (cls "ChoiceSeries")) (kn_ChoiceSeries_gone : NoAttr K (cls "ChoiceSeries") "gone") :
    FnOk P w K mg base CX0 2 f fd ["self", "k"] (spP ⟨K, cls⟩ m_ChoiceSeries_weight) := by
  have nd := sc_ChoiceSeries_weight.nd
  refine fn_P b_ChoiceSeries_weight F sc_ChoiceSeries_weight (n := 3) (kk := 2) rfl rfl (by decide) rfl (fun cdv A outer s0 H E hr => ?_)
  refine ⟨_, (pss_one (ps_ret (pe_callB (sum_q (K := K) rfl rfl) (by rfl) Z.z_sum PyProof.Rows.boot_sum (pa_cons (pe_lc (own := [("d", 2)]) rfl nd (pil (K := K) rfl (pe_cal C_divisors hr (by first | omega | exact Nat.le_refl _ | exact Nat.le_trans (by decide) (Nat.le_add_right _ _)) rfl (pa_cons (pv 1) pa_nil))) (blkOk_by (N := N_ChoiceSeries_weight) (sc := defScope s_ChoiceSeries_weight) (by decide +kernel)) (fun _ _ _ _ _ => (pg_name (i := 2) nd rfl (Or.inl rfl))) (fun _ _ _ _ _ => pts_nil) (fun _ _ _ _ _ => (pe_op op_mulW (pe_op op_mulW (pv 2) (pe_ix (ixl (K := K) rfl) (pe_fldK (K := K) rfl (pv 0)) (pv 2) (fun _ _ => rfl))) (pe_op op_sub (pe_op op_mulW (pe_op op_mod (pe_op op_fdivW (pv 1) (pv 2)) pe_int) pe_int) pe_int)))) pa_nil)))), ?_⟩
  exact (st_ret (ee_p (ev_sum (eq_n (el_lc (vs := [2]) (ei_listL (el_call (ea_cons (ev_var 1) ea_nil))) (eg_name 2) (by decide) et_yes (ev_op rv_mulW (ev_op rv_mulW (ev_var 2) (ev_ixL (eq_l (ev_fld kc_ChoiceSeries kn_ChoiceSeries_gone (ev_var 0))) (ev_var 2))) (ev_op rv_sub (ev_op rv_mulW (ev_op rv_mod (ev_op rv_divW (ev_var 1) (ev_var 2)) ev_int) ev_int) ev_int)))))))
theorem ok__law_whole {f : Addr} {fd : FuncData} (F : Fun K "_law_whole" "_law_whole" s__law_whole f fd) (bF : Binds K fd ["_law_found"] []) (gF : mg "_law_whole" = some (.ref f)) (Z : Zs mg) :
    Cal P w K mg base "_law_whole" ["_law_found"] 1 (spP ⟨K, cls⟩ m__law_whole) := by
  have nd := sc__law_whole.nd
  refine ⟨f, fd, fn_P b__law_whole F sc__law_whole (n := 1) (kk := 1) rfl rfl (by decide) rfl (fun cdv A outer s0 H E hr => ?_), gF, F.kp, bF⟩
  refine ⟨_, (pss_one (ps_ret (pe_and (pe_callB (isi_q (K := K) rfl) (by rfl) Z.z_isinstance PyProof.Rows.boot_isinstance (pa_cons (pv 0) (pa_cons (pe_bltn (v := .ty "int") (by rfl) Z.z_int (by decide +kernel) rfl) pa_nil))) (pe_one (pe_not (pe_callB (isi_q (K := K) rfl) (by rfl) Z.z_isinstance PyProof.Rows.boot_isinstance (pa_cons (pv 0) (pa_cons (pe_bltn (v := .ty "bool") (by rfl) Z.z_bool (by decide +kernel) rfl) pa_nil)))))))), ?_⟩
  exact (st_ret (ee_p (ev_andV (ev_callB rc_isi (ea_cons (ev_var 0) (ea_cons ev_ty ea_nil))) (ev_notV (ev_callB rc_isi (ea_cons (ev_var 0) (ea_cons ev_ty ea_nil)))))))
theorem ok__law_is_row {f : Addr} {fd : FuncData} (F : Fun K "_law_is_row" "_law_is_row" s__law_is_row f fd) (bF : Binds K fd ["_law_found", "_law_due"] []) (gF : mg "_law_is_row" = some (.ref f)) (Z : Zs mg) (C__law_whole : Cal P w K mg base "_law_whole" ["_law_found"] 1 (spP ⟨K, cls⟩ m__law_whole)) :
    Cal P w K mg base "_law_is_row" ["_law_found", "_law_due"] 2 (spP ⟨K, cls⟩ m__law_is_row) := by
  have nd := sc__law_is_row.nd
  refine ⟨f, fd, fn_P b__law_is_row F sc__law_is_row (n := 3) (kk := 2) rfl rfl (by decide) rfl (fun cdv A outer s0 H E hr => ?_), gF, F.kp, bF⟩
  refine ⟨_, (pss_cons (ps_if (PW.pt (pw_or (pt_not (pt_val (pe_callB (isi_q (K := K) rfl) (by rfl) Z.z_isinstance PyProof.Rows.boot_isinstance (pa_cons (pv 0) (pa_cons (pe_bltn (v := .ty "list") (by rfl) Z.z_list (by decide +kernel) rfl) pa_nil))))) (pw_or1 (pt_cmpR op_ne (pe_callB (len_q (K := K) rfl) (by rfl) Z.z_len PySem.boot_len (pa_cons (pv 0) pa_nil)) (pe_callB (len_q (K := K) rfl) (by rfl) Z.z_len PySem.boot_len (pa_cons (pv 1) pa_nil)) (nomark _))))) (pss_one (ps_ret pe_bl)) pss_nil)
      (pss_cons (ps_for PassesOwn.never rfl (pi_range1 (by rfl) Z.z_range (pa_cons (pe_callB (len_q (K := K) rfl) (by rfl) Z.z_len PySem.boot_len (pa_cons (pv 1) pa_nil)) pa_nil)) (pg_name (i := 2) nd rfl (by first | exact Or.inl rfl | exact Or.inr rfl))
      (pss_one (ps_if (PW.pt (pw_or (pt_not (pt_val (pe_cal C__law_whole hr (by first | omega | exact Nat.le_refl _ | exact Nat.le_trans (by decide) (Nat.le_add_right _ _)) rfl (pa_cons (pe_ix (ixl (K := K) rfl) (pv 0) (pv 2) (fun _ _ => rfl)) pa_nil)))) (pw_or1 (pt_cmpR (ne_q (K := K) rfl (units_of hr)) (pe_ix (ixl (K := K) rfl) (pv 0) (pv 2) (fun _ _ => rfl)) (pe_ix (ixl (K := K) rfl) (pv 1) (pv 2) (fun _ _ => rfl)) (nomark _))))) (pss_one (ps_ret pe_bl)) pss_nil)))
      (pss_one (ps_ret pe_bl)))), ?_⟩
  exact (st_seq (st_if (ete_p (et_or (et_not (et_B (ev_callB rc_isi (ea_cons (ev_var 0) (ea_cons ev_ty ea_nil))))) (et_test (ev_op rv_ne (ev_lenL (eq_l (ev_var 0))) (ev_lenL (eq_l (ev_var 1))))))) (st_ret (ee_p ev_bl)) st_next)
      (st_seq (st_for (ei_rng1 (ea_cons (ev_lenL (eq_l (ev_var 1))) ea_nil)) (eg_name 2)
      (st_if (ete_p (et_or (et_not (et_B (ev_call (ea_cons (ev_ixL (eq_l (ev_var 0)) (ev_var 2)) ea_nil)))) (et_test (ev_op rv_neQ (ev_ixL (eq_l (ev_var 0)) (ev_var 2)) (ev_ixL (eq_l (ev_var 1)) (ev_var 2)))))) (st_ret (ee_p ev_bl)) st_next))
      (st_ret (ee_p ev_bl))))
theorem ok__law_amounts {f : Addr} {fd : FuncData} (F : Fun K "_law_amounts" "_law_amounts" s__law_amounts f fd) (bF : Binds K fd ["_law_script", "_law_most"] []) (gF : mg "_law_amounts" = some (.ref f)) (Z : Zs mg) :
    Cal P w K mg base "_law_amounts" ["_law_script", "_law_most"] 1 (spL ⟨K, cls⟩ m__law_amounts) := by
  have nd := sc__law_amounts.nd
  refine ⟨f, fd, fn_L b__law_amounts F sc__law_amounts (n := 4) (kk := 2) rfl rfl (by decide) rfl (fun cdv A outer s0 H E hr => ?_), gF, F.kp, bF⟩
  refine ⟨_, (pss_cons (ps_set (i := 2) nd rfl (by first | exact Or.inl rfl | exact Or.inr rfl) (pe_lst (pa_cons pe_int pa_nil)))
      (pss_cons (ps_for PassesOwn.never rfl (pil (K := K) rfl (pe_slice (sll (K := K) rfl) (pv 0) (po_some pe_int) (po_some pe_int))) (pg_name (i := 3) nd rfl (by first | exact Or.inl rfl | exact Or.inr rfl))
      (pss_one (ps_if (pt_cmpR op_eq (pe_op op_mod (pv 3) pe_int) pe_int (nomark _)) (pss_one (ps_expr (pe_bm PySem.F.plainAttrs_list PySem.F.slot_list_append PySem.F.type_list_append mt_append (pv 2) (pa_cons (pe_op op_mod (pe_op op_fdiv (pv 3) pe_int) pe_int) pa_nil)))) (pss_one (ps_if (pt_cmpR op_eq (pe_op op_mod (pv 3) pe_int) pe_int (nomark _)) (pss_one (ps_expr (pe_bm PySem.F.plainAttrs_list PySem.F.slot_list_append PySem.F.type_list_append mt_append (pv 2) (pa_cons pe_int pa_nil)))) (pss_one (ps_expr (pe_bm PySem.F.plainAttrs_list PySem.F.slot_list_append PySem.F.type_list_append mt_append (pv 2) (pa_cons (pe_op op_mod (pe_op op_fdiv (pv 3) pe_int) (pv 1)) pa_nil)))))))))
      (pss_one (ps_ret (pv 2))))), ?_⟩
  exact (st_seq (st_setL (i := 2) (ele_p (el_lst (ea_cons ev_int ea_nil))))
      (st_seq (st_for (ei_listL (el_slL (eq_l (ev_var 0)) (eo_some ev_int) (eo_some ev_int))) (eg_name 3)
      (st_if (ete_p (et_test (ev_op rv_eq (ev_op rv_mod (ev_var 3) ev_int) ev_int))) (st_app (i := 2) (ee_p (ev_op rv_mod (ev_op rv_div (ev_var 3) ev_int) ev_int))) (st_if (ete_p (et_test (ev_op rv_eq (ev_op rv_mod (ev_var 3) ev_int) ev_int))) (st_app (i := 2) (ee_p ev_int)) (st_app (i := 2) (ee_p (ev_op rv_mod (ev_op rv_div (ev_var 3) ev_int) (ev_var 1)))))))
      (st_retO 2)))
theorem ok__law_packed {f : Addr} {fd : FuncData} (F : Fun K "_law_packed" "_law_packed" s__law_packed f fd) (bF : Binds K fd ["_law_b", "_law_size", "_law_many", "_law_twins"] []) (gF : mg "_law_packed" = some (.ref f)) (Z : Zs mg) :
    Cal P w K mg base "_law_packed" ["_law_b", "_law_size", "_law_many", "_law_twins"] 1 (spL ⟨K, cls⟩ m__law_packed) := by
  have nd := sc__law_packed.nd
  refine ⟨f, fd, fn_L b__law_packed F sc__law_packed (n := 8) (kk := 4) rfl rfl (by decide) rfl (fun cdv A outer s0 H E hr => ?_), gF, F.kp, bF⟩
  refine ⟨_, (pss_cons (ps_set (i := 4) nd rfl (by first | exact Or.inl rfl | exact Or.inr rfl) (pe_callTy (list_q (K := K) rfl) (by rfl) Z.z_list (by decide +kernel) (pa_cons (pv 0) pa_nil)))
      (pss_cons (ps_set (i := 5) nd rfl (by first | exact Or.inl rfl | exact Or.inr rfl) pe_int)
      (pss_cons (ps_for PassesOwn.never rfl (pi_range2 (by rfl) Z.z_range (pa_cons pe_int (pa_cons (pe_op op_add (pe_op op_fdivW (pe_op op_sub (pe_callB (len_q (K := K) rfl) (by rfl) Z.z_len PySem.boot_len (pa_cons (pv 0) pa_nil)) pe_int) (pv 1)) pe_int) pa_nil))) (pg_name (i := 6) nd rfl (by first | exact Or.inl rfl | exact Or.inr rfl))
      (pss_cons (ps_set (i := 5) nd rfl (by first | exact Or.inl rfl | exact Or.inr rfl) (pe_op op_fdivW (pe_op op_mulW (pv 5) (pe_op op_add (pv 2) (pe_op op_mulW (pe_op op_sub (pv 6) pe_int) (pv 3)))) (pv 6)))
      (pss_one (ps_for PassesOwn.never rfl (pi_range2 (by rfl) Z.z_range (pa_cons (pe_op op_mulW (pv 6) (pv 1)) (pa_cons (pe_callB (len_q (K := K) rfl) (by rfl) Z.z_len PySem.boot_len (pa_cons (pv 0) pa_nil)) pa_nil))) (pg_name (i := 7) nd rfl (by first | exact Or.inl rfl | exact Or.inr rfl))
      (pss_one (ps_asg (pe_op op_add (pe_ix (ixl (K := K) rfl) (pv 4) (pv 7) (fun _ _ => rfl)) (pe_op op_mulW (pv 5) (pe_ix (ixl (K := K) rfl) (pv 0) (pe_op op_sub (pv 7) (pe_op op_mulW (pv 6) (pv 1))) (fun _ _ => rfl)))) (pg_sub (pv 4) (pv 7) set_list)))))))
      (pss_one (ps_ret (pv 4)))))), ?_⟩
  exact (st_seq (st_setL (i := 4) (ele_p (el_listL (eq_l (ev_var 0)))))
      (st_seq (st_set (i := 5) (ee_p ev_int))
      (st_seq (st_for (ei_rng2 (ea_cons ev_int (ea_cons (ev_op rv_add (ev_op rv_divW (ev_op rv_sub (ev_lenL (eq_l (ev_var 0))) ev_int) (ev_var 1)) ev_int) ea_nil))) (eg_name 6)
      (st_seq (st_set (i := 5) (ee_p (ev_op rv_divW (ev_op rv_mulW (ev_var 5) (ev_op rv_add (ev_var 2) (ev_op rv_mulW (ev_op rv_sub (ev_var 6) ev_int) (ev_var 3)))) (ev_var 6))))
      (st_for (ei_rng2 (ea_cons (ev_op rv_mulW (ev_var 6) (ev_var 1)) (ea_cons (ev_lenL (eq_l (ev_var 0))) ea_nil))) (eg_name 7)
      (st_setI (i := 4) (ee_p (ev_op rv_add (ev_ixL (eq_o 4) (ev_var 7)) (ev_op rv_mulW (ev_var 5) (ev_ixL (eq_l (ev_var 0)) (ev_op rv_sub (ev_var 7) (ev_op rv_mulW (ev_var 6) (ev_var 1))))))) (ev_var 7)))))
      (st_retO 4))))
theorem ok__law_bags {f : Addr} {fd : FuncData} (F : Fun K "_law_bags" "_law_bags" s__law_bags f fd) (bF : Binds K fd ["_law_a", "_law_twins"] []) (gF : mg "_law_bags" = some (.ref f)) (Z : Zs mg) (C__law_packed : Cal P w K mg base "_law_packed" ["_law_b", "_law_size", "_law_many", "_law_twins"] 1 (spL ⟨K, cls⟩ m__law_packed)) :
    Cal P w K mg base "_law_bags" ["_law_a", "_law_twins"] 2 (spP ⟨K, cls⟩ m__law_bags) := by
  have nd := sc__law_bags.nd
  refine ⟨f, fd, fn_P b__law_bags F sc__law_bags (n := 5) (kk := 2) rfl rfl (by decide) rfl (fun cdv A outer s0 H E hr => ?_), gF, F.kp, bF⟩
  refine ⟨_, (pss_cons (ps_set (i := 2) nd rfl (by first | exact Or.inl rfl | exact Or.inr rfl) (pe_op (cat_q (K := K) rfl) (pe_lst (pa_cons pe_int pa_nil)) (pe_lc (own := [("_law_k", 3)]) rfl nd (pi_range1 (by rfl) Z.z_range (pa_cons (pe_op op_sub (pe_callB (len_q (K := K) rfl) (by rfl) Z.z_len PySem.boot_len (pa_cons (pv 0) pa_nil)) pe_int) pa_nil)) (blkOk_by (N := N__law_bags) (sc := defScope s__law_bags) (by decide +kernel)) (fun _ _ _ _ _ => (pg_name (i := 3) nd rfl (Or.inl rfl))) (fun _ _ _ _ _ => pts_nil) (fun _ _ _ _ _ => pe_int))))
      (pss_cons (ps_for PassesOwn.never rfl (pi_range2 (by rfl) Z.z_range (pa_cons pe_int (pa_cons (pe_callB (len_q (K := K) rfl) (by rfl) Z.z_len PySem.boot_len (pa_cons (pv 0) pa_nil)) pa_nil))) (pg_name (i := 4) nd rfl (by first | exact Or.inl rfl | exact Or.inr rfl))
      (pss_one (ps_set (i := 2) nd rfl (by first | exact Or.inl rfl | exact Or.inr rfl) (pe_cal C__law_packed hr (by first | omega | exact Nat.le_refl _ | exact Nat.le_trans (by decide) (Nat.le_add_right _ _)) rfl (pa_cons (pv 2) (pa_cons (pv 4) (pa_cons (pe_ix (ixl (K := K) rfl) (pv 0) (pv 4) (fun _ _ => rfl)) (pa_cons (pv 1) pa_nil))))))))
      (pss_one (ps_ret (pv 2))))), ?_⟩
  exact (st_seq (st_set (i := 2) (ee_p (el_d (el_cat (eq_n (el_lst (ea_cons ev_int ea_nil))) (eq_n (el_lc (vs := [3]) (ei_rng1 (ea_cons (ev_op rv_sub (ev_lenL (eq_l (ev_var 0))) ev_int) ea_nil)) (eg_name 3) (by decide) et_yes ev_int))))))
      (st_seq (st_for (ei_rng2 (ea_cons ev_int (ea_cons (ev_lenL (eq_l (ev_var 0))) ea_nil))) (eg_name 4)
      (st_set (i := 2) (ee_p (el_d (el_call (ea_cons (ev_var 2) (ea_cons (ev_var 4) (ea_cons (ev_ixL (eq_l (ev_var 0)) (ev_var 4)) (ea_cons (ev_var 1) ea_nil)))))))))
      (st_ret (ee_p (ev_var 2)))))
theorem ok_law {f : Addr} {fd : FuncData} (F : Fun K "law" "law" s_law f fd) (bF : Binds K fd ["_law_script"] []) (gF : mg "law" = some (.ref f)) (Z : Zs mg) (C__law_amounts : Cal P w K mg base "_law_amounts" ["_law_script", "_law_most"] 1 (spL ⟨K, cls⟩ m__law_amounts)) (C__law_bags : Cal P w K mg base "_law_bags" ["_law_a", "_law_twins"] 2 (spP ⟨K, cls⟩ m__law_bags)) (C__law_is_row : Cal P w K mg base "_law_is_row" ["_law_found", "_law_due"] 2 (spP ⟨K, cls⟩ m__law_is_row)) (C_choice_counts : Cal P w K mg base "choice_counts" ["a"] 10 (spL ⟨K, cls⟩ m_choice_counts)) :
    FnOk P w K mg base CX0 11 f fd ["_law_script"] (spP ⟨K, cls⟩ m_law) := by
  have nd := sc_law.nd
  refine fn_P b_law F sc_law (n := 5) (kk := 1) rfl rfl (by decide) rfl (fun cdv A outer s0 H E hr => ?_)
  refine ⟨_, (pss_cons (ps_set (i := 1) nd rfl (by first | exact Or.inl rfl | exact Or.inr rfl) (pe_cal C__law_amounts hr (by first | omega | exact Nat.le_refl _ | exact Nat.le_trans (by decide) (Nat.le_add_right _ _)) rfl (pa_cons (pv 0) (pa_cons (pe_op op_pow pe_int pe_int) pa_nil))))
      (pss_cons (ps_set (i := 2) nd rfl (by first | exact Or.inl rfl | exact Or.inr rfl) (pe_cal C__law_bags hr (by first | omega | exact Nat.le_refl _ | exact Nat.le_trans (by decide) (Nat.le_add_right _ _)) rfl (pa_cons (pv 1) (pa_cons (pe_un un_neg pe_int) pa_nil))))
      (pss_cons (ps_set (i := 3) nd rfl (by first | exact Or.inl rfl | exact Or.inr rfl) (pe_callTy (list_q (K := K) rfl) (by rfl) Z.z_list (by decide +kernel) (pa_cons (pv 1) pa_nil)))
      (pss_cons (ps_set (i := 4) nd rfl (by first | exact Or.inl rfl | exact Or.inr rfl) (pe_cal C_choice_counts hr (by first | omega | exact Nat.le_refl _ | exact Nat.le_trans (by decide) (Nat.le_add_right _ _)) rfl (pa_cons (pv 3) pa_nil)))
      (pss_cons (ps_if (PW.pt (pw_or (pt_not (pt_val (pe_cal C__law_is_row hr (by first | omega | exact Nat.le_refl _ | exact Nat.le_trans (by decide) (Nat.le_add_right _ _)) rfl (pa_cons (pv 4) (pa_cons (pv 2) pa_nil))))) (pw_or1 (pt_cmpR (ne_q (K := K) rfl (units_of hr)) (pv 3) (pv 1) (nomark _))))) (pss_one (ps_ret pe_bl)) pss_nil)
      (pss_cons (ps_expr (pe_bm PySem.F.plainAttrs_list PySem.F.slot_list_append PySem.F.type_list_append mt_append (pv 4) (pa_cons pe_int pa_nil)))
      (pss_one (ps_ret (pe_and (pe_cal C__law_is_row hr (by first | omega | exact Nat.le_refl _ | exact Nat.le_trans (by decide) (Nat.le_add_right _ _)) rfl (pa_cons (pe_cal C_choice_counts hr (by first | omega | exact Nat.le_refl _ | exact Nat.le_trans (by decide) (Nat.le_add_right _ _)) rfl (pa_cons (pv 3) pa_nil)) (pa_cons (pv 2) pa_nil))) (pe_one (pe_cmpR (eq_q (K := K) rfl (units_of hr)) (pv 3) (pv 1) (nomark _)))))))))))), ?_⟩
  exact (st_seq (st_set (i := 1) (ee_p (el_d (el_call (ea_cons (ev_var 0) (ea_cons (ev_op rv_pow ev_int ev_int) ea_nil))))))
      (st_seq (st_set (i := 2) (ee_p (ev_call (ea_cons (ev_var 1) (ea_cons (ev_un ru_neg ev_int) ea_nil)))))
      (st_seq (st_set (i := 3) (ee_p (el_d (el_listL (eq_l (ev_var 1))))))
      (st_seq (st_setL (i := 4) (ele_p (el_call (ea_cons (ev_var 3) ea_nil))))
      (st_seq (st_if (ete_p (et_or (et_not (et_B (ev_lend 4 (ev_call (ea_cons (ev_var 4) (ea_cons (ev_var 2) ea_nil)))))) (et_test (ev_op rv_neQ (ev_var 3) (ev_var 1))))) (st_ret (ee_p ev_bl)) st_next)
      (st_seq (st_app (i := 4) (ee_p ev_int))
      (st_ret (ee_p (ev_andV (ev_call (ea_cons (el_d (el_call (ea_cons (ev_var 3) ea_nil))) (ea_cons (ev_var 2) ea_nil))) (ev_op rv_eqQ (ev_var 3) (ev_var 1)))))))))))
end
theorem all_mk {cls : String → Addr} {l : PySem.W.OpenLaw} {w : World} {K : PySem.W.Frag} {h : Heap} {mg : Str → Option Value} {fa f_divisors f__law_whole f__law_is_row f__law_amounts f__law_packed f__law_bags f_law : Addr} (X : K.In h) (G : h.Ns mainGlobals mg) (hfa : mg "law" = some (.ref fa))
    {od_divisors an_divisors od__law_whole an__law_whole od__law_is_row an__law_is_row od__law_amounts an__law_amounts od__law_packed an__law_packed od__law_bags an__law_bags od_law an_law : Option Addr} {sl_divisors sl__law_whole sl__law_is_row sl__law_amounts sl__law_packed sl__law_bags sl_law : Array (Option Value)} {oc_divisors kV_divisors dc_divisors pm_divisors cd_divisors ct_divisors oc__law_whole kV__law_whole dc__law_whole pm__law_whole cd__law_whole ct__law_whole oc__law_is_row kV__law_is_row dc__law_is_row pm__law_is_row cd__law_is_row ct__law_is_row oc__law_amounts kV__law_amounts dc__law_amounts pm__law_amounts cd__law_amounts ct__law_amounts oc__law_packed kV__law_packed dc__law_packed pm__law_packed cd__law_packed ct__law_packed oc__law_bags kV__law_bags dc__law_bags pm__law_bags cd__law_bags ct__law_bags oc_law kV_law dc_law pm_law cd_law ct_law : Value}
    (a_divisors : PySem.W.nsIn K mainGlobals "divisors" = some (some (.ref f_divisors))) (l_divisors : K.lookup f_divisors = some ⟨oc_divisors, od_divisors, .func (PySem.W.fnOf "divisors" "divisors" (defArgs s_divisors) (defBody s_divisors) (defScope s_divisors) .none kV_divisors dc_divisors pm_divisors an_divisors cd_divisors ct_divisors), sl_divisors⟩) (c_divisors : PySem.W.codeIn K cd_divisors "divisors" = true) (k_divisors : PySem.W.keepIn K (.ref f_divisors) = true)
    (a__law_whole : PySem.W.nsIn K mainGlobals "_law_whole" = some (some (.ref f__law_whole))) (l__law_whole : K.lookup f__law_whole = some ⟨oc__law_whole, od__law_whole, .func (PySem.W.fnOf "_law_whole" "_law_whole" (defArgs s__law_whole) (defBody s__law_whole) (defScope s__law_whole) .none kV__law_whole dc__law_whole pm__law_whole an__law_whole cd__law_whole ct__law_whole), sl__law_whole⟩) (c__law_whole : PySem.W.codeIn K cd__law_whole "_law_whole" = true) (k__law_whole : PySem.W.keepIn K (.ref f__law_whole) = true)
    (a__law_is_row : PySem.W.nsIn K mainGlobals "_law_is_row" = some (some (.ref f__law_is_row))) (l__law_is_row : K.lookup f__law_is_row = some ⟨oc__law_is_row, od__law_is_row, .func (PySem.W.fnOf "_law_is_row" "_law_is_row" (defArgs s__law_is_row) (defBody s__law_is_row) (defScope s__law_is_row) .none kV__law_is_row dc__law_is_row pm__law_is_row an__law_is_row cd__law_is_row ct__law_is_row), sl__law_is_row⟩) (c__law_is_row : PySem.W.codeIn K cd__law_is_row "_law_is_row" = true) (k__law_is_row : PySem.W.keepIn K (.ref f__law_is_row) = true)
    (a__law_amounts : PySem.W.nsIn K mainGlobals "_law_amounts" = some (some (.ref f__law_amounts))) (l__law_amounts : K.lookup f__law_amounts = some ⟨oc__law_amounts, od__law_amounts, .func (PySem.W.fnOf "_law_amounts" "_law_amounts" (defArgs s__law_amounts) (defBody s__law_amounts) (defScope s__law_amounts) .none kV__law_amounts dc__law_amounts pm__law_amounts an__law_amounts cd__law_amounts ct__law_amounts), sl__law_amounts⟩) (c__law_amounts : PySem.W.codeIn K cd__law_amounts "_law_amounts" = true) (k__law_amounts : PySem.W.keepIn K (.ref f__law_amounts) = true)
    (a__law_packed : PySem.W.nsIn K mainGlobals "_law_packed" = some (some (.ref f__law_packed))) (l__law_packed : K.lookup f__law_packed = some ⟨oc__law_packed, od__law_packed, .func (PySem.W.fnOf "_law_packed" "_law_packed" (defArgs s__law_packed) (defBody s__law_packed) (defScope s__law_packed) .none kV__law_packed dc__law_packed pm__law_packed an__law_packed cd__law_packed ct__law_packed), sl__law_packed⟩) (c__law_packed : PySem.W.codeIn K cd__law_packed "_law_packed" = true) (k__law_packed : PySem.W.keepIn K (.ref f__law_packed) = true)
    (a__law_bags : PySem.W.nsIn K mainGlobals "_law_bags" = some (some (.ref f__law_bags))) (l__law_bags : K.lookup f__law_bags = some ⟨oc__law_bags, od__law_bags, .func (PySem.W.fnOf "_law_bags" "_law_bags" (defArgs s__law_bags) (defBody s__law_bags) (defScope s__law_bags) .none kV__law_bags dc__law_bags pm__law_bags an__law_bags cd__law_bags ct__law_bags), sl__law_bags⟩) (c__law_bags : PySem.W.codeIn K cd__law_bags "_law_bags" = true) (k__law_bags : PySem.W.keepIn K (.ref f__law_bags) = true)
    (a_law : PySem.W.nsIn K mainGlobals "law" = some (some (.ref f_law))) (l_law : K.lookup f_law = some ⟨oc_law, od_law, .func (PySem.W.fnOf "law" "law" (defArgs s_law) (defBody s_law) (defScope s_law) .none kV_law dc_law pm_law an_law cd_law ct_law), sl_law⟩) (c_law : PySem.W.codeIn K cd_law "law" = true) (k_law : PySem.W.keepIn K (.ref f_law) = true)
    (zz_bool : PySem.W.nsIn K mainGlobals "bool" = some none)
    (zz_int : PySem.W.nsIn K mainGlobals "int" = some none)
    (zz_isinstance : PySem.W.nsIn K mainGlobals "isinstance" = some none)
    (zz_len : PySem.W.nsIn K mainGlobals "len" = some none)
    (zz_list : PySem.W.nsIn K mainGlobals "list" = some none)
    (zz_range : PySem.W.nsIn K mainGlobals "range" = some none)
    (zz_sum : PySem.W.nsIn K mainGlobals "sum" = some none)
    (X_choice_counts : ∀ base : Heap, K.In base → base.Ns mainGlobals mg → Cal l.prog w K mg base "choice_counts" ["a"] 10 (spL ⟨K, cls⟩ m_choice_counts))
    (goal : ∀ ns : List Int, ns.length ≤ 63 → m_law [.lst (ns.map .int)] = some (.bl true)) :
    ∃ fd : FuncData, (∀ (s : Shared) (v : Value), BindsTo s fd ⟨[v], []⟩ [("_law_script", v)]) ∧ ∀ base : Heap, K.In base → base.Ns mainGlobals mg → FnOk l.prog w K mg base CX0 11 fa fd ["_law_script"] (Ab.spLaw K) := by
  have e := hfa.symm.trans (PySem.W.mg_of X G a_law)
  cases e
  have Z : Zs mg := ⟨PySem.W.mg_none_of X G zz_bool, PySem.W.mg_none_of X G zz_int, PySem.W.mg_none_of X G zz_isinstance, PySem.W.mg_none_of X G zz_len, PySem.W.mg_none_of X G zz_list, PySem.W.mg_none_of X G zz_range, PySem.W.mg_none_of X G zz_sum⟩
  have F_divisors := fun_mk (st := s_divisors) l_divisors c_divisors k_divisors
  have b_divisors := F_divisors.binds (ps := ["n"]) fun _ _ _ _ _ _ us hl => match us, hl with | [_], _ => rfl
  have F__law_whole := fun_mk (st := s__law_whole) l__law_whole c__law_whole k__law_whole
  have b__law_whole := F__law_whole.binds (ps := ["_law_found"]) fun _ _ _ _ _ _ us hl => match us, hl with | [_], _ => rfl
  have F__law_is_row := fun_mk (st := s__law_is_row) l__law_is_row c__law_is_row k__law_is_row
  have b__law_is_row := F__law_is_row.binds (ps := ["_law_found", "_law_due"]) fun _ _ _ _ _ _ us hl => match us, hl with | [_, _], _ => rfl
  have F__law_amounts := fun_mk (st := s__law_amounts) l__law_amounts c__law_amounts k__law_amounts
  have b__law_amounts := F__law_amounts.binds (ps := ["_law_script", "_law_most"]) fun _ _ _ _ _ _ us hl => match us, hl with | [_, _], _ => rfl
  have F__law_packed := fun_mk (st := s__law_packed) l__law_packed c__law_packed k__law_packed
  have b__law_packed := F__law_packed.binds (ps := ["_law_b", "_law_size", "_law_many", "_law_twins"]) fun _ _ _ _ _ _ us hl => match us, hl with | [_, _, _, _], _ => rfl
  have F__law_bags := fun_mk (st := s__law_bags) l__law_bags c__law_bags k__law_bags
  have b__law_bags := F__law_bags.binds (ps := ["_law_a", "_law_twins"]) fun _ _ _ _ _ _ us hl => match us, hl with | [_, _], _ => rfl
  have F_law := fun_mk (st := s_law) l_law c_law k_law
  have b_law := F_law.binds (ps := ["_law_script"]) fun _ _ _ _ _ _ us hl => match us, hl with | [_], _ => rfl
  refine ⟨PySem.W.fnOf "law" "law" (defArgs s_law) (defBody s_law) (defScope s_law) .none kV_law dc_law pm_law an_law cd_law ct_law, fun s v => .of_eq rfl, fun base bI bN => ?_⟩
  have C_choice_counts := X_choice_counts base bI bN
  have C_divisors := ok_divisors (P := l.prog) (w := w) (base := base) (cls := cls) F_divisors b_divisors (PySem.W.mg_of X G a_divisors) Z  
  have C__law_whole := ok__law_whole (P := l.prog) (w := w) (base := base) (cls := cls) F__law_whole b__law_whole (PySem.W.mg_of X G a__law_whole) Z  
  have C__law_is_row := ok__law_is_row (P := l.prog) (w := w) (base := base) (cls := cls) F__law_is_row b__law_is_row (PySem.W.mg_of X G a__law_is_row) Z  C__law_whole
  have C__law_amounts := ok__law_amounts (P := l.prog) (w := w) (base := base) (cls := cls) F__law_amounts b__law_amounts (PySem.W.mg_of X G a__law_amounts) Z  
  have C__law_packed := ok__law_packed (P := l.prog) (w := w) (base := base) (cls := cls) F__law_packed b__law_packed (PySem.W.mg_of X G a__law_packed) Z  
  have C__law_bags := ok__law_bags (P := l.prog) (w := w) (base := base) (cls := cls) F__law_bags b__law_bags (PySem.W.mg_of X G a__law_bags) Z  C__law_packed
  exact Ab.law_of (ok_law (P := l.prog) (w := w) (base := base) (cls := cls) F_law b_law (PySem.W.mg_of X G a_law) Z  C__law_amounts C__law_bags C__law_is_row C_choice_counts) goal
-- LEVEL 11
end W_k21
end
section
set_option maxRecDepth 100000
set_option maxHeartbeats 1000000
namespace W_k21
open PySem L2 PyProof.Rows PySem.Spec Ab
def spInit (C : Addr) : Sp := fun vs H Q _ => ∃ p dx, vs = [.ref p] ∧ H p = some (.ins C dx []) ∧ ∀ g m H', (∀ a o, H a = some o → a ≠ p → H' a = some o) → H g = none → H m = none → g ≠ m → H' p = some (.ins C dx [("gone", .ref g), ("made", .ref m)]) →
  H' g = some (.lst []) → H' m = some (.lst []) → Q .non H'
abbrev s_init : Stmt := clsS 2 0
abbrev s_init3 : Stmt := clsS 3 0
abbrev s_grow : Stmt := clsS 2 1
abbrev s_grown : Stmt := topS 5
abbrev s_rows : Stmt := topS 6
theorem sc_init : FnScope ["self"] ["self"] (defScope s_init) := ⟨rfl, rfl, rfl, by decide +kernel, rfl, by decide +kernel, by decide +kernel⟩
theorem sc_init3 : FnScope ["self"] ["self"] (defScope s_init3) := ⟨rfl, rfl, rfl, by decide +kernel, rfl, by decide +kernel, by decide +kernel⟩
theorem sc_grow : FnScope ["self", "count", "fresh"] ["self", "count"] (defScope s_grow) := ⟨rfl, rfl, rfl, by decide +kernel, rfl, by decide +kernel, by decide +kernel⟩
theorem sc_grown : FnScope ["series", "a", "count"] ["series", "a"] (defScope s_grown) := ⟨rfl, rfl, rfl, by decide +kernel, rfl, by decide +kernel, by decide +kernel⟩
theorem sc_rows : FnScope ["a"] ["a"] (defScope s_rows) := ⟨rfl, rfl, rfl, by decide +kernel, rfl, by decide +kernel, by decide +kernel⟩
section
variable {P : Program} {w : World} {K : PySem.W.Frag} {mg : Str → Option Value} {base : Heap} {cls : String → Addr} {C : Addr}
theorem ok_init {f : Addr} {fd : FuncData} (F : Fun K "__init__" "Series.__init__" s_init f fd) (kc : Cls K C) (k1 : NoAttr K C "gone") (k2 : NoAttr K C "made") :
    FnOk P w K mg base CX0 1 f fd ["self"] (spInit C) := by
  have nd := sc_init.nd
  refine Fun.ok F sc_init (fun vs H Q E ⟨p, dx, h, _⟩ => by rw [h]; rfl) (fun cdv A outer s0 H vs Q E hr hsp => ?_)
  refine ⟨_, pss_cons (ps_fld (pv 0) (pe_lst pa_nil) rfl) (pss_one (ps_fld (pv 0) (pe_lst pa_nil) rfl)), ?_⟩
  obtain ⟨p, dx, rfl, hp, q⟩ := hsp
  refine ⟨Nat.zero_le _, fun g hg => ⟨_, rfl, p, C, dx, [], rfl, ?_, kc, k1, by decide, ?_⟩⟩
  · rw [upd_ne (ne_of_none hp hg)]; exact hp
  have hpg : p ≠ g := ne_of_none hp hg
  have e1 : putF "gone" (V.ref g) [] = [(("gone" : Str), V.ref g)] := rfl
  rw [e1]
  refine ⟨Nat.zero_le _, fun m hm => ⟨_, rfl, p, C, dx, [("gone", .ref g)], rfl, ?_, kc, k2, (by show 1 < 1000; decide), ?_⟩⟩
  · have : p ≠ m := by rintro rfl; rw [upd_same] at hm; cases hm
    rw [upd_ne this, upd_same]
  have hpm : p ≠ m := by rintro rfl; rw [upd_same] at hm; cases hm
  have hgm : g ≠ m := by rintro rfl; rw [upd_ne (Ne.symm hpm), upd_same] at hm; cases hm
  rw [upd_ne (Ne.symm hpm), upd_ne (Ne.symm hgm)] at hm
  have e2 : putF "made" (V.ref m) [(("gone" : Str), V.ref g)] = [(("gone" : Str), V.ref g), ("made", V.ref m)] := rfl
  rw [e2]
  refine q g m _ (fun a o ha hap => ?_) hg hm hgm upd_same ?_ ?_
  · rw [upd_ne hap, upd_ne (ne_of_none ha hm), upd_ne hap, upd_ne (ne_of_none ha hg)]; exact ha
  · rw [upd_ne (Ne.symm hpg), upd_ne hgm, upd_ne (Ne.symm hpg), upd_same]
  · rw [upd_ne (Ne.symm hpm), upd_same]
def spInit3 (C : Addr) : Sp := fun vs H Q _ => ∃ p dx, vs = [.ref p] ∧ H p = some (.ins C dx []) ∧ ∀ g m t H', (∀ a o, H a = some o → a ≠ p → H' a = some o) → H g = none → H m = none → H t = none → g ≠ m → g ≠ t → m ≠ t →
  H' p = some (.ins C dx [("gone", .ref g), ("made", .ref m), ("weights", .ref t)]) → H' g = some (.lst []) → H' m = some (.lst []) → H' t = some (.lst []) → Q .non H'
theorem ok_init3 {f fi C0 : Addr} {mc : Value} {fd fdi : FuncData} (F : Fun K "__init__" "BagSeries.__init__" s_init3 f fd) (kc : Cls K C) (k3 : NoAttr K C "weights") (gS : mg "Series" = some (.ref C0)) (rd : ClX.CRead K C0 mc) (cv : ClX.CVal K C0 mc "__init__" (.ref fi) (.ref fi))
    (kp : PySem.W.keepIn K (.ref fi) = true) (Fi : FnOk P w K mg base CX0 1 fi fdi ["self"] (spInit C)) (bi : Binds K fdi ["self"] []) :
    FnOk P w K mg base CX0 2 f fd ["self"] (spInit3 C) := by
  have nd := sc_init3.nd
  refine Fun.ok F sc_init3 (fun vs H Q E ⟨p, dx, h, _⟩ => by rw [h]; rfl) (fun cdv A outer s0 H vs Q E hr hsp => ?_)
  refine ⟨_, pss_cons (ps_expr (pe_cfun (x := "Series") rfl gS rd cv kp Fi (hr.mono (by first | omega | exact Nat.le_refl _)) bi (pa_cons (pv 0) pa_nil))) (pss_one (ps_fld (pv 0) (pe_lst pa_nil) rfl)), ?_⟩
  obtain ⟨p, dx, rfl, hp, q⟩ := hsp
  refine ⟨_, rfl, p, dx, rfl, hp, fun g m H1 hold hg hm hgm hp1 hg1 hm1 => ?_⟩
  refine ⟨Nat.zero_le _, fun t ht => ⟨_, rfl, p, C, dx, [("gone", .ref g), ("made", .ref m)], rfl, ?_, kc, k3, (by show 2 < 1000; decide), ?_⟩⟩
  · rw [upd_ne (ne_of_none hp1 ht)]; exact hp1
  have e2 : putF "weights" (V.ref t) [(("gone" : Str), V.ref g), ("made", V.ref m)] = [(("gone" : Str), V.ref g), ("made", V.ref m), ("weights", V.ref t)] := rfl
  rw [e2]
  have hpt : p ≠ t := ne_of_none hp1 ht
  have hgt : g ≠ t := ne_of_none hg1 ht
  have hmt : m ≠ t := ne_of_none hm1 ht
  have hpg : p ≠ g := ne_of_none hp hg
  have hpm : p ≠ m := ne_of_none hp hm
  have htH : H t = none := by
    cases hz : H t with
    | none => rfl
    | some o => rw [hold t o hz (Ne.symm hpt)] at ht; cases ht
  refine q g m t _ (fun a o ha hap => ?_) hg hm htH hgm hgt hmt upd_same ?_ ?_ ?_
  · rw [upd_ne hap, upd_ne (ne_of_none ha htH)]; exact hold a o ha hap
  · rw [upd_ne (Ne.symm hpg), upd_ne hgt]; exact hg1
  · rw [upd_ne (Ne.symm hpm), upd_ne hmt]; exact hm1
  · rw [upd_ne (Ne.symm hpt), upd_same]
def SerH (e : En) (c : String) (L : List Addr) (H : Hp) (p g m w : Addr) (gs ms ws : List D) : Prop :=
  ∃ dx vs us zs, H p = some (.ins (e.cls c) dx [("gone", .ref g), ("made", .ref m), ("weights", .ref w)]) ∧ H g = some (.lst vs) ∧ H m = some (.lst us) ∧ H w = some (.lst zs) ∧ Reps e (fz L H) gs vs ∧ Reps e (fz L H) ms us ∧ Reps e (fz L H) ws zs
/-- such an object as data, while nothing changes -/
theorem ser_rep {e : En} {c : String} {L : List Addr} {H H1 : Hp} {p g m w : Addr} {dx : Addr} {vs us zs : List V} {gs ms ws : List D} (s : Same (fz L H) H1) (h0 : H1 p = some (.ins (e.cls c) dx [("gone", .ref g), ("made", .ref m), ("weights", .ref w)])) (h1 : H1 g = some (.lst vs)) (h2 : H1 m = some (.lst us)) (h3 : H1 w = some (.lst zs))
    (r1 : Reps e (fz L H) gs vs) (r2 : Reps e (fz L H) ms us) (r3 : Reps e (fz L H) ws zs) : Rep e (fz [] H1) (serD c gs ms ws) (.ref p) := by
  have z : fz [] H1 = H1 := funext fun a => by unfold fz; rw [if_neg (by simp)]
  rw [z]
  exact ⟨p, dx, _, rfl, h0, .ref g, _, rfl, ⟨g, _, rfl, .inl (.inl h1), r1.up s⟩, .ref m, _, rfl, ⟨m, _, rfl, .inl (.inl h2), r2.up s⟩, .ref w, _, rfl, ⟨w, _, rfl, .inl (.inl h3), r3.up s⟩, rfl⟩
def spNew (e : En) (c : String) (wt new : List D → Option D) : Sp := fun vs H Q _ => ∃ L p g m t gs ms ws n u y, vs = [.ref p, .int n] ∧ Dom L H ∧ g ∈ L ∧ m ∈ L ∧ t ∈ L ∧ p ∈ L ∧ SerH e c L H p g m t gs ms ws ∧ g ≠ t ∧ m ≠ t ∧ ws.length ≤ 1000 ∧
  wt [serD c gs ms ws, .int n] = some (.int u) ∧ new [serD c gs ms (ws ++ [.int u]), .int n] = some (.int y) ∧ ∀ H', (∀ a o, H a = some o → a ≠ t → H' a = some o) → SerH e c L H' p g m t gs ms (ws ++ [.int u]) → Q (.int y) H'
theorem ok_newest {f fw : Addr} {fd fdw : FuncData} {wt : List D → Option D} (F : Fun K "newest" "BagSeries.newest" s_BagSeries_newest f fd) (bF : Binds K fd ["self", "n"] []) (Z : Zs mg) (kc : Cls K (cls "ChoiceSeries")) (k2 : NoAttr K (cls "ChoiceSeries") "made") (k3 : NoAttr K (cls "ChoiceSeries") "weights")
    (kw : Meth K (cls "ChoiceSeries") "weight" fw) (Fw : FnOk P w K mg base CX0 2 fw fdw ["self", "k"] (spP ⟨K, cls⟩ wt)) (bw : Binds K fdw ["self", "k"] []) :
    FnOk P w K mg base CX0 3 f fd ["self", "n"] (spNew ⟨K, cls⟩ "ChoiceSeries" wt m_BagSeries_newest) := by
  have nd := sc_BagSeries_newest.nd
  refine Fun.ok F sc_BagSeries_newest (fun vs H Q E hh => by obtain ⟨L, p, g, m, t, gs, ms, ws, n, u, y, h, _⟩ := hh; rw [h]; rfl) (fun cdv A outer s0 H vs Q E hr hsp => ?_)
  obtain ⟨tr, h1, h2⟩ := rest_BagSeries_newest (P := P) (w := w) (base := base) (cls := cls) F bF Z kc k2 k3 cdv A outer s0 H E (hr.mono (by decide))
  refine ⟨_, pss_cons (ps_expr (pe_bm PySem.F.plainAttrs_list PySem.F.slot_list_append PySem.F.type_list_append mt_append (pe_fldK (K := K) rfl (pv 0)) (pa_cons (pe_meth (pv 0) kc kw Fw (hr.mono (by first | omega | exact Nat.le_refl _)) bw .nil pass0 (pa_cons (pv 1) pa_nil)) pa_nil))) h1, ?_⟩
  obtain ⟨L, p, g, m, t, gs, ms, ws, n, u, y, rfl, dm, gL, mL, tL, pL, ⟨dx, vs, us, zs, hp, hg, hm, ht, rg, rm, rt⟩, hgt, hmt, lw, hw, hn, q⟩ := hsp
  have lzs := rt.len
  have hpt : p ≠ t := by rintro rfl; rw [hp] at ht; cases ht
  refine ⟨_, rfl, p, _, dx, _, .ref t, rfl, hp, kc, k3, rfl, .inl ⟨rfl, zs, .inl (.inl ht)⟩, ?_⟩
  refine ⟨_, rfl, p, dx, _, rfl, hp, rfl, _, rfl, ?_⟩
  refine ⟨[], [serD "ChoiceSeries" gs ms ws, .int n], .int u, (fun a ha => nomatch ha), Reps.cons (ser_rep fz_le hp hg hm ht rg rm rt) (Reps.cons rfl Reps.nil), hw, fun uv H1 e1 ru => ?_⟩
  cases ru
  have p1 := e1 _ _ hp
  have g1 := e1 _ _ hg
  have m1 := e1 _ _ hm
  have t1 := e1 _ _ ht
  refine ⟨t, zs, .int u, rfl, rfl, t1, Nat.lt_of_le_of_lt (show zs.length ≤ 1000 by omega) (by decide), ?_⟩
  have sL : Same (fz L H) (fz L (upd H1 t (.lst (zs ++ [.int u])))) := fz_mut fun a o ha hal => by
    rw [upd_ne (fun z => hal (by rw [z]; exact tL))]; exact e1 _ _ ha
  have s1 : Same (fz L H) (upd H1 t (.lst (zs ++ [.int u]))) := fun a o ha => fz_le _ _ (sL a o ha)
  refine rest_P (E := E) (K := K) (cls := cls) (N := N_BagSeries_newest) (n := 3) (kk := 2) rfl (by decide) rfl h2 ?_
  have r3 : Reps ⟨K, cls⟩ (fz L H) (ws ++ [.int u]) (zs ++ [.int u]) := rt.append (Reps.cons rfl Reps.nil)
  refine ⟨[], [serD "ChoiceSeries" gs ms (ws ++ [.int u]), .int n], .int y, (fun a ha => nomatch ha), Reps.cons (ser_rep s1 (by rw [upd_ne hpt]; exact p1) (by rw [upd_ne hgt]; exact g1) (by rw [upd_ne hmt]; exact m1) upd_same rg rm r3) (Reps.cons rfl Reps.nil), hn, fun yv H2 e2 ry => ?_⟩
  cases ry
  have sL2 : Same (fz L H) (fz L H2) := fun a o ha => fz_same e2 a o (sL a o ha)
  refine q H2 (fun a o ha hat => e2 _ _ (by rw [upd_ne hat]; exact e1 _ _ ha)) ⟨dx, vs, us, zs ++ [.int u], e2 _ _ (by rw [upd_ne hpt]; exact p1), e2 _ _ (by rw [upd_ne hgt]; exact g1), e2 _ _ (by rw [upd_ne hmt]; exact m1), e2 _ _ upd_same, rg.up sL2, rm.up sL2, r3.up sL2⟩
def spGrow (e : En) (c : String) (wt new : List D → Option D) : Sp := fun vs H Q _ => ∃ L p g m t gs ms ws x xv u y, vs = [.ref p, xv] ∧ Dom L H ∧ g ∈ L ∧ m ∈ L ∧ t ∈ L ∧ p ∈ L ∧ SerH e c L H p g m t gs ms ws ∧ Rep e (fz L H) x xv ∧ flat x = true ∧ g ≠ m ∧ g ≠ t ∧ m ≠ t ∧ gs.length ≤ 1000 ∧ ms.length ≤ 1000 ∧ ws.length ≤ 1000 ∧
  wt [serD c (gs ++ [x]) ms ws, .int gs.length] = some (.int u) ∧ new [serD c (gs ++ [x]) ms (ws ++ [.int u]), .int gs.length] = some (.int y) ∧ ∀ v H', (∀ a o, H a = some o → a ≠ g → a ≠ m → a ≠ t → H' a = some o) → SerH e c L H' p g m t (gs ++ [x]) (ms ++ [.int y]) (ws ++ [.int u]) → Q v H'
theorem ok_grow {f fn : Addr} {fd fdn : FuncData} {wt new : List D → Option D} (F : Fun K "grow" "Series.grow" s_grow f fd) (Z : Zs mg) (kc : Cls K (cls "ChoiceSeries")) (k1 : NoAttr K (cls "ChoiceSeries") "gone") (k2 : NoAttr K (cls "ChoiceSeries") "made")
    (kn : Meth K (cls "ChoiceSeries") "newest" fn) (Fn : FnOk P w K mg base CX0 3 fn fdn ["self", "n"] (spNew ⟨K, cls⟩ "ChoiceSeries" wt new)) (bn : Binds K fdn ["self", "n"] []) :
    FnOk P w K mg base CX0 4 f fd ["self", "count"] (spGrow ⟨K, cls⟩ "ChoiceSeries" wt new) := by
  have nd := sc_grow.nd
  refine Fun.ok F sc_grow (fun vs H Q E hh => by obtain ⟨L, p, g, m, t, gs, ms, ws, x, xv, u, y, h, _⟩ := hh; rw [h]; rfl) (fun cdv A outer s0 H vs Q E hr hsp => ?_)
  refine ⟨_, pss_cons (ps_expr (pe_bm PySem.F.plainAttrs_list PySem.F.slot_list_append PySem.F.type_list_append mt_append (pe_fldK (K := K) rfl (pv 0)) (pa_cons (pv 1) pa_nil)))
    (pss_cons (ps_set (i := 2) nd rfl (by first | exact Or.inl rfl | exact Or.inr rfl) (pe_meth (pv 0) kc kn Fn (hr.mono (by first | omega | exact Nat.le_refl _)) bn .nil pass0 (pa_cons (pe_op op_sub (pe_callB (len_q (K := K) rfl) (by rfl) Z.z_len PySem.boot_len (pa_cons (pe_fldK (K := K) rfl (pv 0)) pa_nil)) pe_int) pa_nil)))
    (pss_cons (ps_expr (pe_bm PySem.F.plainAttrs_list PySem.F.slot_list_append PySem.F.type_list_append mt_append (pe_fldK (K := K) rfl (pv 0)) (pa_cons (pv 2) pa_nil)))
    (pss_one (ps_ret (pv 2))))), ?_⟩
  obtain ⟨L, p, g, m, t, gs, ms, ws, x, xv, u, y, rfl, dm, gL, mL, tL, pL, ⟨dx, vs, us, zs, hp, hg, hm, ht, rg, rm, rt⟩, rx, fx, hgm, hgt, hmt, lg, lm, lw, hw, hn, q⟩ := hsp
  have hpg : p ≠ g := by rintro rfl; rw [hp] at hg; cases hg
  have hpm : p ≠ m := by rintro rfl; rw [hp] at hm; cases hm
  have lvs := rg.len
  have lus := rm.len
  have exv := rep_flat fx rx
  have s1 : Same (fz L H) (fz L (upd H g (.lst (vs ++ [xv])))) := fz_mut fun a o ha hal => by
    rw [upd_ne (fun z => hal (by rw [z]; exact gL))]; exact ha
  refine ⟨_, rfl, p, _, dx, _, .ref g, rfl, hp, kc, k1, rfl, .inl ⟨rfl, vs, .inl (.inl hg)⟩, _, rfl, g, vs, xv, rfl, rfl, hg, Nat.lt_of_le_of_lt (show vs.length ≤ 1000 by omega) (by decide), ?_⟩
  generalize hH1 : upd H g (.lst (vs ++ [xv])) = H1 at *
  have p1 : H1 p = some (.ins (cls "ChoiceSeries") dx [("gone", .ref g), ("made", .ref m), ("weights", .ref t)]) := by rw [← hH1, upd_ne hpg]; exact hp
  have g1 : H1 g = some (.lst (vs ++ [xv])) := by rw [← hH1, upd_same]
  have m1 : H1 m = some (.lst us) := by rw [← hH1, upd_ne (Ne.symm hgm)]; exact hm
  have t1 : H1 t = some (.lst zs) := by rw [← hH1, upd_ne (Ne.symm hgt)]; exact ht
  have dm1 : Dom L H1 := fun b hb => by
    by_cases h1 : b = g
    · rw [h1, g1]; simp
    · rw [← hH1, upd_ne h1]; exact dm b hb
  refine ⟨_, rfl, p, dx, _, rfl, p1, rfl, _, rfl, p, _, dx, _, .ref g, rfl, p1, kc, k1, rfl, g, vs ++ [xv], rfl, .inl (.inl (.inl g1)), _, _, rfl, rfl, ?_⟩
  have en : (((vs ++ [xv]).length : Int) - 1) = (gs.length : Int) := by
    rw [List.length_append, lvs]
    simp
  refine ⟨L, p, g, m, t, gs ++ [x], ms, ws, (((vs ++ [xv]).length : Int) - 1), u, y, rfl, dm1, gL, mL, tL, pL, ⟨dx, vs ++ [xv], us, zs, p1, g1, m1, t1, (rg.up s1).append (Reps.cons (rx.up s1) Reps.nil), rm.up s1, rt.up s1⟩, hgt, hmt, lw, by rw [en]; exact hw, by rw [en]; exact hn, fun H2 e2 hS2 => ?_⟩
  obtain ⟨dx2, vs2, us2, zs2, p2, g2, m2, t2, rg2, rm2, rt2⟩ := hS2
  refine ⟨_, rfl, p, _, dx2, _, .ref m, rfl, p2, kc, k2, rfl, .inl ⟨rfl, us2, .inl (.inl m2)⟩, _, rfl, m, us2, .int y, rfl, rfl, m2, Nat.lt_of_le_of_lt (show us2.length ≤ 1000 by have := rm2.len; omega) (by decide), ?_⟩
  refine ⟨.int y, rfl, ?_⟩
  have s3 : Same (fz L H2) (fz L (upd H2 m (.lst (us2 ++ [.int y])))) := fz_mut fun a o ha hal => by
    rw [upd_ne (fun z => hal (by rw [z]; exact mL))]; exact ha
  have hpm2 : p ≠ m := hpm
  have rint : Reps ⟨K, cls⟩ (fz L (upd H2 m (.lst (us2 ++ [.int y])))) [.int y] [.int y] := Reps.cons rfl Reps.nil
  refine q (.int y) _ (fun a o ha ag am at_ => ?_) ⟨dx2, vs2, us2 ++ [.int y], zs2, ?_, ?_, upd_same, ?_, rg2.up s3, (rm2.up s3).append rint, rt2.up s3⟩
  · rw [upd_ne am]
    exact e2 a o (by rw [← hH1, upd_ne ag]; exact ha) at_
  · rw [upd_ne hpm2]; exact p2
  · rw [upd_ne hgm]; exact g2
  · rw [upd_ne (Ne.symm hmt)]; exact t2
def spGrown (e : En) (c : String) (wt new : List D → Option D) : Sp := fun vs H Q _ => ∃ L p g m t xs av ys, vs = [.ref p, av] ∧ Dom L H ∧ g ∈ L ∧ m ∈ L ∧ t ∈ L ∧ p ∈ L ∧ SerH e c L H p g m t [] [] [] ∧ Rep e (fz L H) (.lst xs) av ∧ xs.all flat = true ∧ g ≠ m ∧ g ≠ t ∧ m ≠ t ∧ xs.length ≤ 1000 ∧
  growLoop wt new c xs [] [] [] = some ys ∧ ∀ q us H', (∀ a o, H a = some o → a ≠ g → a ≠ m → a ≠ t → H' a = some o) → H q = none → H' q = some (.lst us) → Reps e (fz (q :: L) H') ys us → Q (.ref q) H'
theorem ok_grown {f fg : Addr} {fd fdg : FuncData} {wt new : List D → Option D} (F : Fun K "grown" "grown" s_grown f fd) (bF : Binds K fd ["series", "a"] []) (gF : mg "grown" = some (.ref f)) (Z : Zs mg) (kc : Cls K (cls "ChoiceSeries")) (k1 : NoAttr K (cls "ChoiceSeries") "gone") (k2 : NoAttr K (cls "ChoiceSeries") "made")
    (kg : Meth K (cls "ChoiceSeries") "grow" fg) (Fg : FnOk P w K mg base CX0 4 fg fdg ["self", "count"] (spGrow ⟨K, cls⟩ "ChoiceSeries" wt new)) (bg : Binds K fdg ["self", "count"] []) :
    Cal P w K mg base "grown" ["series", "a"] 5 (spGrown ⟨K, cls⟩ "ChoiceSeries" wt new) := by
  have nd := sc_grown.nd
  refine ⟨f, fd, Fun.ok F sc_grown (fun vs H Q E hh => by obtain ⟨L, p, g, m, t, xs, av, ys, h, _⟩ := hh; rw [h]; rfl) (fun cdv A outer s0 H vs Q E hr hsp => ?_), gF, F.kp, bF⟩
  refine ⟨_, pss_cons (ps_for PassesOwn.never rfl (pil (K := K) rfl (pv 1)) (pg_name (i := 2) nd rfl (by first | exact Or.inl rfl | exact Or.inr rfl))
      (pss_one (ps_expr (pe_meth (pv 0) kc kg Fg (hr.mono (by first | omega | exact Nat.le_refl _)) bg .nil pass0 (pa_cons (pv 2) pa_nil)))))
    (pss_one (ps_ret (pe_callTy (list_q (K := K) rfl) (by rfl) Z.z_list (by decide +kernel) (pa_cons (pe_fldK (K := K) rfl (pv 0)) pa_nil)))), ?_⟩
  obtain ⟨L, p, g, m, t, xs, av, ys, rfl, dm, gL, mL, tL, pL, hS, ⟨a, vs, rfl, ha, ra⟩, hf, hgm, hgt, hmt, lx, hl, q⟩ := hsp
  have lvs := ra.len
  refine ⟨_, rfl, a, rfl, ⟨vs, fz_le.seq ha⟩, ?_⟩
  refine ⟨fun i k σ H1 => i + k = xs.length ∧ (σ.length = 3 ∧ σ[0]? = some (some (.ref p))) ∧ (∀ b o, H b = some o → b ≠ g → b ≠ m → b ≠ t → H1 b = some o) ∧ ∃ gs ms ws, gs.length = i ∧ ms.length = i ∧ ws.length = i ∧ SerH ⟨K, cls⟩ "ChoiceSeries" L H1 p g m t gs ms ws ∧ growLoop wt new "ChoiceSeries" (xs.drop i) gs ms ws = some ys,
    ⟨xs.length, by omega, ⟨rfl, rfl⟩, fun b o h _ _ _ => h, [], [], [], rfl, rfl, rfl, hS, by simpa using hl⟩, fun i k σ H1 ⟨hik, ⟨hσl, hσ⟩, hold, gs, ms, ws, lg, lm, lw, hS1, hl1⟩ => ?_⟩
  have sL : Same (fz L H) (fz L H1) := fz_mut fun b o hb hbl => hold b o hb (fun z => hbl (by rw [z]; exact gL)) (fun z => hbl (by rw [z]; exact mL)) (fun z => hbl (by rw [z]; exact tL))
  have dm1 : Dom L H1 := fun b hb => by
    obtain ⟨dx, vs, us, zs, _, h2, h3, h4, _⟩ := hS1
    by_cases e1 : b = g
    · rw [e1, h2]; simp
    · by_cases e2 : b = m
      · rw [e2, h3]; simp
      · by_cases e3 : b = t
        · rw [e3, h4]; simp
        · cases hb2 : H b with
          | none => exact absurd hb2 (dm b hb)
          | some o => rw [hold b o hb2 e1 e2 e3]; simp
  have ha1 : SqL K H1 a vs := fz_le.seq (sL.seq ha)
  by_cases hi : i < xs.length
  · right
    refine ⟨⟨vs, vs[i]'(by omega), ha1, List.getElem?_eq_getElem _⟩, fun σ' H' => ∃ m', m' < k ∧ (i + 1 + m' = xs.length ∧ (σ'.length = 3 ∧ σ'[0]? = some (some (.ref p))) ∧ (∀ b o, H b = some o → b ≠ g → b ≠ m → b ≠ t → H' b = some o) ∧ ∃ gs ms ws, gs.length = i + 1 ∧ ms.length = i + 1 ∧ ws.length = i + 1 ∧ SerH ⟨K, cls⟩ "ChoiceSeries" L H' p g m t gs ms ws ∧ growLoop wt new "ChoiceSeries" (xs.drop (i + 1)) gs ms ws = some ys), fun σ' H' h => h, fun x H' ⟨e, hy⟩ => ?_⟩
    subst e
    have hx := hy vs ha1
    obtain ⟨d, hd, rd⟩ := ra.getv hx
    rw [List.drop_eq_getElem_cons hi] at hl1
    have hdx : xs[i] = d := by rw [List.getElem?_eq_getElem hi] at hd; exact Option.some.inj hd
    rw [hdx] at hl1
    unfold growLoop at hl1
    cases hw : wt [serD "ChoiceSeries" (gs ++ [d]) ms ws, .int gs.length] with
    | none => rw [hw] at hl1; cases hl1
    | some u =>
      rw [hw] at hl1
      obtain ⟨ui, rfl⟩ : ∃ ui, u = .int ui := by cases u <;> first | exact ⟨_, rfl⟩ | cases hl1
      dsimp only at hl1
      cases hn : new [serD "ChoiceSeries" (gs ++ [d]) ms (ws ++ [.int ui]), .int gs.length] with
      | none => rw [hn] at hl1; cases hl1
      | some y =>
        rw [hn] at hl1
        obtain ⟨yi, rfl⟩ : ∃ yi, y = .int yi := by cases y <;> first | exact ⟨_, rfl⟩ | cases hl1
        have fd' : flat d = true := List.all_eq_true.mp hf d (by rw [← hdx]; exact List.getElem_mem hi)
        obtain ⟨dx, vs1, us1, zs1, hp1, hg1, hm1, ht1, rg1, rm1, rt1⟩ := id hS1
        have σ0 : (σ.set 2 (some x))[0]? = some (some (.ref p)) := by rw [List.getElem?_set_ne (by decide)]; exact hσ
        have hl3 : 2 < σ.length := by omega
        refine ⟨.ref p, σ0, p, dx, _, rfl, hp1, rfl, x, by rw [List.getElem?_set_self hl3], ?_⟩
        refine ⟨L, p, g, m, t, gs, ms, ws, d, x, ui, yi, rfl, dm1, gL, mL, tL, pL, hS1, rd.up sL, fd', hgm, hgt, hmt, by omega, by omega, by omega, hw, hn, fun v H2 hold2 hS2 => ?_⟩
        exact ⟨k - 1, by omega, by omega, ⟨by rw [List.length_set]; exact hσl, σ0⟩, fun b o hb b1 b2 b3 => hold2 b o (hold b o hb b1 b2 b3) b1 b2 b3, gs ++ [d], ms ++ [.int yi], ws ++ [.int ui], by simp [lg], by simp [lm], by simp [lw], hS2, hl1⟩
  · left
    have hdrop : xs.drop i = [] := List.drop_of_length_le (by omega)
    rw [hdrop] at hl1
    cases hl1
    refine ⟨⟨vs, ha1, by omega⟩, ?_⟩
    obtain ⟨dx, vs1, us1, zs1, hp1, hg1, hm1, ht1, rg1, rm1, rt1⟩ := hS1
    refine ⟨.ref p, hσ, p, _, dx, _, .ref m, rfl, hp1, kc, k2, rfl, m, us1, rfl, .inl (.inl (.inl hm1)), fun l hl => ?_⟩
    have hHl : H l = none := by
      cases hz : H l with
      | none => rfl
      | some o =>
        by_cases h1 : l = g
        · rw [h1, hg1] at hl; cases hl
        · by_cases h2 : l = m
          · rw [h2, hm1] at hl; cases hl
          · by_cases h3 : l = t
            · rw [h3, ht1] at hl; cases hl
            · rw [hold l o hz h1 h2 h3] at hl; cases hl
    refine q l us1 _ (fun b o hb b1 b2 b3 => ?_) hHl upd_same (rm1.up (fz_cons (fun b o hb => ?_) hl))
    · rw [upd_ne (ne_of_none hb hHl)]; exact hold b o hb b1 b2 b3
    · rw [upd_ne (ne_of_none hb hl)]; exact hb
theorem ok_rows {f fi : Addr} {fd fdi : FuncData} {wt new : List D → Option D} {mr : List D → Option (List D)} (F : Fun K "choice_counts" "choice_counts" s_rows f fd) (bF : Binds K fd ["a"] []) (gF : mg "choice_counts" = some (.ref f)) (Z : Zs mg)
    (kM : Mk K (cls "ChoiceSeries") fi) (Fi : FnOk P w K mg base CX0 2 fi fdi ["self"] (spInit3 (cls "ChoiceSeries"))) (bi : Binds K fdi ["self"] []) (gC : mg "ChoiceSeries" = some (.ref (cls "ChoiceSeries")))
    (Cg : Cal P w K mg base "grown" ["series", "a"] 5 (spGrown ⟨K, cls⟩ "ChoiceSeries" wt new))
    (hm : ∀ ds ys, mr ds = some ys → ∃ xs, ds = [.lst xs] ∧ xs.length ≤ 1000 ∧ xs.all flat = true ∧ growLoop wt new "ChoiceSeries" xs [] [] [] = some ys) :
    Cal P w K mg base "choice_counts" ["a"] 10 (spL ⟨K, cls⟩ mr) := by
  have nd := sc_rows.nd
  refine ⟨f, fd, Fun.ok F sc_rows (k := 9) (fun vs H Q E hh => by obtain ⟨L, ds, ys, dm, r, h, _⟩ := hh; obtain ⟨xs, rfl, _⟩ := hm _ _ h; exact r.len) (fun cdv A outer s0 H vs Q E hr hsp => ?_), gF, F.kp, bF⟩
  refine ⟨_, pss_one (ps_ret (pe_cal Cg hr (by decide) rfl (pa_cons (pe_make0 kM Fi (hr.mono (by decide)) rfl gC bi .nil pass0) (pa_cons (pv 0) pa_nil)))), ?_⟩
  obtain ⟨L, ds, ys, dm, r, h, q⟩ := hsp
  obtain ⟨xs, rfl, lx, hf, hl⟩ := hm _ _ h
  obtain ⟨av, _, rfl, ra, rfl⟩ := r
  intro x dx hx hdx hne
  refine ⟨x, dx, rfl, upd_same, fun g m t H2 hold hg hmm htt hgm hgt hmt hp2 hg2 hm2 ht2 => ⟨rfl, av, rfl, ?_⟩⟩
  have nx : ∀ b o, H b = some o → b ≠ x := fun b o hb => ne_of_none hb hx
  have ndx : ∀ b o, H b = some o → b ≠ dx := fun b o hb => ne_of_none hb hdx
  have up1 : ∀ b o, H b = some o → upd (upd H dx (.own x)) x (.ins (cls "ChoiceSeries") dx []) b = some o := fun b o hb => by rw [upd_ne (nx b o hb), upd_ne (ndx b o hb)]; exact hb
  have back : ∀ b, upd (upd H dx (.own x)) x (.ins (cls "ChoiceSeries") dx []) b = none → H b = none := fun b hb => by
    cases hz : H b with
    | none => rfl
    | some o => rw [up1 b o hz] at hb; cases hb
  have hgH := back g hg
  have hmH := back m hmm
  have htH := back t htt
  have all2 : Same H H2 := fun b o hb => hold b o (up1 b o hb) (nx b o hb)
  have sL : Same (fz L H) (fz (x :: g :: m :: t :: L) H2) := fun b o hb => by
    have hb' := fz_le b o hb
    unfold fz at hb ⊢
    split at hb
    · cases hb
    · rename_i hbl
      have h1 := nx b o hb'
      have h2 : b ≠ g := ne_of_none hb' hgH
      have h3 : b ≠ m := ne_of_none hb' hmH
      have h4 : b ≠ t := ne_of_none hb' htH
      rw [if_neg (by simp [h1, h2, h3, h4, hbl])]
      exact all2 b o hb
  refine ⟨x :: g :: m :: t :: L, x, g, m, t, xs, av, ys, rfl, fun b hb => ?_, by simp, by simp, by simp, by simp, ⟨dx, [], [], [], hp2, hg2, hm2, ht2, rfl, rfl, rfl⟩, ra.up sL, hf, hgm, hgt, hmt, lx, hl, fun qa us H3 hold3 hq hq3 rq => ?_⟩
  · rcases List.mem_cons.mp hb with rfl | hb
    · rw [hp2]; simp
    · rcases List.mem_cons.mp hb with rfl | hb
      · rw [hg2]; simp
      · rcases List.mem_cons.mp hb with rfl | hb
        · rw [hm2]; simp
        · rcases List.mem_cons.mp hb with rfl | hb
          · rw [ht2]; simp
          · cases hz : H b with
            | none => exact absurd hz (dm b hb)
            | some o => rw [all2 b o hz]; simp
  · have hqH : H qa = none := by
      cases hz : H qa with
      | none => rfl
      | some o => rw [all2 qa o hz] at hq; cases hq
    refine q qa us H3 (fun b o hb => hold3 b o (all2 b o hb) (ne_of_none hb hgH) (ne_of_none hb hmH) (ne_of_none hb htH)) hqH hq3 (rq.up (fz_anti fun b hb => ?_))
    rcases List.mem_cons.mp hb with rfl | hb
    · simp
    · simp [hb]
end
theorem rows_mk {l : PySem.W.OpenLaw} {w : World} {K : PySem.W.Frag} {h : Heap} {mg : Str → Option Value} {C C0 f1 f2 f3 f4 f5 f6 f7 f8 : Addr} (X : K.In h) (G : h.Ns mainGlobals mg)
    {od1 an1 od2 an2 od3 an3 od4 an4 od5 an5 od6 an6 od7 an7 od8 an8 : Option Addr} {sl1 sl2 sl3 sl4 sl5 sl6 sl7 sl8 : Array (Option Value)} {oc1 kV1 dc1 pm1 cd1 ct1 oc2 kV2 dc2 pm2 cd2 ct2 oc3 kV3 dc3 pm3 cd3 ct3 oc4 kV4 dc4 pm4 cd4 ct4 oc5 kV5 dc5 pm5 cd5 ct5 oc6 kV6 dc6 pm6 cd6 ct6 oc7 kV7 dc7 pm7 cd7 ct7 oc8 kV8 dc8 pm8 cd8 ct8 : Value}
    (aC : PySem.W.nsIn K mainGlobals "ChoiceSeries" = some (some (.ref C))) (aC0 : PySem.W.nsIn K mainGlobals "Series" = some (some (.ref C0))) (rd : PySem.W.readsIn K C0 (.type "type") = true) (ga : PySem.W.specialIn K (.ref C0) "__getattribute__" = some (some (.builtin "type.__getattribute__")))
    (pg : PySem.W.plainGet K C Str.empty = true) (hd : PySem.W.hasDictIn K C = true) (po : PySem.W.plainOver K C = true) (sa : PySem.W.findIn K (.ref C) "__setattr__" = some (some (.builtin "object.__setattr__"))) (mk : PySem.W.makesIn K C = true) (kc : PySem.W.keepIn K (.ref C) = true)
    (n1 : PySem.W.findIn K (.ref C) "gone" = some none) (n2 : PySem.W.findIn K (.ref C) "made" = some none) (n3 : PySem.W.findIn K (.ref C) "weights" = some none)
    (a1 : PySem.W.findIn K (.ref C) "__init__" = some (some (.ref f1))) (i1 : PySem.W.isFn K (.ref f1) = true) (l1 : K.lookup f1 = some ⟨oc1, od1, .func (PySem.W.fnOf "__init__" "BagSeries.__init__" (defArgs s_init3) (defBody s_init3) (defScope s_init3) .none kV1 dc1 pm1 an1 cd1 ct1), sl1⟩) (c1 : PySem.W.codeIn K cd1 "BagSeries.__init__" = true) (k1 : PySem.W.keepIn K (.ref f1) = true)
    (a2 : PySem.W.findIn K (.ref C) "grow" = some (some (.ref f2))) (i2 : PySem.W.isFn K (.ref f2) = true) (l2 : K.lookup f2 = some ⟨oc2, od2, .func (PySem.W.fnOf "grow" "Series.grow" (defArgs s_grow) (defBody s_grow) (defScope s_grow) .none kV2 dc2 pm2 an2 cd2 ct2), sl2⟩) (c2 : PySem.W.codeIn K cd2 "Series.grow" = true) (k2 : PySem.W.keepIn K (.ref f2) = true)
    (a3 : PySem.W.findIn K (.ref C) "newest" = some (some (.ref f3))) (i3 : PySem.W.isFn K (.ref f3) = true) (l3 : K.lookup f3 = some ⟨oc3, od3, .func (PySem.W.fnOf "newest" "BagSeries.newest" (defArgs s_BagSeries_newest) (defBody s_BagSeries_newest) (defScope s_BagSeries_newest) .none kV3 dc3 pm3 an3 cd3 ct3), sl3⟩) (c3 : PySem.W.codeIn K cd3 "BagSeries.newest" = true) (k3 : PySem.W.keepIn K (.ref f3) = true)
    (a4 : PySem.W.nsIn K mainGlobals "grown" = some (some (.ref f4))) (l4 : K.lookup f4 = some ⟨oc4, od4, .func (PySem.W.fnOf "grown" "grown" (defArgs s_grown) (defBody s_grown) (defScope s_grown) .none kV4 dc4 pm4 an4 cd4 ct4), sl4⟩) (c4 : PySem.W.codeIn K cd4 "grown" = true) (k4 : PySem.W.keepIn K (.ref f4) = true)
    (a5 : PySem.W.nsIn K mainGlobals "choice_counts" = some (some (.ref f5))) (l5 : K.lookup f5 = some ⟨oc5, od5, .func (PySem.W.fnOf "choice_counts" "choice_counts" (defArgs s_rows) (defBody s_rows) (defScope s_rows) .none kV5 dc5 pm5 an5 cd5 ct5), sl5⟩) (c5 : PySem.W.codeIn K cd5 "choice_counts" = true) (k5 : PySem.W.keepIn K (.ref f5) = true)
    (a6 : PySem.W.findIn K (.ref C) "weight" = some (some (.ref f6))) (i6 : PySem.W.isFn K (.ref f6) = true) (l6 : K.lookup f6 = some ⟨oc6, od6, .func (PySem.W.fnOf "weight" "ChoiceSeries.weight" (defArgs s_ChoiceSeries_weight) (defBody s_ChoiceSeries_weight) (defScope s_ChoiceSeries_weight) .none kV6 dc6 pm6 an6 cd6 ct6), sl6⟩) (c6 : PySem.W.codeIn K cd6 "ChoiceSeries.weight" = true) (k6 : PySem.W.keepIn K (.ref f6) = true)
    (a7 : PySem.W.nsIn K mainGlobals "divisors" = some (some (.ref f7))) (l7 : K.lookup f7 = some ⟨oc7, od7, .func (PySem.W.fnOf "divisors" "divisors" (defArgs s_divisors) (defBody s_divisors) (defScope s_divisors) .none kV7 dc7 pm7 an7 cd7 ct7), sl7⟩) (c7 : PySem.W.codeIn K cd7 "divisors" = true) (k7 : PySem.W.keepIn K (.ref f7) = true)
    (a8 : PySem.W.findCls K (.ref C0) (.type "type") "__init__" = some (.val (.ref f8))) (l8 : K.lookup f8 = some ⟨oc8, od8, .func (PySem.W.fnOf "__init__" "Series.__init__" (defArgs s_init) (defBody s_init) (defScope s_init) .none kV8 dc8 pm8 an8 cd8 ct8), sl8⟩) (c8 : PySem.W.codeIn K cd8 "Series.__init__" = true) (k8 : PySem.W.keepIn K (.ref f8) = true)
    (z1 : PySem.W.nsIn K mainGlobals "bool" = some none) (z2 : PySem.W.nsIn K mainGlobals "int" = some none) (z3 : PySem.W.nsIn K mainGlobals "isinstance" = some none) (z4 : PySem.W.nsIn K mainGlobals "len" = some none) (z5 : PySem.W.nsIn K mainGlobals "list" = some none) (z6 : PySem.W.nsIn K mainGlobals "range" = some none) (z7 : PySem.W.nsIn K mainGlobals "sum" = some none) :
    ∀ base : Heap, K.In base → base.Ns mainGlobals mg → Cal l.prog w K mg base "choice_counts" ["a"] 10 (spL ⟨K, fun _ => C⟩ m_choice_counts) := fun base _ _ => by
  have Z : Zs mg := ⟨PySem.W.mg_none_of X G z1, PySem.W.mg_none_of X G z2, PySem.W.mg_none_of X G z3, PySem.W.mg_none_of X G z4, PySem.W.mg_none_of X G z5, PySem.W.mg_none_of X G z6, PySem.W.mg_none_of X G z7⟩
  have F1 := fun_mk (st := s_init3) l1 c1 k1
  have F2 := fun_mk (st := s_grow) l2 c2 k2
  have F3 := fun_mk (st := s_BagSeries_newest) l3 c3 k3
  have F4 := fun_mk (st := s_grown) l4 c4 k4
  have F5 := fun_mk (st := s_rows) l5 c5 k5
  have F6 := fun_mk (st := s_ChoiceSeries_weight) l6 c6 k6
  have F7 := fun_mk (st := s_divisors) l7 c7 k7
  have F8 := fun_mk (st := s_init) l8 c8 k8
  have b1 := F1.binds (ps := ["self"]) fun _ _ _ _ _ _ us hl => match us, hl with | [_], _ => rfl
  have b2 := F2.binds (ps := ["self", "count"]) fun _ _ _ _ _ _ us hl => match us, hl with | [_, _], _ => rfl
  have b3 := F3.binds (ps := ["self", "n"]) fun _ _ _ _ _ _ us hl => match us, hl with | [_, _], _ => rfl
  have b4 := F4.binds (ps := ["series", "a"]) fun _ _ _ _ _ _ us hl => match us, hl with | [_, _], _ => rfl
  have b5 := F5.binds (ps := ["a"]) fun _ _ _ _ _ _ us hl => match us, hl with | [_], _ => rfl
  have b6 := F6.binds (ps := ["self", "k"]) fun _ _ _ _ _ _ us hl => match us, hl with | [_, _], _ => rfl
  have b7 := F7.binds (ps := ["n"]) fun _ _ _ _ _ _ us hl => match us, hl with | [_], _ => rfl
  have b8 := F8.binds (ps := ["self"]) fun _ _ _ _ _ _ us hl => match us, hl with | [_], _ => rfl
  have kC : Cls K C := ⟨pg, hd, po, sa⟩
  have Cd := ok_divisors (P := l.prog) (w := w) (base := base) (cls := fun _ => C) F7 b7 (PySem.W.mg_of X G a7) Z
  have G6 := ok_ChoiceSeries_weight (P := l.prog) (w := w) (base := base) (cls := fun _ => C) F6 b6 Z Cd kC n1
  have G3 := ok_newest (P := l.prog) (w := w) (base := base) (cls := fun _ => C) F3 b3 Z kC n2 n3 ⟨a6, i6, k6⟩ G6 b6
  have G2 := ok_grow (P := l.prog) (w := w) (base := base) (cls := fun _ => C) F2 Z kC n1 n2 ⟨a3, i3, k3⟩ G3 b3
  have C4 := ok_grown (P := l.prog) (w := w) (base := base) (cls := fun _ => C) F4 b4 (PySem.W.mg_of X G a4) Z kC n1 n2 ⟨a2, i2, k2⟩ G2 b2
  have G8 := ok_init (P := l.prog) (w := w) (mg := mg) (base := base) F8 kC n1 n2
  have G1 := ok_init3 (P := l.prog) (w := w) (mg := mg) (base := base) F1 kC n3 (PySem.W.mg_of X G aC0) ⟨rd, ga⟩ ⟨a8, rfl⟩ k8 G8 b8
  refine ok_rows (P := l.prog) (w := w) (base := base) (cls := fun _ => C) (wt := m_ChoiceSeries_weight) (new := m_BagSeries_newest) F5 b5 (PySem.W.mg_of X G a5) Z ⟨mk, a1, i1, kc⟩ G1 b1 (PySem.W.mg_of X G aC) C4 fun ds ys hh => ?_
  unfold m_choice_counts at hh
  split at hh
  · split at hh
    · rename_i hc
      exact ⟨_, rfl, hc.1, hc.2, hh⟩
    · cases hh
  · cases hh
end W_k21
end
section
namespace PowS
/-- the sum of f i, i < n -/
def sm (f : Nat → Int) : Nat → Int
  | 0 => 0
  | n + 1 => sm f n + f n
theorem sm_congr {f g : Nat → Int} : ∀ {n : Nat}, (∀ i, i < n → f i = g i) → sm f n = sm g n
  | 0, _ => rfl
  | n + 1, h => by
    show sm f n + f n = sm g n + g n
    rw [sm_congr fun i hi => h i (by omega), h n (by omega)]
theorem sm_add (f g : Nat → Int) : ∀ n, sm (fun i => f i + g i) n = sm f n + sm g n
  | 0 => rfl
  | n + 1 => by
    show sm _ n + (f n + g n) = (sm f n + f n) + (sm g n + g n)
    rw [sm_add f g n]; omega
theorem sm_mul (c : Int) (f : Nat → Int) : ∀ n, sm (fun i => c * f i) n = c * sm f n
  | 0 => by simp [sm]
  | n + 1 => by
    show sm _ n + c * f n = c * (sm f n + f n)
    rw [sm_mul c f n, Int.mul_add]
theorem sm_mulr (c : Int) (f : Nat → Int) (n : Nat) : sm (fun i => f i * c) n = sm f n * c := by
  rw [Int.mul_comm (sm f n) c, ← sm_mul]
  exact sm_congr fun i _ => Int.mul_comm _ _
theorem sm_zero : ∀ n, sm (fun _ => 0) n = 0
  | 0 => rfl
  | n + 1 => by show sm _ n + 0 = 0; rw [sm_zero n]; rfl
/-- the first one apart -/
theorem sm_first (f : Nat → Int) : ∀ n, sm f (n + 1) = f 0 + sm (fun i => f (i + 1)) n
  | 0 => by simp [sm]
  | n + 1 => by
    show sm f (n + 1) + f (n + 1) = f 0 + (sm (fun i => f (i + 1)) n + f (n + 1))
    rw [sm_first f n]; omega
theorem sm_rev (f : Nat → Int) : ∀ n, sm (fun i => f (n - 1 - i)) n = sm f n
  | 0 => rfl
  | n + 1 => by
    rw [sm_first]
    show f (n + 1 - 1 - 0) + sm (fun i => f (n + 1 - 1 - (i + 1))) n = sm f n + f n
    have : sm (fun i => f (n + 1 - 1 - (i + 1))) n = sm f n := by
      rw [← sm_rev f n]
      exact sm_congr fun i hi => by congr 1; omega
    rw [this]
    have e : n + 1 - 1 - 0 = n := by omega
    rw [e]; omega
/-- a triangle by its other side -/
theorem sm_tri (F : Nat → Nat → Int) : ∀ N, sm (fun i => sm (fun j => F i j) (i + 1)) N = sm (fun j => sm (fun k => F (j + k) j) (N - j)) N
  | 0 => rfl
  | N + 1 => by
    show sm _ N + sm (fun j => F N j) (N + 1) = sm (fun j => sm (fun k => F (j + k) j) (N + 1 - j)) N + sm (fun k => F (N + k) N) (N + 1 - N)
    rw [sm_tri F N]
    have h1 : sm (fun j => sm (fun k => F (j + k) j) (N + 1 - j)) N = sm (fun j => sm (fun k => F (j + k) j) (N - j) + F N j) N :=
      sm_congr fun j hj => by
        have : N + 1 - j = (N - j) + 1 := by omega
        rw [this]
        show sm _ (N - j) + F (j + (N - j)) j = _
        rw [show j + (N - j) = N by omega]
    have h2 : sm (fun k => F (N + k) N) (N + 1 - N) = F N N := by
      rw [show N + 1 - N = 1 by omega]
      show (0 : Int) + F (N + 0) N = _
      rw [Int.zero_add]; rfl
    rw [h1, h2, sm_add]
    show _ + (sm (fun j => F N j) N + F N N) = _
    exact (Int.add_assoc _ _ _).symm
/-- the product of two series -/
def cv (f g : Nat → Int) (n : Nat) : Int := sm (fun i => f i * g (n - i)) (n + 1)
theorem cv_comm (f g : Nat → Int) (n : Nat) : cv f g n = cv g f n := by
  unfold cv
  rw [← sm_rev]
  refine sm_congr fun i hi => ?_
  rw [Int.mul_comm, show n + 1 - 1 - i = n - i by omega, show n - (n - i) = i by omega]
theorem cv_assoc (f g h : Nat → Int) (n : Nat) : cv (cv f g) h n = cv f (cv g h) n := by
  unfold cv
  have e1 : sm (fun i => sm (fun j => f j * g (i - j)) (i + 1) * h (n - i)) (n + 1) = sm (fun i => sm (fun j => f j * g (i - j) * h (n - i)) (i + 1)) (n + 1) :=
    sm_congr fun i _ => (sm_mulr _ _ _).symm
  rw [e1, sm_tri fun i j => f j * g (i - j) * h (n - i)]
  refine sm_congr fun j hj => ?_
  rw [← sm_mul, show n + 1 - j = n - j + 1 by omega]
  refine sm_congr fun k hk => ?_
  rw [show j + k - j = k by omega, show n - (j + k) = n - j - k by omega, Int.mul_assoc]
theorem cv_add (f g h : Nat → Int) (n : Nat) : cv (fun k => f k + g k) h n = cv f h n + cv g h n := by
  unfold cv
  rw [← sm_add]
  exact sm_congr fun i _ => Int.add_mul _ _ _
/-- n f n -/
def dv (f : Nat → Int) (n : Nat) : Int := (n : Int) * f n
theorem dv_cv (f g : Nat → Int) (n : Nat) : dv (cv f g) n = cv (dv f) g n + cv f (dv g) n := by
  unfold dv cv
  rw [← sm_mul, ← sm_add]
  refine sm_congr fun i hi => ?_
  have e : (n : Int) = (i : Int) + ((n - i : Nat) : Int) := by omega
  rw [e, Int.add_mul, Int.mul_assoc, ← Int.mul_assoc (f i), Int.mul_comm (f i) ((n - i : Nat) : Int), Int.mul_assoc]
theorem cv_congr {f f' g g' : Nat → Int} (h1 : ∀ n, f n = f' n) (h2 : ∀ n, g n = g' n) (n : Nat) : cv f g n = cv f' g' n := sm_congr fun i _ => by rw [h1, h2]
/-- what a product's logarithm's derivative is -/
theorem log_cv {f g F G : Nat → Int} (hf : ∀ n, dv f n = cv F f n) (hg : ∀ n, dv g n = cv G g n) (n : Nat) : dv (cv f g) n = cv (fun k => F k + G k) (cv f g) n := by
  rw [dv_cv, cv_congr hf (fun _ => rfl), cv_congr (fun _ => rfl) hg, cv_add, cv_assoc]
  congr 1
  rw [← cv_assoc, cv_congr (cv_comm f G) (fun _ => rfl), cv_assoc]
/-- the ways of m things of a kinds, with twins: m E m = a (E 0 + .. + E (m - 1)) -/
theorem ways_sum {E : Nat → Int} {a : Int} (h : ∀ m : Nat, ((m : Int) + 1) * E (m + 1) = (a + (m : Int)) * E m) : ∀ m : Nat, (m : Int) * E m = a * sm E m
  | 0 => by simp [sm]
  | m + 1 => by
    show ((m + 1 : Nat) : Int) * E (m + 1) = a * (sm E m + E m)
    have e : ((m + 1 : Nat) : Int) = (m : Int) + 1 := by omega
    rw [e, h m, Int.add_mul, Int.mul_add, ← ways_sum h m, Int.add_comm]
/-- a series at the multiples of s -/
def spread (s : Nat) (E : Nat → Int) (n : Nat) : Int := if n % s = 0 then E (n / s) else 0
def step (s : Nat) (a : Int) (k : Nat) : Int := if k % s = 0 ∧ 0 < k then (s : Int) * a else 0
/-- a sum over the multiples of s -/
theorem sm_spread (s : Nat) (hs : 0 < s) (f : Nat → Int) : ∀ n, sm (fun i => if i % s = 0 then f (i / s) else 0) (n * s) = sm f n
  | 0 => by simp [sm]
  | n + 1 => by
    have hb : ∀ r, r ≤ s → sm (fun i => if i % s = 0 then f (i / s) else 0) (n * s + r) = sm f n + (if 0 < r then f n else 0) := fun r => by
      induction r with
      | zero => intro _; rw [Nat.add_zero, sm_spread s hs f n]; simp
      | succ r ih =>
        intro hr
        show sm _ (n * s + r) + (if (n * s + r) % s = 0 then f ((n * s + r) / s) else 0) = _
        rw [ih (by omega)]
        by_cases h0 : r = 0
        · subst h0
          rw [Nat.add_zero, Nat.mul_mod_left, Nat.mul_div_cancel _ hs]
          simp
        · have e1 : (n * s + r) % s = r := by rw [Nat.add_comm, Nat.add_mul_mod_self_right, Nat.mod_eq_of_lt (by omega)]
          rw [e1, if_neg h0, if_pos (by omega : 0 < r), if_pos (by omega : 0 < r + 1)]
          omega
    have := hb s (Nat.le_refl _)
    rw [if_pos hs] at this
    rw [Nat.add_mul, Nat.one_mul, this]
    rfl
theorem mod_sub {n i s : Nat} (hi : i ≤ n) (h1 : i % s = 0) : (n - i) % s = n % s := by
  obtain ⟨k, hk⟩ := Nat.dvd_of_mod_eq_zero h1
  subst hk
  rw [Nat.mul_comm] at hi ⊢
  obtain ⟨r, rfl⟩ : ∃ r, n = k * s + r := ⟨n - k * s, by omega⟩
  rw [Nat.add_sub_cancel_left, Nat.add_comm, Nat.add_mul_mod_self_right]
theorem log_spread {E : Nat → Int} {a : Int} {s : Nat} (hs : 0 < s) (h : ∀ m : Nat, ((m : Int) + 1) * E (m + 1) = (a + (m : Int)) * E m) (n : Nat) : dv (spread s E) n = cv (step s a) (spread s E) n := by
  rw [cv_comm]
  by_cases hn : n % s = 0
  · obtain ⟨m, hm⟩ := Nat.dvd_of_mod_eq_zero hn
    rw [Nat.mul_comm] at hm
    subst hm
    have e0 : sm (fun i => spread s E i * step s a (m * s - i)) (m * s) = sm (fun i => if i % s = 0 then (fun j => E j * ((s : Int) * a)) (i / s) else 0) (m * s) := sm_congr fun i hi => by
      unfold spread step
      by_cases h1 : i % s = 0
      · rw [if_pos h1, if_pos h1, if_pos ⟨by rw [mod_sub (by omega) h1]; exact hn, by omega⟩]
      · rw [if_neg h1, if_neg h1, Int.zero_mul]
    have e1 : cv (spread s E) (step s a) (m * s) = sm (fun i => spread s E i * step s a (m * s - i)) (m * s) + spread s E (m * s) * step s a (m * s - m * s) := rfl
    have e2 : step s a (m * s - m * s) = 0 := by unfold step; rw [Nat.sub_self, if_neg (by omega)]
    have e4 := sm_spread s hs (fun j => E j * ((s : Int) * a)) m
    rw [e1, e0, e4, e2, Int.mul_zero, Int.add_zero, sm_mulr]
    unfold dv spread
    rw [if_pos hn, Nat.mul_div_cancel _ hs]
    have := ways_sum h m
    have e3 : ((m * s : Nat) : Int) = (m : Int) * (s : Int) := Int.natCast_mul _ _
    rw [e3, Int.mul_comm (m : Int), Int.mul_assoc, this, Int.mul_comm (sm E m), Int.mul_assoc]
  · have e0 : cv (spread s E) (step s a) n = 0 := by
      unfold cv
      have : sm (fun i => spread s E i * step s a (n - i)) (n + 1) = sm (fun _ => 0) (n + 1) := sm_congr fun i hi => by
        unfold spread step
        by_cases h1 : i % s = 0
        · have h2 : ¬ ((n - i) % s = 0 ∧ 0 < n - i) := by
            rw [mod_sub (by omega) h1]; exact fun z => hn z.1
          rw [if_neg h2, Int.mul_zero]
        · rw [if_neg h1, Int.zero_mul]
      rw [this, sm_zero]
    rw [e0]
    unfold dv spread
    rw [if_neg hn, Int.mul_zero]
theorem sm_more {f : Nat → Int} {n : Nat} : ∀ (d : Nat), (∀ i, n ≤ i → i < n + d → f i = 0) → sm f (n + d) = sm f n
  | 0, _ => rfl
  | d + 1, h => by
    show sm f (n + d) + f (n + d) = sm f n
    rw [sm_more d fun i h1 h2 => h i h1 (by omega), h (n + d) (by omega) (by omega), Int.add_zero]
/-- the product with a spread series, written over the multiples -/
theorem cv_spread (s : Nat) (hs : 0 < s) (E b : Nat → Int) (n : Nat) : cv (spread s E) b n = sm (fun m => E m * b (n - m * s)) (n / s + 1) := by
  rw [← sm_spread s hs]
  have hdm := Nat.div_add_mod n s
  have hlt := Nat.mod_lt n hs
  have hcm : s * (n / s) = n / s * s := Nat.mul_comm _ _
  have hk : (n / s + 1) * s = (n + 1) + ((n / s + 1) * s - (n + 1)) := by
    rw [Nat.add_mul, Nat.one_mul]; omega
  have hz : ∀ i, n + 1 ≤ i → i < (n + 1) + ((n / s + 1) * s - (n + 1)) → (if i % s = 0 then E (i / s) * b (n - i / s * s) else 0) = 0 := fun i h1 h2 => by
    rw [← hk, Nat.add_mul, Nat.one_mul] at h2
    have hi : i % s ≠ 0 := fun z => by
      obtain ⟨k, rfl⟩ := Nat.dvd_of_mod_eq_zero z
      have h3 : n / s < k := by
        rcases Nat.lt_or_ge (n / s) k with h | h
        · exact h
        · have := Nat.mul_le_mul_left s h; omega
      have := Nat.mul_le_mul_left s (Nat.succ_le_of_lt h3)
      rw [Nat.mul_succ] at this
      omega
    rw [if_neg hi]
  rw [hk, sm_more _ hz]
  unfold cv
  refine sm_congr fun i hi => ?_
  unfold spread
  by_cases h : i % s = 0
  · rw [if_pos h, if_pos h]
    have : i / s * s = i := by rw [Nat.mul_comm]; have := Nat.div_add_mod i s; omega
    rw [this]
  · rw [if_neg h, if_neg h, Int.zero_mul]
def delta (n : Nat) : Int := if n = 0 then 1 else 0
/-- the sizes up to N packed -/
def pk (E : Nat → Nat → Int) : Nat → Nat → Int
  | 0 => delta
  | t + 1 => cv (spread (t + 1) (E (t + 1))) (pk E t)
def wsum (a : Nat → Int) (N k : Nat) : Int := sm (fun t => step (t + 1) (a (t + 1)) k) N
theorem log_pk {E : Nat → Nat → Int} {a : Nat → Int} (h : ∀ t m : Nat, ((m : Int) + 1) * E t (m + 1) = (a t + (m : Int)) * E t m) : ∀ (N n : Nat), dv (pk E N) n = cv (wsum a N) (pk E N) n
  | 0, n => by
    have e : cv (wsum a 0) (pk E 0) n = 0 := by
      unfold cv
      have : sm (fun i => wsum a 0 i * pk E 0 (n - i)) (n + 1) = sm (fun _ => 0) (n + 1) := sm_congr fun i _ => by
        show (0 : Int) * _ = 0
        rw [Int.zero_mul]
      rw [this, sm_zero]
    rw [e]
    show (n : Int) * delta n = 0
    unfold delta
    by_cases h0 : n = 0
    · subst h0; rfl
    · rw [if_neg h0, Int.mul_zero]
  | N + 1, n => by
    have := log_cv (log_spread (s := N + 1) (Nat.succ_pos N) (h (N + 1))) (log_pk h N) n
    show dv (cv (spread (N + 1) (E (N + 1))) (pk E N)) n = _
    rw [this]
    refine cv_congr (fun k => ?_) (fun _ => rfl) n
    show step (N + 1) (a (N + 1)) k + wsum a N k = wsum a N k + step (N + 1) (a (N + 1)) k
    exact Int.add_comm _ _
theorem pk_zero {E : Nat → Nat → Int} (h : ∀ t, E t 0 = 1) : ∀ N, pk E N 0 = 1
  | 0 => rfl
  | N + 1 => by
    show (0 : Int) + spread (N + 1) (E (N + 1)) 0 * pk E N (0 - 0) = 1
    rw [Nat.sub_self, pk_zero h N]
    unfold spread
    rw [Nat.zero_mod, if_pos rfl, Nat.zero_div, h]
    rfl
theorem wsum_zero (a : Nat → Int) : ∀ N, wsum a N 0 = 0 := fun N => by
  unfold wsum
  have : sm (fun t => step (t + 1) (a (t + 1)) 0) N = sm (fun _ => 0) N := sm_congr fun t _ => by
    unfold step; rw [if_neg (by omega)]
  rw [this, sm_zero]
/-- what the program divides -/
theorem quot {c P : Nat → Int} (h : ∀ n, dv P n = cv c P n) (h0 : c 0 = 0) {n : Nat} (hn : n ≠ 0) : sm (fun k => c (k + 1) * P (n - (k + 1))) n = (n : Int) * P n ∧ sm (fun k => c (k + 1) * P (n - (k + 1))) n / (n : Int) = P n := by
  have e : sm (fun k => c (k + 1) * P (n - (k + 1))) n = (n : Int) * P n := by
    have := h n
    unfold cv at this
    rw [sm_first, h0, Int.zero_mul, Int.zero_add] at this
    exact this.symm
  exact ⟨e, by rw [e, Int.mul_ediv_cancel_left _ (by omega)]⟩
/-- sizes beyond k add nothing to the weight of k -/
theorem wsum_more (a : Nat → Int) {k N : Nat} (h0 : 0 < k) (h : k ≤ N) : wsum a N k = wsum a k k := by
  obtain ⟨d, rfl⟩ : ∃ d, N = k + d := ⟨N - k, by omega⟩
  unfold wsum
  refine sm_more d fun i h1 h2 => ?_
  unfold step
  have : k % (i + 1) = k := Nat.mod_eq_of_lt (by omega)
  rw [if_neg (by rw [this]; omega)]
end PowS
end
section
namespace PowS
/-- m things of a kinds, with twins -/
def mchR (f : Nat → Int) : Nat → Int
  | 0 => 1
  | m + 1 => f (m + 1) + mchR f m
def mch : Nat → Nat → Int
  | 0 => fun m => match m with | 0 => 1 | _ + 1 => 0
  | a + 1 => mchR (mch a)
theorem mch_step : ∀ (a m : Nat), ((m : Int) + 1) * mch a (m + 1) = ((a : Int) + (m : Int)) * mch a m
  | 0, 0 => by simp [mch, mchR]
  | 0, m + 1 => by simp [mch, mchR]
  | a + 1, 0 => by
    have := mch_step a 0
    have h0 : mch a 0 = 1 := by cases a <;> rfl
    rw [h0, Int.mul_one] at this
    have h1 : mch (a + 1) 1 = mch a 1 + 1 := rfl
    have h2 : mch (a + 1) 0 = 1 := rfl
    rw [h1, h2]
    simp at this
    simp
    omega
  | a + 1, m + 1 => by
    have h1 := mch_step a (m + 1)
    have h2 := mch_step (a + 1) m
    have e1 : mch (a + 1) (m + 2) = mch a (m + 2) + mch (a + 1) (m + 1) := rfl
    have e2 : mch (a + 1) (m + 1) = mch a (m + 1) + mch (a + 1) m := rfl
    have e3 : mch a (m + 1) = mch (a + 1) (m + 1) - mch (a + 1) m := by omega
    rw [e1]
    rw [Int.mul_add]
    have h1' : (((m + 1 : Nat) : Int) + 1) * mch a (m + 2) = ((a : Int) + ((m + 1 : Nat) : Int)) * (mch (a + 1) (m + 1) - mch (a + 1) m) := by rw [← e3]; exact h1
    rw [h1']
    generalize mch (a + 1) (m + 1) = X at *
    generalize mch (a + 1) m = Y at *
    rw [Int.mul_sub]
    have e4 : ((a + 1 : Nat) : Int) + (m : Int) = (a : Int) + ((m + 1 : Nat) : Int) := by omega
    rw [e4] at h2
    rw [← h2]
    have e5 : ((a + 1 : Nat) : Int) + ((m + 1 : Nat) : Int) = ((a : Int) + ((m + 1 : Nat) : Int)) + 1 := by omega
    rw [e5, Int.add_mul (_ + _) 1 X, Int.add_mul ((m + 1 : Nat) : Int) 1 X]
    have e6 : ((m : Int) + 1) * X = ((m + 1 : Nat) : Int) * X := by congr 1
    rw [e6]
    generalize ((m + 1 : Nat) : Int) * X = u
    generalize ((a : Int) + ((m + 1 : Nat) : Int)) * X = v
    omega
/-- m things of a kinds, without twins -/
def cho : Nat → Nat → Int
  | _, 0 => 1
  | 0, _ + 1 => 0
  | a + 1, m + 1 => cho a (m + 1) + cho a m
theorem cho_step : ∀ (a m : Nat), ((m : Int) + 1) * cho a (m + 1) = ((a : Int) - (m : Int)) * cho a m
  | 0, 0 => by simp [cho]
  | 0, m + 1 => by simp [cho]
  | a + 1, 0 => by
    have := cho_step a 0
    simp only [cho] at this ⊢
    omega
  | a + 1, m + 1 => by
    have h1 := cho_step a (m + 1)
    have h2 := cho_step a m
    have e1 : cho (a + 1) (m + 2) = cho a (m + 2) + cho a (m + 1) := rfl
    have e2 : cho (a + 1) (m + 1) = cho a (m + 1) + cho a m := rfl
    rw [e1, e2, Int.mul_add, Int.mul_add]
    rw [h1]
    have e5 : ((a + 1 : Nat) : Int) - ((m + 1 : Nat) : Int) = (a : Int) - (m : Int) := by omega
    rw [e5, ← h2]
    generalize cho a (m + 1) = X
    have e6 : ((a : Int) - ((m + 1 : Nat) : Int)) * X = ((a : Int) - (m : Int)) * X - X := by
      have : (a : Int) - ((m + 1 : Nat) : Int) = ((a : Int) - (m : Int)) - 1 := by omega
      rw [this, Int.sub_mul, Int.one_mul]
    have e7 : (((m + 1 : Nat) : Int) + 1) * X = ((m : Int) + 1) * X + X := by
      have : (((m + 1 : Nat) : Int) + 1) = ((m : Int) + 1) + 1 := by omega
      rw [this, Int.add_mul _ 1 X, Int.one_mul]
    rw [e6, e7]
    generalize ((m : Int) + 1) * X = u
    generalize ((a : Int) - (m : Int)) * X = v
    omega
theorem mch_zero (a : Nat) : mch a 0 = 1 := by cases a <;> rfl
theorem cho_zero (a : Nat) : cho a 0 = 1 := by cases a <;> rfl
/-- how great -/
theorem mch_bd (b : Nat) : ∀ (a m : Nat), a + m < 2 ^ b → (mch a m).natAbs ≤ 2 ^ (b * m)
  | a, 0, _ => by rw [mch_zero]; exact Nat.one_le_two_pow
  | a, m + 1, h => by
    have ih := mch_bd b a m (by omega)
    have e := mch_step a m
    have e2 : (((m : Int) + 1) * mch a (m + 1)).natAbs = (m + 1) * (mch a (m + 1)).natAbs := by rw [Int.natAbs_mul]; congr 1
    have e3 : (((a : Int) + (m : Int)) * mch a m).natAbs = (a + m) * (mch a m).natAbs := by rw [Int.natAbs_mul]; congr 1
    have e4 : (m + 1) * (mch a (m + 1)).natAbs = (a + m) * (mch a m).natAbs := by rw [← e2, ← e3, e]
    have h1 : (mch a (m + 1)).natAbs ≤ (a + m) * (mch a m).natAbs := by
      rw [← e4]; exact Nat.le_mul_of_pos_left _ (Nat.succ_pos m)
    have h2 : (a + m) * (mch a m).natAbs ≤ 2 ^ b * 2 ^ (b * m) := Nat.mul_le_mul (by omega) ih
    rw [← Nat.pow_add] at h2
    have : b * (m + 1) = b + b * m := by rw [Nat.mul_add]; omega
    rw [this]
    omega
theorem cho_le : ∀ (a m : Nat), 0 ≤ cho a m ∧ (cho a m).natAbs ≤ (mch a m).natAbs ∧ 0 ≤ mch a m
  | a, 0 => by rw [cho_zero, mch_zero]; decide
  | 0, m + 1 => by show (0 : Int) ≤ 0 ∧ _; simp [cho, mch]
  | a + 1, m + 1 => by
    have h1 := cho_le a (m + 1)
    have h2 := cho_le a m
    have h3 := cho_le (a + 1) m
    have h4 : mch a m ≤ mch (a + 1) m := by
      cases m with
      | zero => rw [mch_zero, mch_zero]; exact Int.le_refl _
      | succ m =>
        have := (cho_le (a + 1) m).2.2
        show mch a (m + 1) ≤ mch a (m + 1) + mch (a + 1) m
        omega
    have e1 : cho (a + 1) (m + 1) = cho a (m + 1) + cho a m := rfl
    have e2 : mch (a + 1) (m + 1) = mch a (m + 1) + mch (a + 1) m := rfl
    omega
theorem cho_bd (b a m : Nat) (h : a + m < 2 ^ b) : (cho a m).natAbs ≤ 2 ^ (b * m) := Nat.le_trans (cho_le a m).2.1 (mch_bd b a m h)
/-- how great a product of series is -/
theorem sm_bd {f : Nat → Int} {B : Nat} : ∀ {n : Nat}, (∀ i, i < n → (f i).natAbs ≤ B) → (sm f n).natAbs ≤ n * B
  | 0, _ => by simp [sm]
  | n + 1, h => by
    have h1 := sm_bd (n := n) fun i hi => h i (by omega)
    have h2 := h n (by omega)
    show (sm f n + f n).natAbs ≤ _
    have := Int.natAbs_add_le (sm f n) (f n)
    rw [Nat.add_mul, Nat.one_mul]
    omega
def Bd (f : Nat → Int) (N b : Nat) : Prop := ∀ i, i < N → (f i).natAbs ≤ 2 ^ b
theorem cv_bd {f g : Nat → Int} {N b c : Nat} (hf : Bd f N b) (hg : Bd g N c) (hN : N ≤ 64) : Bd (cv f g) N (6 + b + c) := fun i hi => by
  have := sm_bd (f := fun j => f j * g (i - j)) (n := i + 1) (B := 2 ^ b * 2 ^ c) fun j hj => by
    rw [Int.natAbs_mul]
    exact Nat.mul_le_mul (hf j (by omega)) (hg (i - j) (by omega))
  refine Nat.le_trans this ?_
  have h2 : i + 1 ≤ 2 ^ 6 := by omega
  refine Nat.le_trans (Nat.mul_le_mul_right _ h2) ?_
  rw [← Nat.pow_add, ← Nat.pow_add]
  rw [show 6 + (b + c) = 6 + b + c by omega]
  exact Nat.le_refl _
theorem spread_bd {E : Nat → Int} {s N b : Nat} (h : ∀ m, m < N → (E m).natAbs ≤ 2 ^ b) : Bd (spread s E) N b := fun i hi => by
  unfold spread
  split
  · exact h _ (Nat.lt_of_le_of_lt (Nat.div_le_self _ _) hi)
  · simp
theorem pk_bd {E : Nat → Nat → Int} {N b : Nat} (hN : N ≤ 64) (h : ∀ t m, m < N → (E t m).natAbs ≤ 2 ^ b) : ∀ t, Bd (pk E t) N ((6 + b) * t)
  | 0 => fun i _ => by
    show (delta i).natAbs ≤ _
    unfold delta; split
    · simp
    · simp
  | t + 1 => by
    have := cv_bd (spread_bd (s := t + 1) (h (t + 1))) (pk_bd hN h t) hN
    have e : (6 + b) * (t + 1) = 6 + b + (6 + b) * t := by rw [Nat.mul_add]; omega
    rw [e]
    exact this
end PowS
end
section
namespace PowS
def stepw (s : Nat) (w : Nat → Int) (k : Nat) : Int := if k % s = 0 ∧ 0 < k then (s : Int) * w (k / s) else 0
theorem log_spread_g {E w : Nat → Int} {s : Nat} (hs : 0 < s) (h : ∀ m : Nat, (m : Int) * E m = sm (fun j => E j * w (m - j)) m) (n : Nat) : dv (spread s E) n = cv (stepw s w) (spread s E) n := by
  rw [cv_comm]
  by_cases hn : n % s = 0
  · obtain ⟨m, hm⟩ := Nat.dvd_of_mod_eq_zero hn
    rw [Nat.mul_comm] at hm
    subst hm
    have e0 : sm (fun i => spread s E i * stepw s w (m * s - i)) (m * s) = sm (fun i => if i % s = 0 then (fun j => E j * ((s : Int) * w (m - j))) (i / s) else 0) (m * s) := sm_congr fun i hi => by
      unfold spread stepw
      by_cases h1 : i % s = 0
      · rw [if_pos h1, if_pos h1, if_pos ⟨by rw [mod_sub (by omega) h1]; exact hn, by omega⟩]
        obtain ⟨k, hk⟩ := Nat.dvd_of_mod_eq_zero h1
        subst hk
        show E (s * k / s) * ((s : Int) * w ((m * s - s * k) / s)) = E (s * k / s) * ((s : Int) * w (m - s * k / s))
        rw [Nat.mul_div_cancel_left _ hs, Nat.mul_comm s k, ← Nat.sub_mul, Nat.mul_div_cancel _ hs]
      · rw [if_neg h1, if_neg h1, Int.zero_mul]
    have e1 : cv (spread s E) (stepw s w) (m * s) = sm (fun i => spread s E i * stepw s w (m * s - i)) (m * s) + spread s E (m * s) * stepw s w (m * s - m * s) := rfl
    have e2 : stepw s w (m * s - m * s) = 0 := by unfold stepw; rw [Nat.sub_self, if_neg (by omega)]
    have e4 := sm_spread s hs (fun j => E j * ((s : Int) * w (m - j))) m
    have e5 : sm (fun j => E j * ((s : Int) * w (m - j))) m = (s : Int) * sm (fun j => E j * w (m - j)) m := by
      rw [← sm_mul]
      exact sm_congr fun j _ => by rw [← Int.mul_assoc, Int.mul_comm (E j), Int.mul_assoc]
    rw [e1, e0, e4, e2, Int.mul_zero, Int.add_zero, e5, ← h m]
    unfold dv spread
    rw [if_pos hn, Nat.mul_div_cancel _ hs]
    have e3 : ((m * s : Nat) : Int) = (m : Int) * (s : Int) := Int.natCast_mul _ _
    rw [e3, Int.mul_comm (m : Int), Int.mul_assoc]
  · have e0 : cv (spread s E) (stepw s w) n = 0 := by
      unfold cv
      have : sm (fun i => spread s E i * stepw s w (n - i)) (n + 1) = sm (fun _ => 0) (n + 1) := sm_congr fun i hi => by
        unfold spread stepw
        by_cases h1 : i % s = 0
        · have h2 : ¬ ((n - i) % s = 0 ∧ 0 < n - i) := by
            rw [mod_sub (by omega) h1]; exact fun z => hn z.1
          rw [if_neg h2, Int.mul_zero]
        · rw [if_neg h1, Int.zero_mul]
      rw [this, sm_zero]
    rw [e0]
    unfold dv spread
    rw [if_neg hn, Int.mul_zero]
/-- the weights: w t j of size t -/
def wsg (w : Nat → Nat → Int) (N k : Nat) : Int := sm (fun t => stepw (t + 1) (w (t + 1)) k) N
theorem log_pk_g {E w : Nat → Nat → Int} (h : ∀ t m : Nat, (m : Int) * E t m = sm (fun j => E t j * w t (m - j)) m) : ∀ (N n : Nat), dv (pk E N) n = cv (wsg w N) (pk E N) n
  | 0, n => by
    have e : cv (wsg w 0) (pk E 0) n = 0 := by
      unfold cv
      have : sm (fun i => wsg w 0 i * pk E 0 (n - i)) (n + 1) = sm (fun _ => 0) (n + 1) := sm_congr fun i _ => by
        show (0 : Int) * _ = 0
        rw [Int.zero_mul]
      rw [this, sm_zero]
    rw [e]
    show (n : Int) * delta n = 0
    unfold delta
    by_cases h0 : n = 0
    · subst h0; rfl
    · rw [if_neg h0, Int.mul_zero]
  | N + 1, n => by
    have := log_cv (log_spread_g (s := N + 1) (Nat.succ_pos N) (h (N + 1))) (log_pk_g h N) n
    show dv (cv (spread (N + 1) (E (N + 1))) (pk E N)) n = _
    rw [this]
    refine cv_congr (fun k => ?_) (fun _ => rfl) n
    show stepw (N + 1) (w (N + 1)) k + wsg w N k = wsg w N k + stepw (N + 1) (w (N + 1)) k
    exact Int.add_comm _ _
theorem wsg_zero (w : Nat → Nat → Int) : ∀ N, wsg w N 0 = 0 := fun N => by
  unfold wsg
  have : sm (fun t => stepw (t + 1) (w (t + 1)) 0) N = sm (fun _ => 0) N := sm_congr fun t _ => by
    unfold stepw; rw [if_neg (by omega)]
  rw [this, sm_zero]
theorem wsg_more (w : Nat → Nat → Int) {k N : Nat} (h0 : 0 < k) (h : k ≤ N) : wsg w N k = wsg w k k := by
  obtain ⟨d, rfl⟩ : ∃ d, N = k + d := ⟨N - k, by omega⟩
  unfold wsg
  refine sm_more d fun i h1 h2 => ?_
  unfold stepw
  have : k % (i + 1) = k := Nat.mod_eq_of_lt (by omega)
  rw [if_neg (by rw [this]; omega)]
/-- bags -/
theorem mch_sum (a : Nat) (m : Nat) : (m : Int) * mch a m = sm (fun j => mch a j * (a : Int)) m := by
  rw [ways_sum (E := mch a) (a := (a : Int)) (mch_step a) m, ← sm_mul]
  exact sm_congr fun j _ => Int.mul_comm _ _
/-- choices -/
def sgn (j : Nat) : Int := if j % 2 = 1 then 1 else -1
theorem sgn_neg (j : Nat) : sgn (j + 1) = - sgn j := by
  unfold sgn
  by_cases h : j % 2 = 1
  · rw [if_pos h, if_neg (by omega)]
  · rw [if_neg h, if_pos (by omega)]; rfl
theorem cho_sum (a : Nat) : ∀ m : Nat, (m : Int) * cho a m = sm (fun j => cho a j * (sgn (m - j) * (a : Int))) m
  | 0 => by simp [sm]
  | m + 1 => by
    have ih := cho_sum a m
    have e := cho_step a m
    have e1 : ((m + 1 : Nat) : Int) = (m : Int) + 1 := by omega
    show ((m + 1 : Nat) : Int) * cho a (m + 1) = sm (fun j => cho a j * (sgn (m + 1 - j) * (a : Int))) m + cho a m * (sgn (m + 1 - m) * (a : Int))
    have e2 : sm (fun j => cho a j * (sgn (m + 1 - j) * (a : Int))) m = - sm (fun j => cho a j * (sgn (m - j) * (a : Int))) m := by
      have : sm (fun j => cho a j * (sgn (m + 1 - j) * (a : Int))) m = sm (fun j => (-1) * (cho a j * (sgn (m - j) * (a : Int)))) m := sm_congr fun j hj => by
        have : m + 1 - j = (m - j) + 1 := by omega
        rw [this, sgn_neg, Int.neg_mul, Int.mul_neg, Int.neg_mul, Int.one_mul]
      rw [this, sm_mul]; omega
    rw [e1, e, e2, ← ih]
    have e3 : m + 1 - m = 1 := by omega
    rw [e3]
    have e4 : sgn 1 = 1 := rfl
    rw [e4, Int.one_mul, Int.sub_mul, Int.mul_comm (cho a m)]
    omega
/-- the sum over the divisors -/
def dvs (k : Nat) : List Nat := (List.range k).filter fun d => decide (k % (d + 1) = 0)
theorem sum_filter (p : Nat → Bool) (F : Nat → Int) : ∀ n : Nat, (((List.range n).filter p).map F).sum = sm (fun i => if p i = true then F i else 0) n
  | 0 => rfl
  | n + 1 => by
    rw [List.range_succ, List.filter_append, List.map_append, List.sum_append, sum_filter p F n]
    show _ = sm _ n + _
    congr 1
    cases hp : p n <;> simp [hp]
theorem dvs_sum (k : Nat) (F : Nat → Int) : ((dvs k).map F).sum = sm (fun t => if k % (t + 1) = 0 then F t else 0) k := by
  unfold dvs
  rw [sum_filter]
  exact sm_congr fun i _ => by simp
theorem sum_range (F : Nat → Int) : ∀ n : Nat, ((List.range n).map F).sum = sm F n
  | 0 => rfl
  | n + 1 => by
    rw [List.range_succ, List.map_append, List.sum_append, sum_range F n]
    show _ = sm F n + F n
    simp
theorem wsg_dvs (w : Nat → Nat → Int) (k : Nat) : wsg w k k = ((dvs k).map fun (t : Nat) => (((t + 1 : Nat)) : Int) * w (t + 1) (k / (t + 1))).sum := by
  rw [dvs_sum]
  unfold wsg
  refine sm_congr fun t ht => ?_
  unfold stepw
  by_cases h : k % (t + 1) = 0
  · rw [if_pos h, if_pos ⟨h, by omega⟩]
  · rw [if_neg h, if_neg fun z => h z.1]
end PowS
end
section
set_option maxRecDepth 100000
set_option maxHeartbeats 1000000
namespace W_k21
open PySem L2 PyProof.Rows PySem.Spec Ab
theorem mulW_of {i j : Int} {a b : Nat} (ha : i.natAbs < 2 ^ a) (hb : j.natAbs < 2 ^ b) (h0 : 0 < a) (h1 : 0 < b) (h : a + b ≤ 1000000) : CMulW i j := wide_mul ha hb h0 h1 h
theorem lc_map {gt : D → State → Option State} {se : State → Option D} {α : State} {ι : Type} {E F : ι → D} : ∀ {xs : List ι}, (∀ x ∈ xs, ∃ β, gt (E x) α = some β ∧ se β = some (F x)) → lcF gt tbYes se (xs.map E) α = some (xs.map F)
  | [], _ => rfl
  | x :: xs, h => by
    obtain ⟨β, h1, h2⟩ := h x List.mem_cons_self
    show lcF gt tbYes se (E x :: xs.map E) α = _
    unfold lcF
    rw [h1]
    simp [h2, lc_map (xs := xs) fun y m => h y (List.mem_cons_of_mem _ m)]
theorem fSum_i (ns : List Int) : fSum (ns.map .int) = some (.int ns.sum) := by
  unfold fSum; rw [dints_of]; rfl
theorem at_int {ns : List Int} {i : Int} {j : Nat} (hj : i = j) (h : j < ns.length) : atI (ns.map D.int) i = some (.int (ns.getD j 0)) := by
  subst hj
  rw [atI_nat' (by simpa using h), List.getElem_map, List.getD_eq_getElem?_getD, List.getElem?_eq_getElem h]; rfl
theorem pow_mono {a b : Nat} (h : a ≤ b) : 2 ^ a ≤ 2 ^ b := Nat.pow_le_pow_right (by decide) h
theorem sum_bd {B : Nat} : ∀ (xs : List Int), (∀ x ∈ xs, x.natAbs ≤ B) → xs.sum.natAbs ≤ xs.length * B
  | [], _ => by simp
  | x :: xs, h => by
    have h1 := h x List.mem_cons_self
    have h2 := sum_bd xs fun y m => h y (List.mem_cons_of_mem _ m)
    simp only [List.sum_cons, List.length_cons]
    have := Int.natAbs_add_le x xs.sum
    rw [Nat.add_mul, Nat.one_mul]
    omega
theorem getD_app (xs : List Int) (y : Int) (k : Nat) : (xs ++ [y]).getD k 0 = if k = xs.length then y else xs.getD k 0 := by
  rw [List.getD_eq_getElem?_getD, List.getD_eq_getElem?_getD]
  by_cases h : k < xs.length
  · rw [List.getElem?_append_left h, if_neg (by omega)]
  · rw [List.getElem?_append_right (by omega)]
    by_cases h2 : k = xs.length
    · subst h2; simp
    · rw [if_neg h2, List.getElem?_eq_none (by simp; omega), List.getElem?_eq_none (by omega)]
@[simp] theorem isi_ii {i : Int} : fIsi [.int i, .ty "int"] = some (.bl true) := (rfl)
@[simp] theorem isi_ib {i : Int} : fIsi [.int i, .ty "bool"] = some (.bl false) := (rfl)
@[simp] theorem isi_ll {xs : List D} : fIsi [.lst xs, .ty "list"] = some (.bl true) := (rfl)
theorem neQ_int {i : Int} : fNeQ (.int i) (.int i) = some (.bl false) := by
  unfold fNeQ; rw [if_pos (by unfold eqOk; simp [plainD, depD])]; unfold eqv; rw [eqv_refl]; rfl
theorem plain_ints : ∀ ns : List Int, plainDs (ns.map .int) = true
  | [] => rfl
  | n :: ns => by simp [plainDs, plainD, plain_ints ns]
theorem dep_ints : ∀ ns : List Int, depDs (ns.map .int) = 0
  | [] => rfl
  | n :: ns => by simp [depDs, depD, dep_ints ns]
theorem eqOk_ints (ns : List Int) : eqOk (.lst (ns.map .int)) (.lst (ns.map .int)) = true := by unfold eqOk; simp [plainD, depD, plain_ints, dep_ints]
theorem neQ_ints (ns : List Int) : fNeQ (.lst (ns.map .int)) (.lst (ns.map .int)) = some (.bl false) := by
  unfold fNeQ; rw [if_pos (eqOk_ints ns)]; unfold eqv; rw [eqv_refl]; rfl
theorem eqQ_ints (ns : List Int) : fEqQ (.lst (ns.map .int)) (.lst (ns.map .int)) = some (.bl true) := by
  unfold fEqQ; rw [if_pos (eqOk_ints ns)]; unfold eqv; rw [eqv_refl]
theorem v_whole (i : Int) : m__law_whole [.int i] = some (.bl true) := by
  have : ∃ β, b__law_whole (inP 1 1 [.int i]) = .ret (.dat (.bl true)) β := by unfold b__law_whole inP; simp
  obtain ⟨β, e⟩ := this
  exact runP_dat rfl e
theorem row_loop (ns : List Int) : ∀ (cnt i : Nat) (x : Option A), i + cnt = ns.length → ∃ y, loopF (gN 2) bl__law_is_row_1 ((List.range' i cnt).map fun (k : Nat) => D.int (k : Int)) [some (.dat (.lst (ns.map .int))), some (.dat (.lst (ns.map .int))), x] = .nxt [some (.dat (.lst (ns.map .int))), some (.dat (.lst (ns.map .int))), y]
  | 0, i, x, _ => ⟨x, rfl⟩
  | cnt + 1, i, x, h => by
    obtain ⟨y, ih⟩ := row_loop ns cnt (i + 1) (some (.dat (.int i))) (by omega)
    refine ⟨y, ?_⟩
    have e1 : atI (ns.map D.int) (i : Int) = some (.int (ns.getD i 0)) := at_int rfl (by omega)
    have e : bl__law_is_row_1 [some (.dat (.lst (ns.map .int))), some (.dat (.lst (ns.map .int))), some (.dat (.int i))] = .nxt [some (.dat (.lst (ns.map .int))), some (.dat (.lst (ns.map .int))), some (.dat (.int i))] := by
      generalize ns.getD i 0 = v at e1
      unfold bl__law_is_row_1
      simp [e1, v_whole, neQ_int]
    rw [List.range'_succ, List.map_cons]
    unfold loopF
    simp [e, ih]
theorem rng_eq (m : Nat) : rngD 0 m = (List.range' 0 m).map fun (i : Nat) => D.int (i : Int) := by
  unfold rngD
  rw [List.range_eq_range']
  exact congrArg (fun f => List.map f (List.range' 0 m)) (funext fun i => by show D.int (0 + (i : Int)) = _; rw [Int.zero_add])
theorem v_is_row (ns : List Int) (h : ns.length ≤ 1000) : m__law_is_row [.lst (ns.map .int), .lst (ns.map .int)] = some (.bl true) := by
  obtain ⟨y, hl⟩ := row_loop ns ns.length 0 none (by omega)
  rw [← rng_eq] at hl
  have hr := rngOk_nat (n := ns.length) (by omega)
  have : ∃ β, b__law_is_row (inP 3 2 [.lst (ns.map .int), .lst (ns.map .int)]) = .ret (.dat (.bl true)) β := by
    unfold b__law_is_row inP
    simp [hr, hl]
  obtain ⟨β, e⟩ := this
  exact runP_dat rfl e
theorem am_loop (s : Option A) (M : Int) (hM : M = 1000000000000000000000000000000) : ∀ (xs as : List Int) (x3 : Option A), as.length + xs.length ≤ 1000 → (∀ a ∈ as, 0 ≤ a ∧ a < M) →
    ∃ (as' : List Int) (y : Option A), loopF (gN 3) bl__law_amounts_1 (xs.map .int) [s, some (.dat (.int M)), some (.own (.lst (as.map .int))), x3] = .nxt [s, some (.dat (.int M)), some (.own (.lst (as'.map .int))), y] ∧ (∀ a ∈ as', 0 ≤ a ∧ a < M) ∧ as'.length = as.length + xs.length ∧ ∃ r, as' = as ++ r
  | [], as, x3, _, h => ⟨as, x3, rfl, h, by simp, [], by simp⟩
  | x :: xs, as, x3, hl, h => by
    simp only [List.length_cons] at hl
    have key : ∀ v : Int, 0 ≤ v → v < M → bl__law_amounts_1 [s, some (.dat (.int M)), some (.own (.lst (as.map .int))), some (.dat (.int x))] = .nxt [s, some (.dat (.int M)), some (.own (.lst ((as ++ [v]).map .int))), some (.dat (.int x))] →
        ∃ (as' : List Int) (y : Option A), loopF (gN 3) bl__law_amounts_1 ((x :: xs).map .int) [s, some (.dat (.int M)), some (.own (.lst (as.map .int))), x3] = .nxt [s, some (.dat (.int M)), some (.own (.lst (as'.map .int))), y] ∧ (∀ a ∈ as', 0 ≤ a ∧ a < M) ∧ as'.length = as.length + (xs.length + 1) ∧ ∃ r, as' = as ++ r := fun v h0 h1 e => by
      obtain ⟨as', y, i1, i2, i3, r, i4⟩ := am_loop s M hM xs (as ++ [v]) (some (.dat (.int x))) (by simp; omega) (fun a m => by
        rcases List.mem_append.mp m with m | m
        · exact h a m
        · have : a = v := by simpa using m
          subst this; exact ⟨h0, h1⟩)
      refine ⟨as', y, ?_, i2, by rw [i3]; simp; omega, v :: r, by rw [i4]; simp⟩
      show loopF _ _ (.int x :: xs.map .int) _ = _
      unfold loopF
      simp only [List.map_append, List.map_cons, List.map_nil] at e i1
      simp [e, i1]
    have hal : as.length < 100000 := by omega
    have hMp : 0 < M := by omega
    by_cases c0 : x % 3 = 0
    · exact key (x / 3 % 4) (by omega) (by omega) (by unfold bl__law_amounts_1; simp [c0, CDiv, putC, hal])
    · by_cases c1 : x % 3 = 1
      · exact key 0 (by omega) (by omega) (by unfold bl__law_amounts_1; simp [c0, c1, CDiv, putC, hal])
      · exact key (x / 3 % M) (Int.emod_nonneg _ (by omega)) (Int.emod_lt_of_pos _ hMp) (by unfold bl__law_amounts_1; simp [c0, c1, CDiv, putC, hal, hMp])
theorem v_amounts (ns : List Int) (hl : ns.length ≤ 63) : ∃ as : List Int, m__law_amounts [.lst (ns.map .int), .int 1000000000000000000000000000000] = some ((0 :: as).map .int) ∧ as.length ≤ 40 ∧ ∀ a ∈ (0 :: as), 0 ≤ a ∧ a < 1000000000000000000000000000000 := by
  obtain ⟨as', y, h, h1, h2, r, h3⟩ := am_loop (some (.dat (.lst (ns.map .int)))) _ rfl ((ns.drop 1).take 40) [0] none (by simp; omega) (by simp)
  subst h3
  have cut : Ab.cutD (ns.map D.int) (some 1) (some 41) = ((ns.drop 1).take 40).map D.int := by
    rw [show (1 : Int) = ((1 : Nat) : Int) from rfl, show (41 : Int) = ((41 : Nat) : Int) from rfl, cutD_mid (by decide), List.map_take, List.map_drop]
  refine ⟨r, ?_, ?_, h1⟩
  · have : ∃ β, b__law_amounts (inP 4 2 [.lst (ns.map .int), .int 1000000000000000000000000000000]) = .ret (.lst ((0 :: r).map .int)) β := by
      rw [List.map_take, List.map_drop] at h cut
      simp only [List.drop_one] at h cut
      unfold b__law_amounts inP
      simp only [List.map_cons, List.map_nil, List.map_append, List.cons_append, List.nil_append] at h
      simp [cut, h]
    obtain ⟨β, e⟩ := this
    exact runL_lst rfl e
  · have := List.length_take_le 40 (ns.drop 1)
    simp at h2
    omega
theorem loop_cons {gt : D → State → Option State} {bl : State → Out} {x : D} {xs : List D} {α α' β : State} (h1 : gt x α = some α') (h2 : bl α' = .nxt β) : loopF gt bl (x :: xs) α = loopF gt bl xs β := by
  conv => lhs; unfold loopF
  simp [h1, h2]
end W_k21
end
section
set_option maxRecDepth 100000
set_option maxHeartbeats 1000000
namespace W_k21
open PySem L2 PyProof.Rows PySem.Spec Ab PowS
theorem v_divisors (k : Nat) (hk : k ≤ 1000) : m_divisors [.int k] = some ((dvs k).map fun (d : Nat) => D.int (1 + (d : Int))) := by
  have : ∃ β, b_divisors (inP 2 1 [.int k]) = .ret (.lst ((dvs k).map fun (d : Nat) => D.int (1 + (d : Int)))) β := by
    have r1 : rngOk ((k : Int) + 1) = true := rngOk_of (by omega) (by omega)
    have rr : rngD 1 k = (List.range k).map fun (d : Nat) => D.int (1 + (d : Int)) := rfl
    have rl : k ≤ 100000 := by omega
    have go : lcF (gN 1) (asB (x2 fEq (x2 fMod (xVar 0) (xVar 1)) (xC (.int 0)))) (xVar 1) ((List.range k).map fun (d : Nat) => D.int (1 + (d : Int))) [some (.dat (.int k)), none] = some ((dvs k).map fun (d : Nat) => D.int (1 + (d : Int))) := by
      unfold dvs
      refine lcF_filter fun d hd => ⟨[some (.dat (.int k)), some (.dat (.int (1 + (d : Int))))], rfl, ?_, fun _ => by simp⟩
      have h0 : (0 : Int) < 1 + (d : Int) := by omega
      have e : ((k : Int) % (1 + (d : Int)) = 0) ↔ k % (d + 1) = 0 := by
        have : (1 + (d : Int)) = ((d + 1 : Nat) : Int) := by omega
        rw [this]
        omega
      simp [h0, e]
    unfold b_divisors inP
    simp [r1, rr, rl, go]
  obtain ⟨β, e⟩ := this
  exact runL_lst rfl e
theorem dvs_len (k : Nat) : (dvs k).length ≤ k := by
  unfold dvs
  exact Nat.le_trans (List.length_filter_le _ _) (by rw [List.length_range]; exact Nat.le_refl _)
theorem dvs_lt {k d : Nat} (h : d ∈ dvs k) : d < k := List.mem_range.mp (List.mem_filter.mp h).1
abbrev ser (g m w : Nat → Int) (i j l : Nat) : D := serD "ChoiceSeries" (df g i) (df m j) (df w l)
theorem fld1 (g m w : Nat → Int) (i j l : Nat) : List.lookup ("gone" : Str) [(("gone" : Str), D.lst (df g i)), ("made", D.lst (df m j)), ("weights", D.lst (df w l))] = some (.lst (df g i)) := rfl
theorem fld2 (g m w : Nat → Int) (i j l : Nat) : List.lookup ("made" : Str) [(("gone" : Str), D.lst (df g i)), ("made", D.lst (df m j)), ("weights", D.lst (df w l))] = some (.lst (df m j)) := rfl
theorem fld3 (g m w : Nat → Int) (i j l : Nat) : List.lookup ("weights" : Str) [(("gone" : Str), D.lst (df g i)), ("made", D.lst (df m j)), ("weights", D.lst (df w l))] = some (.lst (df w l)) := rfl
def sg (k t : Nat) : Int := ((k / (t + 1) % 2 : Nat) : Int) * 2 - 1
def wtf (a : Nat → Int) (k : Nat) : Int := ((dvs k).map fun (t : Nat) => ((t + 1 : Nat) : Int) * a (t + 1) * sg k t).sum
abbrev wex : State → Option D := x2 fMulW (x2 fMulW (xVar 2) (xIx (qL (xFld "ChoiceSeries" "gone" (xVar 0))) (xVar 2))) (x2 fSub (x2 fMulW (x2 fMod (x2 fDivW (xVar 1) (xVar 2)) (xC (.int 2))) (xC (.int 2))) (xC (.int 1)))
theorem weight_go (a m w : Nat → Int) (k i j l : Nat) (hk : k < i) (hl : i ≤ 1000) (bg : ∀ x, (a x).natAbs < 2 ^ 100) : lcF (gN 2) tbYes wex ((dvs k).map fun (d : Nat) => D.int (1 + (d : Int))) [some (.dat (ser a m w i j l)), some (.dat (.int k)), none]
        = some (((dvs k).map fun (t : Nat) => ((t + 1 : Nat) : Int) * a (t + 1) * sg k t).map .int) := by
  rw [List.map_map]
  refine lcF_map fun d hd => ⟨[some (.dat (ser a m w i j l)), some (.dat (.int k)), some (.dat (.int (1 + (d : Int))))], rfl, rfl, ?_⟩
  have hdk := dvs_lt hd
  have e1 : atI (df a i) (1 + (d : Int)) = some (.int (a (d + 1))) := df_at (by omega) (by omega)
  have e2 : (1 : Int) + (d : Int) = ((d + 1 : Nat) : Int) := by omega
  have c : CMulW ((d + 1 : Nat) : Int) (a (d + 1)) := mulW_of (a := 100) (b := 100) (Nat.lt_of_lt_of_le (show (((d + 1 : Nat) : Int)).natAbs < 2 ^ 10 by omega) (pow_mono (by decide))) (bg (d + 1)) (by decide) (by decide) (by decide)
  have e3 : (k : Int) / ((d + 1 : Nat) : Int) = ((k / (d + 1) : Nat) : Int) := (Int.natCast_ediv _ _).symm
  have e4 : ((k / (d + 1) : Nat) : Int) % 2 = ((k / (d + 1) % 2 : Nat) : Int) := by omega
  have cd : CDivW (k : Int) ((d + 1 : Nat) : Int) := wide_div (by omega) (b := 10) (by omega) (by decide) (by decide)
  have hr : k / (d + 1) % 2 < 2 := Nat.mod_lt _ (by decide)
  have c2 : CMulW ((k / (d + 1) % 2 : Nat) : Int) 2 := mulW_of (a := 10) (b := 10) (by omega) (by decide) (by decide) (by decide) (by decide)
  have hm : (((d + 1 : Nat) : Int) * a (d + 1)).natAbs < 2 ^ 110 := by
    have := wide_lt (a := 10) (b := 100) (show (((d + 1 : Nat) : Int)).natAbs < 2 ^ 10 by omega) (bg (d + 1))
    exact this
  have c3 : CMulW (((d + 1 : Nat) : Int) * a (d + 1)) (sg k d) := mulW_of (a := 110) (b := 10) hm (by unfold sg; omega) (by decide) (by decide) (by decide)
  have e5 : ((k / (d + 1) % 2 : Nat) : Int) * 2 - 1 = sg k d := rfl
  rw [e2] at e1 ⊢
  show _ = some (D.int (((d + 1 : Nat) : Int) * a (d + 1) * sg k d))
  generalize a (d + 1) = u at e1 c c3 ⊢
  generalize sg k d = s at c3 e5 ⊢
  generalize k / (d + 1) = kd at *
  have l1 := fld1 a m w i j l
  have h2 : (0 : Int) < 2 := by decide
  generalize ((d + 1 : Nat) : Int) = dd at *
  simp only [wex, ser, serD, x2, a_xIx, a_qL, a_xFld, a_xC, xVar, l1, List.getElem?_cons_zero, List.getElem?_cons_succ, if_pos, bnd_s, e1, ii, c, c2, c3, cd, h2, e3, e4, e5, Function.comp]
theorem v_weight (a m w : Nat → Int) (k i j l : Nat) (hk : k < i) (hl : i ≤ 1000) (bg : ∀ x, (a x).natAbs < 2 ^ 100) :
    m_ChoiceSeries_weight [ser a m w i j l, .int k] = some (.int (wtf a k)) := by
  have hd := v_divisors k (by omega)
  have go := weight_go a m w k i j l hk hl bg
  have hs := fSum_ints ((dvs k).map fun (t : Nat) => ((t + 1 : Nat) : Int) * a (t + 1) * sg k t)
  have lm : ((dvs k).map fun (d : Nat) => D.int (1 + (d : Int))).length ≤ 100000 := by rw [List.length_map]; exact Nat.le_trans (dvs_len k) (by omega)
  have : ∃ β, b_ChoiceSeries_weight (inP 3 2 [ser a m w i j l, .int k]) = .ret (.dat (.int (wtf a k))) β := by
    unfold b_ChoiceSeries_weight inP wtf
    generalize ser a m w i j l = S at *
    generalize ((dvs k).map fun (t : Nat) => ((t + 1 : Nat) : Int) * a (t + 1) * sg k t) = zs at *
    generalize ((dvs k).map fun (d : Nat) => D.int (1 + (d : Int))) = ds at *
    simp [hd, lm, go, hs]
  obtain ⟨β, e⟩ := this
  exact runP_dat rfl e
end W_k21
end
section
set_option maxRecDepth 100000
set_option maxHeartbeats 1000000
namespace W_k21
open PySem L2 PyProof.Rows PySem.Spec Ab PowS
/-- so great may what is multiplied be -/
def Wb (x : Int) : Prop := x.natAbs < 2 ^ 300000
theorem newest_zero (a m w : Nat → Int) (i j l : Nat) : m_BagSeries_newest [ser a m w i j l, .int 0] = some (.int 1) := by
  have : ∃ β, b_BagSeries_newest (inP 3 2 [ser a m w i j l, .int 0]) = .ret (.dat (.int 1)) β := by
    unfold b_BagSeries_newest inP
    generalize ser a m w i j l = S
    simp
  obtain ⟨β, e⟩ := this
  exact runP_dat rfl e
theorem divW_of' {i j : Int} (h0 : 0 < j) (hj : j.natAbs < 2 ^ 10) : CDivW i j := wide_div h0 hj (by decide) (by decide)
theorem newest_go (a m w : Nat → Int) (n i j l : Nat) (hi : n < j + 1) (hl : n < l) (hn : n < 64) (bm : ∀ x, x < 64 → Wb (m x)) (bw : ∀ x, x < 64 → (w x).natAbs < 2 ^ 200) :
    lcF (gN 2) tbYes (x2 fMulW (xIx (qL (xFld "ChoiceSeries" "weights" (xVar 0))) (xVar 2)) (xIx (qL (xFld "ChoiceSeries" "made" (xVar 0))) (x2 fSub (xVar 1) (xVar 2)))) ((List.range n).map fun (k : Nat) => D.int (1 + (k : Int))) [some (.dat (ser a m w i j l)), some (.dat (.int n)), none]
      = some (((List.range n).map fun k => w (k + 1) * m (n - (k + 1))).map .int) := by
  rw [List.map_map]
  refine lcF_map fun d hd => ⟨[some (.dat (ser a m w i j l)), some (.dat (.int n)), some (.dat (.int (1 + (d : Int))))], rfl, rfl, ?_⟩
  have hdk := List.mem_range.mp hd
  have e1 : atI (df w l) (1 + (d : Int)) = some (.int (w (d + 1))) := df_at (by omega) (by omega)
  have e2 : atI (df m j) ((n : Int) - (1 + (d : Int))) = some (.int (m (n - (d + 1)))) := df_at (by omega) (by omega)
  have c : CMulW (w (d + 1)) (m (n - (d + 1))) := mulW_of (a := 200) (b := 300000) (bw _ (by omega)) (bm _ (by omega)) (by decide) (by decide) (by decide)
  show _ = some (D.int (w (d + 1) * m (n - (d + 1))))
  generalize w (d + 1) = u at e1 c ⊢
  generalize m (n - (d + 1)) = v at e2 c ⊢
  have l1 := fld2 a m w i j l
  have l2 := fld3 a m w i j l
  simp only [ser, serD, x2, a_xIx, a_qL, a_xFld, xVar, l1, l2, List.getElem?_cons_zero, List.getElem?_cons_succ, if_pos, bnd_s, e1, e2, ii, c, Function.comp]
theorem v_newest (a m w : Nat → Int) (n i j l : Nat) (hi : n < j + 1) (hl : n < l) (hn : n < 64) (h0 : n ≠ 0) (bm : ∀ x, x < 64 → Wb (m x)) (bw : ∀ x, x < 64 → (w x).natAbs < 2 ^ 200) :
    m_BagSeries_newest [ser a m w i j l, .int n] = some (.int (sm (fun k => w (k + 1) * m (n - (k + 1))) n / (n : Int))) := by
  have : ∃ β, b_BagSeries_newest (inP 3 2 [ser a m w i j l, .int n]) = .ret (.dat (.int (sm (fun k => w (k + 1) * m (n - (k + 1))) n / (n : Int)))) β := by
    have go := newest_go a m w n i j l hi hl hn bm bw
    have hs := fSum_ints ((List.range n).map fun k => w (k + 1) * m (n - (k + 1)))
    rw [sum_range] at hs
    have r1 : rngOk ((n : Int) + 1) = true := rngOk_of (by omega) (by omega)
    have rr : rngD 1 n = (List.range n).map fun (d : Nat) => D.int (1 + (d : Int)) := rfl
    have rl : ((List.range n).map fun (d : Nat) => D.int (1 + (d : Int))).length ≤ 100000 := by simp; omega
    have hz : decide (n = 0) = false := by simpa using h0
    have hc : CDivW (sm (fun k => w (k + 1) * m (n - (k + 1))) n) (n : Int) := divW_of' (by omega) (by omega)
    unfold b_BagSeries_newest inP
    generalize ser a m w i j l = S at *
    generalize sm (fun k => w (k + 1) * m (n - (k + 1))) n = q at *
    generalize ((List.range n).map fun k => w (k + 1) * m (n - (k + 1))) = zs at *
    generalize ((List.range n).map fun (d : Nat) => D.int (1 + (d : Int))) = ds at *
    have tn : ((n : Int) + 1 - 1).toNat = n := by omega
    simp [hz, r1, tn, rr, rl, go, hs, hc]
  obtain ⟨β, e⟩ := this
  exact runP_dat rfl e
theorem growLoop_cons {wt new : List D → Option D} {cl : String} {x : D} {xs gs ms ws : List D} {u v : Int} (h1 : wt [serD cl (gs ++ [x]) ms ws, .int gs.length] = some (.int u)) (h2 : new [serD cl (gs ++ [x]) ms (ws ++ [.int u]), .int gs.length] = some (.int v)) :
    growLoop wt new cl (x :: xs) gs ms ws = growLoop wt new cl xs (gs ++ [x]) (ms ++ [.int v]) (ws ++ [.int u]) := by
  conv => lhs; unfold growLoop
  rw [h1]
  dsimp only
  rw [h2]
/-- the program's list: c the weights, P what is made -/
theorem grow_eq (a c P : Nat → Int) (N : Nat) (hN : N ≤ 64) (ha : ∀ x, (a x).natAbs < 2 ^ 100) (hc : ∀ k, k < N → c k = wtf a k) (h0 : P 0 = 1) (hP : ∀ n, n < N → n ≠ 0 → sm (fun k => c (k + 1) * P (n - (k + 1))) n / (n : Int) = P n)
    (bP : ∀ x, x < 64 → Wb (P x)) (bc : ∀ x, x < 64 → (c x).natAbs < 2 ^ 200) :
    ∀ (cnt i : Nat), i + cnt = N → growLoop m_ChoiceSeries_weight m_BagSeries_newest "ChoiceSeries" ((List.range' i cnt).map fun k => .int (a k)) (df a i) (df P i) (df c i) = some (df P N)
  | 0, i, h => by
    have : i = N := by omega
    subst this; rfl
  | cnt + 1, i, h => by
    have ih := grow_eq a c P N hN ha hc h0 hP bP bc cnt (i + 1) (by omega)
    rw [List.range'_succ, List.map_cons]
    have w1 : m_ChoiceSeries_weight [serD "ChoiceSeries" (df a i ++ [.int (a i)]) (df P i) (df c i), .int (df a i).length] = some (.int (c i)) := by
      rw [df_snoc, df_len, hc i (by omega)]
      exact v_weight a P c i (i + 1) i i (by omega) (by omega) ha
    have w2 : m_BagSeries_newest [serD "ChoiceSeries" (df a i ++ [.int (a i)]) (df P i) (df c i ++ [.int (c i)]), .int (df a i).length] = some (.int (P i)) := by
      rw [df_snoc, df_snoc, df_len]
      by_cases hz : i = 0
      · subst hz
        rw [h0]
        exact newest_zero a P c 1 0 1
      · have := v_newest a P c i (i + 1) i (i + 1) (by omega) (by omega) (by omega) hz bP bc
        rw [hP i (by omega) hz] at this
        exact this
    rw [growLoop_cons w1 w2, df_snoc, df_snoc, df_snoc]
    exact ih
end W_k21
end
section
set_option maxRecDepth 100000
set_option maxHeartbeats 1000000
namespace W_k21
open PySem L2 PyProof.Rows PySem.Spec Ab PowS
def Gm (E b : Nat → Int) (s m n : Nat) : Int := sm (fun j => if j * s ≤ n then E j * b (n - j * s) else 0) (m + 1)
theorem Gm_zero {E b : Nat → Int} {s n : Nat} (h : E 0 = 1) : Gm E b s 0 n = b n := by
  show (0 : Int) + (if 0 * s ≤ n then E 0 * b (n - 0 * s) else 0) = _
  rw [Nat.zero_mul, if_pos (Nat.zero_le _), h]; simp
theorem Gm_end {E b : Nat → Int} {s n M : Nat} (hs : 0 < s) (h : n / s ≤ M) : Gm E b s M n = cv (spread s E) b n := by
  rw [cv_spread s hs]
  unfold Gm
  obtain ⟨d, rfl⟩ : ∃ d, M = n / s + d := ⟨M - n / s, by omega⟩
  rw [show n / s + d + 1 = n / s + 1 + d by omega, sm_more d fun i h1 h2 => if_neg fun z => by
    have := (Nat.le_div_iff_mul_le hs).mpr z
    omega]
  exact sm_congr fun i hi => if_pos ((Nat.le_div_iff_mul_le hs).mp (by omega))
theorem addb {a q : Int} (ha : a.natAbs < 2 ^ 100) (hq : q.natAbs ≤ 64) : (a + q).natAbs < 2 ^ 101 := by
  have := Int.natAbs_add_le a q
  have h2 : (2 : Nat) ^ 101 = 2 ^ 100 + 2 ^ 100 := by decide
  have h3 : (64 : Nat) ≤ 2 ^ 100 := by decide
  omega
theorem inner_turn (b E : Nat → Int) (N s m j : Nat) (a tw : Int) (x : Option A) (hN : N ≤ 64) (hm : m * s + j < N) (hm0 : m ≤ 64) (hs : s ≤ 64) (bE : (E (m + 1)).natAbs < 2 ^ 7000) (bb : ∀ x, x < 64 → Wb (b x)) (hms : (m + 1) * s + j < N) :
    bl__law_packed_1 [some (.dat (.lst (df b N))), some (.dat (.int s)), some (.dat (.int a)), some (.dat (.int tw)), some (.own (.lst (df (fun x => if x < (m + 1) * s + j then Gm E b s (m + 1) x else Gm E b s m x) N))), some (.dat (.int (E (m + 1)))), some (.dat (.int ((m : Int) + 1))), some (.dat (.int ((((m + 1) * s : Nat) : Int) + (j : Int))))]
      = .nxt [some (.dat (.lst (df b N))), some (.dat (.int s)), some (.dat (.int a)), some (.dat (.int tw)), some (.own (.lst (df (fun x => if x < (m + 1) * s + (j + 1) then Gm E b s (m + 1) x else Gm E b s m x) N))), some (.dat (.int (E (m + 1)))), some (.dat (.int ((m : Int) + 1))), some (.dat (.int ((((m + 1) * s : Nat) : Int) + (j : Int))))] := by
  have e0 : (((m + 1) * s : Nat) : Int) + (j : Int) = (((m + 1) * s + j : Nat) : Int) := by omega
  have e1 : atI (df (fun x => if x < (m + 1) * s + j then Gm E b s (m + 1) x else Gm E b s m x) N) (((m + 1) * s + j : Nat) : Int) = some (.int (Gm E b s m ((m + 1) * s + j))) := by
    rw [df_at rfl hms, if_neg (Nat.lt_irrefl _)]
  have e2 : ((m : Int) + 1) * (s : Int) = (((m + 1) * s : Nat) : Int) := by rw [Int.natCast_mul]; rfl
  have e3 : atI (df b N) ((((m + 1) * s + j : Nat) : Int) - (((m + 1) * s : Nat) : Int)) = some (.int (b j)) := df_at (by omega) (by omega)
  have c1 : CMulW ((m : Int) + 1) (s : Int) := mulW_of (a := 10) (b := 10) (by omega) (by omega) (by decide) (by decide) (by decide)
  have c2 : CMulW (E (m + 1)) (b j) := mulW_of (a := 7000) (b := 300000) bE (bb j (by omega)) (by decide) (by decide) (by decide)
  have e4 : ixN N (((m + 1) * s + j : Nat) : Int) = some ((m + 1) * s + j) := ixN_nat hms
  have e5 : Gm E b s (m + 1) ((m + 1) * s + j) = Gm E b s m ((m + 1) * s + j) + E (m + 1) * b j := by
    show Gm E b s m ((m + 1) * s + j) + (if (m + 1) * s ≤ (m + 1) * s + j then E (m + 1) * b ((m + 1) * s + j - (m + 1) * s) else 0) = _
    rw [if_pos (by omega), Nat.add_sub_cancel_left]
  have e6 : (df (fun x => if x < (m + 1) * s + j then Gm E b s (m + 1) x else Gm E b s m x) N).set ((m + 1) * s + j) (.int (Gm E b s m ((m + 1) * s + j) + E (m + 1) * b j)) = df (fun x => if x < (m + 1) * s + (j + 1) then Gm E b s (m + 1) x else Gm E b s m x) N := by
    rw [df_set]
    refine df_ext fun i hi => ?_
    by_cases h : i = (m + 1) * s + j
    · subst h
      rw [if_pos rfl, if_pos (by omega), e5]
    · rw [if_neg h]
      by_cases h2 : i < (m + 1) * s + j
      · rw [if_pos h2, if_pos (by omega)]
      · rw [if_neg h2, if_neg (by omega)]
  have e7 : (df (fun x => if x < (m + 1) * s + j then Gm E b s (m + 1) x else Gm E b s m x) N).length = N := df_len
  rw [e0]
  generalize df (fun x => if x < (m + 1) * s + (j + 1) then Gm E b s (m + 1) x else Gm E b s m x) N = L2 at *
  generalize df (fun x => if x < (m + 1) * s + j then Gm E b s (m + 1) x else Gm E b s m x) N = L1 at *
  generalize df b N = B at *
  generalize Gm E b s m ((m + 1) * s + j) = g at *
  generalize E (m + 1) = em at *
  generalize b j = bj at *
  generalize (((m + 1) * s + j : Nat) : Int) = nn at *
  generalize (((m + 1) * s : Nat) : Int) = ms at *
  generalize (m + 1) * s + j = nj at *
  clear bb
  unfold bl__law_packed_1
  simp [e1, e2, e3, e4, e6, e7, c1, c2, putC]
theorem outer_turn (b E : Nat → Int) (N s m : Nat) (a tw : Int) (x y : Option A) (hN : N ≤ 64) (hm0 : m ≤ 64) (hs0 : 0 < s) (hs : s ≤ 64) (hms : (m + 1) * s < N) (hE : ∀ m : Nat, ((m : Int) + 1) * E (m + 1) = (a + (m : Int) * tw) * E m) (bE : ∀ m, m ≤ 64 → (E m).natAbs < 2 ^ 7000) (bb : ∀ x, x < 64 → Wb (b x)) (ba : a.natAbs < 2 ^ 100) (ht : tw.natAbs ≤ 1) :
    ∃ z, bl__law_packed_2 [some (.dat (.lst (df b N))), some (.dat (.int s)), some (.dat (.int a)), some (.dat (.int tw)), some (.own (.lst (df (Gm E b s m) N))), some (.dat (.int (E m))), some (.dat (.int (1 + (m : Int)))), y]
      = .nxt [some (.dat (.lst (df b N))), some (.dat (.int s)), some (.dat (.int a)), some (.dat (.int tw)), some (.own (.lst (df (Gm E b s (m + 1)) N))), some (.dat (.int (E (m + 1)))), some (.dat (.int (1 + (m : Int)))), z] := by
  have em : (1 : Int) + (m : Int) = (m : Int) + 1 := by omega
  rw [em]
  have hm64 : m + 1 ≤ 64 := by
    have := Nat.le_mul_of_pos_right (m + 1) hs0; omega
  have hl := loop_rng (gt := gN 7) (bl := bl__law_packed_1) (((m + 1) * s : Nat) : Int) (N - (m + 1) * s) (fun j β => ∃ z, β = [some (.dat (.lst (df b N))), some (.dat (.int s)), some (.dat (.int a)), some (.dat (.int tw)), some (.own (.lst (df (fun x => if x < (m + 1) * s + j then Gm E b s (m + 1) x else Gm E b s m x) N))), some (.dat (.int (E (m + 1)))), some (.dat (.int ((m : Int) + 1))), z])
    [some (.dat (.lst (df b N))), some (.dat (.int s)), some (.dat (.int a)), some (.dat (.int tw)), some (.own (.lst (df (Gm E b s m) N))), some (.dat (.int (E (m + 1)))), some (.dat (.int ((m : Int) + 1))), y]
    ⟨y, by
      rw [df_ext (f := Gm E b s m) (g := fun x => if x < (m + 1) * s + 0 then Gm E b s (m + 1) x else Gm E b s m x)]
      intro i hi
      by_cases h : i < (m + 1) * s + 0
      · rw [if_pos h]
        show _ = Gm E b s m i + (if (m + 1) * s ≤ i then _ else 0)
        rw [if_neg (by omega), Int.add_zero]
      · rw [if_neg h]⟩
    (fun j hj β ⟨z, hb⟩ => by
      subst hb
      have hle : m * s ≤ (m + 1) * s := Nat.mul_le_mul_right _ (by omega)
      exact ⟨_, _, rfl, inner_turn b E N s m j a tw z hN (by omega) hm0 hs (bE _ hm64) bb (by omega), _, rfl⟩)
  obtain ⟨δ, h1, z, h2⟩ := hl
  subst h2
  refine ⟨z, ?_⟩
  rw [df_ext (f := fun x => if x < (m + 1) * s + (N - (m + 1) * s) then Gm E b s (m + 1) x else Gm E b s m x) (g := Gm E b s (m + 1)) fun i hi => if_pos (by omega)] at h1
  have e2 : ((m : Int) + 1) * (s : Int) = (((m + 1) * s : Nat) : Int) := by rw [Int.natCast_mul]; rfl
  have c1 : CMulW ((m : Int) + 1) (s : Int) := mulW_of (a := 10) (b := 10) (by omega) (by omega) (by decide) (by decide) (by decide)
  have c2 : CMulW ((m : Int) + 1 - 1) tw := mulW_of (a := 10) (b := 10) (by omega) (by omega) (by decide) (by decide) (by decide)
  have e3 : (m : Int) + 1 - 1 = (m : Int) := by omega
  rw [e3] at c2
  have mt : ((m : Int) * tw).natAbs ≤ 64 := by
    rw [Int.natAbs_mul]
    have := Nat.mul_le_mul (show (m : Int).natAbs ≤ 64 by omega) ht
    omega
  have c3 : CMulW (E m) (a + (m : Int) * tw) := mulW_of (a := 7000) (b := 101) (bE m hm0) (addb ba mt) (by decide) (by decide) (by decide)
  have c4 : CDivW (E m * (a + (m : Int) * tw)) ((m : Int) + 1) := divW_of' (by omega) (by omega)
  have e4 : E m * (a + (m : Int) * tw) / ((m : Int) + 1) = E (m + 1) := by
    rw [Int.mul_comm, ← hE m, Int.mul_ediv_cancel_left _ (by omega)]
  have r1 : rngOk (((m + 1) * s : Nat) : Int) = true := rngOk_nat (by omega)
  have r2 : rngOk ((N : Nat) : Int) = true := rngOk_nat (by omega)
  have e5 : ((N : Int) - (((m + 1) * s : Nat) : Int)).toNat = N - (m + 1) * s := by omega
  have e6 : (df b N).length = N := df_len
  have e7 : (((m + 1) * s : Nat) : Int) = ((m : Int) + 1) * (s : Int) := e2.symm
  generalize df (Gm E b s (m + 1)) N = L2 at *
  generalize df (Gm E b s m) N = L1 at *
  generalize df b N = B at *
  generalize (((m + 1) * s : Nat) : Int) = ms at *
  generalize N - (m + 1) * s = cnt at *
  generalize E (m + 1) = em1 at *
  generalize E m = em0 at *
  obtain ⟨q, hq⟩ : ∃ q, (m : Int) * tw = q := ⟨_, rfl⟩
  rw [hq] at c3 c4 e4
  clear bb hE bE
  unfold bl__law_packed_2
  simp only [List.getElem?_cons_zero, List.getElem?_cons_succ, List.set_cons_zero, List.set_cons_succ, a_sSeq, a_sSet, a_lift, a_x2, a_xVar, a_xC, bnd_s, a_ii, e3, if_pos c2, hq, if_pos c3, if_pos c4, e4, a_sFor, a_xRng2, a_aCons, a_aNil, if_pos c1, e2, a_xLen, a_qL, e6, r1, r2, e5, and_self, if_true, h1]
theorem v_packed (b E : Nat → Int) (N s : Nat) (a tw : Int) (hN1 : 1 ≤ N) (hN : N ≤ 64) (hs0 : 0 < s) (hs : s ≤ 64) (hE0 : E 0 = 1) (hE : ∀ m : Nat, ((m : Int) + 1) * E (m + 1) = (a + (m : Int) * tw) * E m) (bE : ∀ m, m ≤ 64 → (E m).natAbs < 2 ^ 7000) (bb : ∀ x, x < 64 → Wb (b x)) (ba : a.natAbs < 2 ^ 100) (ht : tw.natAbs ≤ 1) :
    m__law_packed [.lst (df b N), .int s, .int a, .int tw] = some (df (cv (spread s E) b) N) := by
  have hM : ∀ j, j < (N - 1) / s → (j + 1) * s < N := fun j hj => by
    have := (Nat.le_div_iff_mul_le hs0).mp (show j + 1 ≤ (N - 1) / s by omega)
    omega
  have hMb : (N - 1) / s ≤ 64 := Nat.le_trans (Nat.div_le_self _ _) (by omega)
  have hl := loop_rng (gt := gN 6) (bl := bl__law_packed_2) 1 ((N - 1) / s) (fun i β => ∃ x y, β = [some (.dat (.lst (df b N))), some (.dat (.int s)), some (.dat (.int a)), some (.dat (.int tw)), some (.own (.lst (df (Gm E b s i) N))), some (.dat (.int (E i))), x, y])
    [some (.dat (.lst (df b N))), some (.dat (.int s)), some (.dat (.int a)), some (.dat (.int tw)), some (.own (.lst (df b N))), some (.dat (.int 1)), none, none]
    ⟨none, none, by rw [hE0, df_ext (f := Gm E b s 0) (g := b) fun i _ => Gm_zero hE0]⟩
    (fun j hj β ⟨x, y, hb⟩ => by
      subst hb
      obtain ⟨z, hz⟩ := outer_turn b E N s j a tw x y hN (by omega) hs0 hs (hM j hj) hE bE bb ba ht
      exact ⟨_, _, rfl, hz, _, z, rfl⟩)
  obtain ⟨δ, h1, x, y, h2⟩ := hl
  subst h2
  rw [df_ext (f := Gm E b s ((N - 1) / s)) (g := cv (spread s E) b) fun i hi => Gm_end hs0 (Nat.div_le_div_right (by omega))] at h1
  have c1 : CDivW ((N : Int) - 1) (s : Int) := divW_of' (by omega) (by omega)
  have e1 : ((N : Int) - 1) / (s : Int) = (((N - 1) / s : Nat) : Int) := by
    rw [Int.natCast_ediv]; congr 1; omega
  have e3 : (df b N).length = N := df_len
  have : ∃ β, b__law_packed (inP 8 4 [.lst (df b N), .int s, .int a, .int tw]) = .ret (.lst (df (cv (spread s E) b) N)) β := by
    generalize df (cv (spread s E) b) N = L2 at *
    generalize df b N = B at *
    generalize (N - 1) / s = M at *
    have r1 : rngOk ((M : Int) + 1) = true := rngOk_of (by omega) (by omega)
    have e2 : ((M : Int) + 1 - 1).toNat = M := by omega
    generalize E M = em at *
    clear bb hE bE
    show ∃ β, b__law_packed [some (.dat (.lst B)), some (.dat (.int s)), some (.dat (.int a)), some (.dat (.int tw)), none, none, none, none] = _
    unfold b__law_packed
    simp only [List.getElem?_cons_zero, List.getElem?_cons_succ, List.set_cons_zero, List.set_cons_succ, a_sSeq, a_sSet, a_sSetL, a_lift, a_liftL, a_x2, a_xVar, a_xC, bnd_s, a_ii, if_pos c1, e1, e3, a_sFor, a_xRng2, a_aCons, a_aNil, a_xLen, a_qL, r1, rngOk_1, e2, and_self, if_true, h1, a_sRetO]
    exact ⟨_, rfl⟩
  obtain ⟨β, e⟩ := this
  exact runL_lst rfl e
/-- the sizes packed -/
theorem v_bags (a : Nat → Int) (E : Nat → Nat → Int) (N : Nat) (tw : Int) (hN1 : 1 ≤ N) (hN : N ≤ 64) (hE0 : ∀ t, E t 0 = 1) (hE : ∀ t, t < N → ∀ m : Nat, ((m : Int) + 1) * E t (m + 1) = (a t + (m : Int) * tw) * E t m) (bE : ∀ t, t < N → ∀ m, m ≤ 64 → (E t m).natAbs < 2 ^ 7000) (bb : ∀ t, t < N → ∀ x, x < 64 → Wb (pk E t x)) (ba : ∀ t, (a t).natAbs < 2 ^ 100) (ht : tw.natAbs ≤ 1) :
    m__law_bags [.lst (df a N), .int tw] = some (.lst (df (pk E (N - 1)) N)) := by
  have hl := loop_rng (gt := gN 4) (bl := bl__law_bags_1) 1 (N - 1) (fun i β => ∃ x, β = [some (.dat (.lst (df a N))), some (.dat (.int tw)), some (.dat (.lst (df (pk E i) N))), none, x])
    [some (.dat (.lst (df a N))), some (.dat (.int tw)), some (.dat (.lst (df (pk E 0) N))), none, none] ⟨none, rfl⟩
    (fun j hj β ⟨x, hb⟩ => by
      subst hb
      refine ⟨_, _, rfl, ?_, some (.dat (.int (1 + (j : Int)))), rfl⟩
      have h := v_packed (pk E j) (E (j + 1)) N (j + 1) (a (j + 1)) tw hN1 hN (by omega) (by omega) (hE0 _) (hE (j + 1) (by omega)) (bE (j + 1) (by omega)) (bb j (by omega)) (ba _) ht
      have e1 : (1 : Int) + (j : Int) = ((j + 1 : Nat) : Int) := by omega
      have e2 : atI (df a N) ((j + 1 : Nat) : Int) = some (.int (a (j + 1))) := df_at rfl (by omega)
      have e3 : pk E (j + 1) = cv (spread (j + 1) (E (j + 1))) (pk E j) := rfl
      rw [e1, e3]
      generalize df (cv (spread (j + 1) (E (j + 1))) (pk E j)) N = L2 at *
      generalize df (pk E j) N = L1 at *
      generalize df a N = L0 at *
      generalize ((j + 1 : Nat) : Int) = jj at *
      generalize a (j + 1) = aj at *
      clear hE bE bb ba
      show bl__law_bags_1 [some (.dat (.lst L0)), some (.dat (.int tw)), some (.dat (.lst L1)), none, some (.dat (.int jj))] = _
      unfold bl__law_bags_1
      simp [e2, h])
  obtain ⟨δ, h1, x, h2⟩ := hl
  subst h2
  have e0 : df (pk E 0) N = .int 1 :: (List.range (N - 1)).map fun (_ : Nat) => D.int 0 := by
    obtain ⟨M, rfl⟩ : ∃ M, N = M + 1 := ⟨N - 1, by omega⟩
    unfold df
    rw [List.range_succ_eq_map, List.map_cons, List.map_map]
    rfl
  have r1 : rngOk (((N - 1 : Nat)) : Int) = true := rngOk_nat (by omega)
  have r2 : rngOk ((N : Nat) : Int) = true := rngOk_nat (by omega)
  have e1 : (N : Int) - 1 = ((N - 1 : Nat) : Int) := by omega
  have e2 : (((N - 1 : Nat) : Int)).toNat = N - 1 := rfl
  have e3 : (df a N).length = N := df_len
  have e4 : rngD 0 (N - 1) = (List.range (N - 1)).map fun (k : Nat) => D.int (0 + (k : Int)) := rfl
  have e5 : ((List.range (N - 1)).map fun (k : Nat) => D.int (0 + (k : Int))).length ≤ 100000 := by simp; omega
  have e6 : lcF (gN 3) tbYes (xC (.int 0)) ((List.range (N - 1)).map fun (k : Nat) => D.int (0 + (k : Int))) [some (.dat (.lst (df a N))), some (.dat (.int tw)), none, none, none] = some ((List.range (N - 1)).map fun (_ : Nat) => D.int 0) := lcF_map fun d _ => ⟨_, rfl, rfl, rfl⟩
  have e7 : (.int 1 :: (List.range (N - 1)).map fun (_ : Nat) => D.int 0 : List D).length ≤ 100000 := by simp; omega
  have : ∃ β, b__law_bags (inP 5 2 [.lst (df a N), .int tw]) = .ret (.dat (.lst (df (pk E (N - 1)) N))) β := by
    rw [e0] at h1
    generalize df (pk E (N - 1)) N = L2 at *
    generalize df a N = L0 at *
    generalize ((List.range (N - 1)).map fun (k : Nat) => D.int (0 + (k : Int))) = rs at *
    generalize ((List.range (N - 1)).map fun (_ : Nat) => D.int 0) = zs at *
    generalize (N - 1 : Nat) = M at *
    clear hE bE bb ba e0
    show ∃ β, b__law_bags [some (.dat (.lst L0)), some (.dat (.int tw)), none, none, none] = _
    unfold b__law_bags
    rw [List.length_cons] at e7
    have e7' : 1 + zs.length ≤ 100000 := by omega
    simp [e1, e2, e3, e4, e5, e6, e7', r1, r2, h1]
  obtain ⟨β, e⟩ := this
  exact runP_dat rfl e
end W_k21
end
section
set_option maxRecDepth 100000
set_option maxHeartbeats 1000000
namespace W_k21
open PySem L2 PyProof.Rows PySem.Spec Ab PowS
/-- the mathematics whole: due and found are one list -/
theorem both (as : List Int) (hal : as.length ≤ 40) (hb : ∀ a ∈ (0 :: as), 0 ≤ a ∧ a < 1000000000000000000000000000000) :
    ∃ R : List Int, R.length ≤ 64 ∧ m__law_bags [.lst ((0 :: as).map .int), (.int (-1))] = some (.lst (R.map .int)) ∧ m_choice_counts [.lst ((0 :: as).map .int)] = some (R.map .int) := by
  obtain ⟨l, hl⟩ : ∃ l, l = 0 :: as := ⟨_, rfl⟩
  rw [← hl] at hb ⊢
  obtain ⟨N, hN⟩ : ∃ N, N = l.length := ⟨_, rfl⟩
  have hN1 : 1 ≤ N := by rw [hN, hl]; simp
  have hN64 : N ≤ 41 := by rw [hN, hl]; simp; omega
  obtain ⟨a, ha⟩ : ∃ a : Nat → Nat, a = fun i => (l.getD i 0).toNat := ⟨_, rfl⟩
  have h0 : ∀ i, ((a i : Nat) : Int) = l.getD i 0 ∧ l.getD i 0 < 1000000000000000000000000000000 := fun i => by
    have : 0 ≤ l.getD i 0 ∧ l.getD i 0 < 1000000000000000000000000000000 := by
      rw [List.getD_eq_getElem?_getD]
      by_cases h : i < l.length
      · rw [List.getElem?_eq_getElem h]; exact hb _ (List.getElem_mem h)
      · rw [List.getElem?_eq_none (by omega)]; decide
    rw [ha]
    exact ⟨Int.toNat_of_nonneg this.1, this.2⟩
  have hlist : l.map D.int = df (fun i => ((a i : Nat) : Int)) N := by
    rw [ints_df, hN]
    exact df_ext fun i _ => (h0 i).1.symm
  have p100 : (2 : Nat) ^ 100 = 1267650600228229401496703205376 := by decide
  have aB : ∀ i, a i < 2 ^ 100 := fun i => by have := h0 i; omega
  have aI : ∀ i, (((a i : Nat) : Int)).natAbs < 2 ^ 100 := fun i => by have := aB i; omega
  have hsmall : ∀ t m, m ≤ 64 → a t + m < 2 ^ 101 := fun t m hm => by have := aB t; omega
  have hEb : ∀ t m, m < 64 → (cho (a t) m).natAbs ≤ 2 ^ (101 * 63) := fun t m hm => Nat.le_trans (cho_bd 101 (a t) m (hsmall t m (by omega))) (pow_mono (by omega))
  have hPk := pk_bd (E := fun t => cho (a t)) (N := 64) (b := 101 * 63) (by decide) hEb
  have hWb : ∀ t, t < 41 → ∀ x, x < 64 → Wb (pk (fun t => cho (a t)) t x) := fun t ht x hx => Nat.lt_of_le_of_lt (hPk t x hx) (by
    refine Nat.pow_lt_pow_right (by decide) ?_
    have := Nat.mul_le_mul_left (6 + 101 * 63) (show t ≤ 40 by omega)
    omega)
  have hW : ∀ t m : Nat, (m : Int) * cho (a t) m = sm (fun j => cho (a t) j * (fun (t j : Nat) => sgn j * ((a t : Nat) : Int)) t (m - j)) m := fun t m => cho_sum (a t) m
  have hlog := log_pk_g (E := fun t => cho (a t)) (w := fun t j => sgn j * ((a t : Nat) : Int)) hW (N - 1)
  obtain ⟨P, hP⟩ : ∃ P, P = pk (fun t => cho (a t)) (N - 1) := ⟨_, rfl⟩
  obtain ⟨c, hc⟩ : ∃ c, c = wsg (fun t j => sgn j * ((a t : Nat) : Int)) (N - 1) := ⟨_, rfl⟩
  rw [← hP, ← hc] at hlog
  have c0 : c 0 = 0 := by rw [hc]; exact wsg_zero _ _
  have hcw : ∀ k, k < N → c k = wtf (fun i => ((a i : Nat) : Int)) k := fun k hk => by
    by_cases hk0 : k = 0
    · subst hk0; rw [c0]; rfl
    · rw [hc, wsg_more _ (by omega) (by omega), wsg_dvs]
      unfold wtf
      congr 1
      refine List.map_congr_left fun t _ => ?_
      have : sgn (k / (t + 1)) = sg k t := by
        unfold sgn sg
        have := Nat.mod_lt (k / (t + 1)) (show 0 < 2 by decide)
        by_cases h : k / (t + 1) % 2 = 1
        · rw [if_pos h, h]; rfl
        · rw [if_neg h, show k / (t + 1) % 2 = 0 by omega]; rfl
      show ((t + 1 : Nat) : Int) * (sgn (k / (t + 1)) * ((a (t + 1) : Nat) : Int)) = _
      rw [this, Int.mul_comm (sg k t), Int.mul_assoc]
  have p0 : P 0 = 1 := by rw [hP]; exact pk_zero (fun t => cho_zero _) _
  have hq : ∀ n, n < N → n ≠ 0 → sm (fun k => c (k + 1) * P (n - (k + 1))) n / (n : Int) = P n := fun n _ h => (quot hlog c0 h).2
  have bc : ∀ x, x < 64 → (c x).natAbs < 2 ^ 200 := fun x hx => by
    have h1 : (c x).natAbs ≤ (N - 1) * (64 * 2 ^ 100) := by
      rw [hc]
      refine sm_bd fun t ht => ?_
      unfold stepw
      split
      · rw [Int.natAbs_mul]
        refine Nat.mul_le_mul (by omega) ?_
        show (sgn _ * _).natAbs ≤ _
        rw [Int.natAbs_mul]
        have h5 : ∀ q, (sgn q).natAbs = 1 := fun q => by unfold sgn; split <;> rfl
        rw [h5, Nat.one_mul]
        exact Nat.le_of_lt (aI _)
      · simp
    have h2 : (N - 1) * (64 * 2 ^ 100) ≤ 64 * (64 * 2 ^ 100) := Nat.mul_le_mul_right _ (by omega)
    have h3 : (64 : Nat) * (64 * 2 ^ 100) < 2 ^ 200 := by decide
    omega
  have bP : ∀ x, x < 64 → Wb (P x) := by rw [hP]; exact hWb (N - 1) (by omega)
  have hg := grow_eq (fun i => ((a i : Nat) : Int)) c P N (by omega) aI hcw p0 hq bP bc N 0 (by omega)
  have hB := v_bags (fun i => ((a i : Nat) : Int)) (fun t => cho (a t)) N (-1) hN1 (by omega) (fun t => cho_zero _) (fun t _ m => by rw [Int.mul_neg, Int.mul_one, ← Int.sub_eq_add_neg]; exact cho_step (a t) m)
    (fun t _ m hm => Nat.lt_of_le_of_lt (cho_bd 101 (a t) m (hsmall t m hm)) (Nat.lt_of_le_of_lt (pow_mono (show 101 * m ≤ 101 * 64 by omega)) (Nat.pow_lt_pow_right (by decide) (by decide))))
    (fun t ht => hWb t (by omega)) aI (by decide)
  refine ⟨(List.range N).map P, by simp; omega, ?_, ?_⟩
  · rw [hlist, hB, ← hP, df_ints]
  · unfold m_choice_counts
    rw [hlist]
    show (if (df (fun i => ((a i : Nat) : Int)) N).length ≤ 1000 ∧ (df (fun i => ((a i : Nat) : Int)) N).all flat = true then _ else none) = _
    rw [if_pos ⟨by rw [df_len]; omega, List.all_eq_true.mpr fun d hd => by obtain ⟨x, _, rfl⟩ := List.mem_map.mp hd; rfl⟩]
    rw [← List.range_eq_range'] at hg
    rw [← df_ints]
    exact hg
theorem goal : ∀ ns : List Int, ns.length ≤ 63 → m_law [.lst (ns.map .int)] = some (.bl true) := fun ns hl => by
  obtain ⟨as, e1, hal, hb⟩ := v_amounts ns hl
  obtain ⟨R, hR, e2, e3⟩ := both as hal hb
  generalize 0 :: as = l at *
  have hrow := v_is_row R (by omega)
  have hRl : R.length < 100000 := by omega
  have : ∃ β, b_law (inP 5 1 [.lst (ns.map .int)]) = .ret (.dat (.bl true)) β := by
    unfold b_law inP
    simp [CPow, e1, e2, e3, hrow, neQ_ints, eqQ_ints, lendD, flat, putC, hRl]
  obtain ⟨β, e⟩ := this
  exact runP_dat rfl e
end W_k21
end
open PySem PySem.W PyProof.Rows
set_option maxRecDepth 100000 in
set_option maxHeartbeats 0 in
theorem PySem.Challenge.cw_figurebook_k21_choices_packed_holds : PySem.Challenge.rw_figurebook_k21_choices_packed.Holds := by
  w_on; o_law; k_head; (case hw => w_witness2)
  k_fill
  refine L2.walk_of (l := PySem.Challenge.rw_figurebook_k21_choices_packed) (n := 63) (k := 11) (x := "_law_script") (CX := fun _ => L2.CX0) (sp := fun w => Ab.spLaw _) rfl (by decide) rfl ⟨rfl, by decide, by decide⟩ (fun w h Y => PySem.W.kIn_of Y) ?F (fun _ _ a ns hl _ hS => ⟨a, ns, rfl, hS, hl, fun _ => rfl⟩) (fun _ _ _ _ _ h => h)
  case F =>
    intro w mg fa h KX G hmg
    refine' W_k21.all_mk KX G hmg ?a_divisors ?l_divisors ?c_divisors ?k_divisors ?a__law_whole ?l__law_whole ?c__law_whole ?k__law_whole ?a__law_is_row ?l__law_is_row ?c__law_is_row ?k__law_is_row ?a__law_amounts ?l__law_amounts ?c__law_amounts ?k__law_amounts ?a__law_packed ?l__law_packed ?c__law_packed ?k__law_packed ?a__law_bags ?l__law_bags ?c__law_bags ?k__law_bags ?a_law ?l_law ?c_law ?k_law ?zz_bool ?zz_int ?zz_isinstance ?zz_len ?zz_list ?zz_range ?zz_sum (W_k21.rows_mk KX G ?e_aC ?e_aC0 ?e_rd ?e_ga ?e_pg ?e_hd ?e_po ?e_sa ?e_mk ?e_kc ?e_n1 ?e_n2 ?e_n3 ?e_a1 ?e_i1 ?e_l1 ?e_c1 ?e_k1 ?e_a2 ?e_i2 ?e_l2 ?e_c2 ?e_k2 ?e_a3 ?e_i3 ?e_l3 ?e_c3 ?e_k3 ?e_a4 ?e_l4 ?e_c4 ?e_k4 ?e_a5 ?e_l5 ?e_c5 ?e_k5 ?e_a6 ?e_i6 ?e_l6 ?e_c6 ?e_k6 ?e_a7 ?e_l7 ?e_c7 ?e_k7 ?e_a8 ?e_l8 ?e_c8 ?e_k8 ?e_z1 ?e_z2 ?e_z3 ?e_z4 ?e_z5 ?e_z6 ?e_z7) W_k21.goal
    (case e_aC => k_is); (case e_aC0 => k_is); (case e_rd => k_is); (case e_ga => k_is); (case e_pg => k_is); (case e_hd => k_is)
    (case e_po => k_is); (case e_sa => k_is); (case e_mk => k_is); (case e_kc => k_is); (case e_n1 => k_is); (case e_n2 => k_is)
    (case e_n3 => k_is); (case e_a1 => k_is); (case e_i1 => k_is); (case e_l1 => k_is); (case e_c1 => k_is); (case e_k1 => k_is)
    (case e_a2 => k_is); (case e_i2 => k_is); (case e_l2 => k_is); (case e_c2 => k_is); (case e_k2 => k_is); (case e_a3 => k_is)
    (case e_i3 => k_is); (case e_l3 => k_is); (case e_c3 => k_is); (case e_k3 => k_is); (case e_a4 => k_is); (case e_l4 => k_is)
    (case e_c4 => k_is); (case e_k4 => k_is); (case e_a5 => k_is); (case e_l5 => k_is); (case e_c5 => k_is); (case e_k5 => k_is)
    (case e_a6 => k_is); (case e_i6 => k_is); (case e_l6 => k_is); (case e_c6 => k_is); (case e_k6 => k_is); (case e_a7 => k_is)
    (case e_l7 => k_is); (case e_c7 => k_is); (case e_k7 => k_is); (case e_a8 => k_is); (case e_l8 => k_is); (case e_c8 => k_is)
    (case e_k8 => k_is); (case e_z1 => k_is); (case e_z2 => k_is); (case e_z3 => k_is); (case e_z4 => k_is); (case e_z5 => k_is)
    (case e_z6 => k_is); (case e_z7 => k_is)
    (case a_divisors => k_is); (case l_divisors => k_is); (case c_divisors => k_is); (case k_divisors => k_is); (case a__law_whole => k_is); (case l__law_whole => k_is)
    (case c__law_whole => k_is); (case k__law_whole => k_is); (case a__law_is_row => k_is); (case l__law_is_row => k_is); (case c__law_is_row => k_is); (case k__law_is_row => k_is)
    (case a__law_amounts => k_is); (case l__law_amounts => k_is); (case c__law_amounts => k_is); (case k__law_amounts => k_is); (case a__law_packed => k_is); (case l__law_packed => k_is)
    (case c__law_packed => k_is); (case k__law_packed => k_is); (case a__law_bags => k_is); (case l__law_bags => k_is); (case c__law_bags => k_is); (case k__law_bags => k_is)
    (case a_law => k_is); (case l_law => k_is); (case c_law => k_is); (case k_law => k_is); (case zz_bool => k_is); (case zz_int => k_is)
    (case zz_isinstance => k_is); (case zz_len => k_is); (case zz_list => k_is); (case zz_range => k_is); (case zz_sum => k_is)
#print axioms PySem.Challenge.cw_figurebook_k21_choices_packed_holds
