import PyProof.Rows.All
import Wide.All
import OpenK.AllK
import Wide.FinOn
import HandS.ForMost
import HandS.TupAny
import HandS.Rev
import HandS.IsInst
import KE.GoesMore
import KE.GoesEnum
import HandS.Wide
import KE.RegKIsAll
import HandS.Text
import HandS.More
import HandS.Zip0
import HandS.Iter
import HandS.Strs
import KE.LcSums
import HandS.ClsMeth
import HandS.ExcInit
import HandS.ExcOwn
import HandS.WordsExc
import HandS.TryOnly
import HandS.ExcIs
import HandS.ExcField
import KE.KExcIs
import HandS.Set
import HandS.SetFor
import HandS.SetKeys
import PySem.Challenge.RW_figurebook_k15_writing_texts_refused
set_option Elab.async false
set_option linter.all false
section
set_option maxRecDepth 100000
set_option maxHeartbeats 1000000
namespace Ab
open PySem L2

/-- data: values that never change -/
inductive D where
  | non | bl (b : Bool) | int (i : Int) | str (s : Str)
  | tup (xs : List D) | lst (xs : List D) | ins (c : String) (fs : List (Str × D))
  | ty (n : String) | cls (c : String)
  | dic (kvs : List (Key × D))

/-- where classes stand -/
structure En where
  K : PySem.W.Frag
  cls : String → Addr

mutual
def Rep (e : En) (F : Hp) : D → V → Prop
  | .non, v => v = .non
  | .bl b, v => v = .bl b
  | .int i, v => v = .int i
  | .str s, v => v = .str s
  | .ty n, v => v = .ty n
  | .cls c, v => v = .ref (e.cls c)
  | .tup ds, v => ∃ a vs, v = .ref a ∧ SqT e.K F a vs ∧ Reps e F ds vs
  | .lst ds, v => ∃ a vs, v = .ref a ∧ SqL e.K F a vs ∧ Reps e F ds vs
  | .ins c fs, v => ∃ a dx gs, v = .ref a ∧ F a = some (.ins (e.cls c) dx gs) ∧ RepF e F fs gs
  | .dic kvs, v => ∃ a od gs, v = .ref a ∧ F a = some (.frz od (.dK gs)) ∧ RepD e F kvs gs
def Reps (e : En) (F : Hp) : List D → List V → Prop
  | [], vs => vs = []
  | d :: ds, vs => ∃ v r, vs = v :: r ∧ Rep e F d v ∧ Reps e F ds r
def RepF (e : En) (F : Hp) : List (Str × D) → List (Str × V) → Prop
  | [], gs => gs = []
  | (x, d) :: fs, gs => ∃ v r, gs = (x, v) :: r ∧ Rep e F d v ∧ RepF e F fs r
def RepD (e : En) (F : Hp) : List (Key × D) → List (Key × V) → Prop
  | [], gs => gs = []
  | (x, d) :: fs, gs => ∃ v r, gs = (x, v) :: r ∧ Rep e F d v ∧ RepD e F fs r
end

theorem same_t {K : PySem.W.Frag} {F F' : Hp} {a : Addr} {vs : List V} (h : Same F F') (t : SqT K F a vs) : SqT K F' a vs := by
  rcases t with (t | ⟨o, t⟩) | t
  · exact .inl (.inl (h _ _ t))
  · exact .inl (.inr ⟨o, h _ _ t⟩)
  · exact .inr t

mutual
theorem Rep.mono {e : En} {F F' : Hp} (h : Same F F') : ∀ (d : D) (v : V), Rep e F d v → Rep e F' d v
  | .non, _, r => r
  | .bl _, _, r => r
  | .int _, _, r => r
  | .str _, _, r => r
  | .ty _, _, r => r
  | .cls _, _, r => r
  | .tup ds, _, ⟨a, vs, q, t, r⟩ => ⟨a, vs, q, same_t h t, Reps.mono h ds vs r⟩
  | .lst ds, _, ⟨a, vs, q, t, r⟩ => ⟨a, vs, q, h.seq t, Reps.mono h ds vs r⟩
  | .ins c fs, _, ⟨a, dx, gs, q, t, r⟩ => ⟨a, dx, gs, q, h _ _ t, RepF.mono h fs gs r⟩
  | .dic kvs, _, ⟨a, od, gs, q, t, r⟩ => ⟨a, od, gs, q, h _ _ t, RepD.mono h kvs gs r⟩
theorem Reps.mono {e : En} {F F' : Hp} (h : Same F F') : ∀ (ds : List D) (vs : List V), Reps e F ds vs → Reps e F' ds vs
  | [], _, r => r
  | d :: ds, _, ⟨v, r, q, x, y⟩ => ⟨v, r, q, Rep.mono h d v x, Reps.mono h ds r y⟩
theorem RepF.mono {e : En} {F F' : Hp} (h : Same F F') : ∀ (fs : List (Str × D)) (gs : List (Str × V)), RepF e F fs gs → RepF e F' fs gs
  | [], _, r => r
  | (x, d) :: fs, _, ⟨v, r, q, y, z⟩ => ⟨v, r, q, Rep.mono h d v y, RepF.mono h fs r z⟩
theorem RepD.mono {e : En} {F F' : Hp} (h : Same F F') : ∀ (fs : List (Key × D)) (gs : List (Key × V)), RepD e F fs gs → RepD e F' fs gs
  | [], _, r => r
  | (x, d) :: fs, _, ⟨v, r, q, y, z⟩ => ⟨v, r, q, Rep.mono h d v y, RepD.mono h fs r z⟩
end
theorem Rep.up {e : En} {F F' : Hp} {d : D} {v : V} (r : Rep e F d v) (h : Same F F') : Rep e F' d v := Rep.mono h d v r
theorem Reps.up {e : En} {F F' : Hp} {d : List D} {v : List V} (r : Reps e F d v) (h : Same F F') : Reps e F' d v := Reps.mono h d v r

section
variable {e : En} {F : Hp}
theorem Reps.len : ∀ {ds : List D} {vs : List V}, Reps e F ds vs → vs.length = ds.length
  | [], _, r => by cases r; rfl
  | d :: ds, _, ⟨v, r, q, x, y⟩ => by subst q; simp [Reps.len y]
theorem Reps.nil : Reps e F [] [] := rfl
theorem Reps.cons {d : D} {ds : List D} {v : V} {vs : List V} (a : Rep e F d v) (b : Reps e F ds vs) : Reps e F (d :: ds) (v :: vs) := ⟨v, vs, rfl, a, b⟩
theorem Reps.append : ∀ {as bs : List D} {us vs : List V}, Reps e F as us → Reps e F bs vs → Reps e F (as ++ bs) (us ++ vs)
  | [], _, _, _, r, s => by cases r; exact s
  | d :: ds, _, _, _, ⟨v, r, q, x, y⟩, s => by subst q; exact Reps.cons x (Reps.append y s)
theorem Reps.get : ∀ {ds : List D} {vs : List V} {i : Nat} {d : D}, Reps e F ds vs → ds[i]? = some d → ∃ v, vs[i]? = some v ∧ Rep e F d v
  | [], _, _, _, _, h => by simp at h
  | d :: ds, _, 0, _, ⟨v, r, q, x, y⟩, h => by subst q; simp at h; subst h; exact ⟨v, rfl, x⟩
  | d :: ds, _, i + 1, _, ⟨v, r, q, x, y⟩, h => by subst q; obtain ⟨w, h1, h2⟩ := Reps.get (i := i) y (by simpa using h); exact ⟨w, by simpa using h1, h2⟩
theorem Reps.getv : ∀ {ds : List D} {vs : List V} {i : Nat} {v : V}, Reps e F ds vs → vs[i]? = some v → ∃ d, ds[i]? = some d ∧ Rep e F d v
  | [], _, _, _, r, h => by cases r; simp at h
  | d :: ds, _, 0, _, ⟨v, r, q, x, y⟩, h => by subst q; simp at h; subst h; exact ⟨d, rfl, x⟩
  | d :: ds, _, i + 1, _, ⟨v, r, q, x, y⟩, h => by subst q; obtain ⟨w, h1, h2⟩ := Reps.getv (i := i) y (by simpa using h); exact ⟨w, by simpa using h1, h2⟩
theorem Reps.take : ∀ {ds : List D} {vs : List V} (n : Nat), Reps e F ds vs → Reps e F (ds.take n) (vs.take n)
  | _, _, 0, _ => by simpa using Reps.nil
  | [], _, n + 1, r => by cases r; exact Reps.nil
  | d :: ds, _, n + 1, ⟨v, r, q, x, y⟩ => by subst q; exact Reps.cons x (Reps.take n y)
theorem Reps.drop : ∀ {ds : List D} {vs : List V} (n : Nat), Reps e F ds vs → Reps e F (ds.drop n) (vs.drop n)
  | _, _, 0, r => by simpa using r
  | [], _, n + 1, r => by cases r; exact Reps.nil
  | d :: ds, _, n + 1, ⟨v, r, q, x, y⟩ => by subst q; simpa using Reps.drop n y
theorem Reps.set : ∀ {ds : List D} {vs : List V} {d : D} {v : V} (n : Nat), Reps e F ds vs → Rep e F d v → Reps e F (ds.set n d) (vs.set n v)
  | [], _, _, _, n, r, _ => by cases r; exact Reps.nil
  | d :: ds, _, _, _, 0, ⟨v, r, q, x, y⟩, z => by subst q; exact Reps.cons z y
  | d :: ds, _, _, _, n + 1, ⟨v, r, q, x, y⟩, z => by subst q; exact Reps.cons x (Reps.set n y z)
theorem Reps.rev : ∀ {ds : List D} {vs : List V}, Reps e F ds vs → Reps e F ds.reverse vs.reverse
  | [], _, r => by cases r; exact Reps.nil
  | d :: ds, _, ⟨v, r, q, x, y⟩ => by subst q; rw [List.reverse_cons, List.reverse_cons]; exact (Reps.rev y).append (Reps.cons x Reps.nil)
end

/-- the heap without what is owned -/
def fz (L : List Addr) (H : Hp) : Hp := fun a => if a ∈ L then none else H a
theorem fz_le {L : List Addr} {H : Hp} : Same (fz L H) H := fun a o h => by
  unfold fz at h; split at h
  · cases h
  · exact h
theorem fz_same {L : List Addr} {H H' : Hp} (h : Same H H') : Same (fz L H) (fz L H') := fun a o q => by
  unfold fz at *; split
  · rename_i m; rw [if_pos m] at q; cases q
  · rename_i m; rw [if_neg m] at q; exact h _ _ q
theorem fz_mut {L : List Addr} {H H' : Hp} (h : ∀ a o, H a = some o → a ∉ L → H' a = some o) : Same (fz L H) (fz L H') := fun a o q => by
  unfold fz at *; split
  · rename_i m; rw [if_pos m] at q; cases q
  · rename_i m; rw [if_neg m] at q; exact h _ _ q m
theorem fz_cons {L : List Addr} {H H' : Hp} {p : Addr} (h : Same H H') (n : H p = none) : Same (fz L H) (fz (p :: L) H') := fun a o q => by
  unfold fz at *
  split at q
  · cases q
  · rename_i m
    have hp : a ≠ p := ne_of_none q n
    rw [if_neg (by simp [hp, m])]
    exact h _ _ q
theorem fz_anti {L L' : List Addr} {H : Hp} (h : ∀ a ∈ L', a ∈ L) : Same (fz L H) (fz L' H) := fun a o q => by
  unfold fz at *
  split at q
  · cases q
  · rename_i m
    rw [if_neg fun z => m (h a z)]
    exact q

/-- what stands at an owned address -/
inductive Ct where
  | lst (xs : List D) | obj (c : String) (fs : List (Str × D)) | dic (kvs : List (Key × D))
inductive A where
  | dat (d : D) | own (c : Ct) | inn (c : Ct) | adr (a : Addr)
abbrev State := List (Option A)

def RepK (e : En) (F : Hp) (kvs : List (Key × D)) (gs : List (Key × V)) : Prop := gs.map (·.1) = kvs.map (·.1) ∧ Reps e F (kvs.map (·.2)) (gs.map (·.2))
theorem RepK.toD {e : En} {F : Hp} : ∀ {kvs : List (Key × D)} {gs : List (Key × V)}, RepK e F kvs gs → RepD e F kvs gs
  | [], [], _ => rfl
  | [], _ :: _, ⟨h, _⟩ => by cases h
  | (k, d) :: kvs, [], ⟨h, _⟩ => by cases h
  | (k, d) :: kvs, (k', v') :: gs, ⟨h, v, r, q, r1, r2⟩ => by
    simp only [List.map_cons, List.cons.injEq] at h q
    obtain ⟨rfl, h2⟩ := h
    obtain ⟨rfl, q2⟩ := q
    exact ⟨v', gs, rfl, r1, RepK.toD ⟨h2, by rw [q2]; exact r2⟩⟩
theorem RepD.toK {e : En} {F : Hp} : ∀ {kvs : List (Key × D)} {gs : List (Key × V)}, RepD e F kvs gs → RepK e F kvs gs
  | [], _, h => by cases h; exact ⟨rfl, rfl⟩
  | (k, d) :: kvs, _, ⟨v, r, q, r1, r2⟩ => by
    subst q
    obtain ⟨h1, h2⟩ := RepD.toK r2
    exact ⟨by simp only [List.map_cons, h1], v, _, rfl, r1, h2⟩
def RepC (e : En) (F : Hp) : Ct → HO → Prop
  | .lst xs, o => ∃ vs, o = .lst vs ∧ Reps e F xs vs
  | .obj c fs, o => ∃ dx gs, o = .ins (e.cls c) dx gs ∧ RepF e F fs gs
  | .dic kvs, o => ∃ gs, o = .dK gs ∧ RepK e F kvs gs
theorem RepC.up {e : En} {F F' : Hp} {c : Ct} {o : HO} (h : Same F F') (r : RepC e F c o) : RepC e F' c o := by
  cases c with
  | lst xs => obtain ⟨vs, q, r⟩ := r; exact ⟨vs, q, r.up h⟩
  | obj c fs => obtain ⟨dx, gs, q, r⟩ := r; exact ⟨dx, gs, q, RepF.mono h _ _ r⟩
  | dic kvs => obtain ⟨gs, q, k, r⟩ := r; exact ⟨gs, q, k, r.up h⟩

/-- a def's entry: who owns what, what may change, the heap, the arguments -/
structure Cn where
  L0 : List Addr
  S0 : List Addr
  H0 : Hp
  σ0 : L2.St

def Mod (S : List Addr) (H H' : Hp) : Prop := ∀ a o, H a = some o → a ∉ S → H' a = some o
theorem Mod.of {S : List Addr} {H H' : Hp} (h : Same H H') : Mod S H H' := fun a o q _ => h a o q
theorem Mod.trans {S : List Addr} {H H1 H2 : Hp} (a : Mod S H H1) (b : Mod S H1 H2) : Mod S H H2 := fun x o h n => b x o (a x o h n) n
theorem Mod.refl {S : List Addr} {H : Hp} : Mod S H H := fun _ _ h _ => h

def RepA (e : En) (c : Cn) (L S : List Addr) (H : Hp) (i : Nat) (v : V) : A → Prop
  | .dat d => Rep e (fz L H) d v
  | .own ct => ∃ p o, v = .ref p ∧ p ∈ S ∧ c.H0 p = none ∧ H p = some o ∧ RepC e (fz L H) ct o
  | .inn ct => ∃ p o, v = .ref p ∧ p ∈ S ∧ c.σ0[i]? = some (some v) ∧ H p = some o ∧ RepC e (fz L H) ct o
  | .adr b => v = .ref b

def isOwn : Option (Option A) → Bool
  | some (some (.own _)) => true
  | some (some (.inn _)) => true
  | _ => false

structure Rel (e : En) (c : Cn) (L S : List Addr) (σ : L2.St) (H : Hp) (α : State) : Prop where
  slot : ∀ (i : Nat) (a : A), α[i]? = some (some a) → ∃ v, σ[i]? = some (some v) ∧ RepA e c L S H i v a
  sep : ∀ (i j : Nat) (p : Addr), isOwn α[i]? = true → isOwn α[j]? = true → σ[i]? = some (some (V.ref p)) → σ[j]? = some (some (V.ref p)) → i = j
  dom : ∀ p ∈ L, H p ≠ none
  sub : ∀ p ∈ S, p ∈ L
  l0 : ∀ p ∈ c.L0, p ∈ L
  l1 : ∀ p ∈ L, p ∈ c.L0 ∨ c.H0 p = none
  s1 : ∀ p ∈ S, p ∈ c.S0 ∨ c.H0 p = none
  md : Mod c.S0 c.H0 H
  s0 : ∀ p ∈ c.S0, p ∈ c.L0
  d0 : ∀ p ∈ c.L0, c.H0 p ≠ none
  len : σ.length = α.length

section
variable {e : En} {c : Cn} {L S : List Addr} {σ : L2.St} {H H' : Hp} {α : State}
theorem RepA.up {i : Nat} {v : V} {a : A} (h : Same H H') (r : RepA e c L S H i v a) : RepA e c L S H' i v a := by
  cases a with
  | dat d => exact Rep.up (d := d) r (fz_same h)
  | adr _ => exact r
  | own ct => obtain ⟨p, o, q, m, n, ho, rc⟩ := r; exact ⟨p, o, q, m, n, h _ _ ho, rc.up (fz_same h)⟩
  | inn ct => obtain ⟨p, o, q, m, n, ho, rc⟩ := r; exact ⟨p, o, q, m, n, h _ _ ho, rc.up (fz_same h)⟩
theorem Rel.up (r : Rel e c L S σ H α) (h : Same H H') : Rel e c L S σ H' α where
  slot := fun i a q => let ⟨v, h1, h2⟩ := r.slot i a q; ⟨v, h1, h2.up h⟩
  sep := r.sep
  dom := fun p m z => by
    cases q : H p with
    | none => exact r.dom p m q
    | some o => rw [h p o q] at z; cases z
  sub := r.sub
  l0 := r.l0
  l1 := r.l1
  s1 := r.s1
  md := r.md.trans (.of h)
  s0 := r.s0
  d0 := r.d0
  len := r.len
theorem Rel.h0 (r : Rel e c L S σ H α) {p : Addr} (n : H p = none) : c.H0 p = none := by
  cases q : c.H0 p with
  | none => rfl
  | some o =>
    by_cases m : p ∈ c.S0
    · exact absurd n (r.dom p (r.l0 p (r.s0 p m)))
    · have := r.md p o q m
      rw [n] at this; cases this
theorem getset {β : Type} {l : List β} {i j : Nat} {x : β} : (l.set i x)[j]? = if i = j then (if j < l.length then some x else none) else l[j]? := by
  rw [List.getElem?_set]
  split
  · rename_i h; subst h; rfl
  · rfl
/-- a slot is given data -/
theorem Rel.setD {i : Nat} {v : V} {d : D} (r : Rel e c L S σ H α) (h : Rep e (fz L H) d v) : Rel e c L S (σ.set i (some v)) H (α.set i (some (.dat d))) where
  slot := fun j a q => by
    rw [getset] at q
    rw [getset]
    by_cases e1 : i = j
    · rw [if_pos e1] at q ⊢
      split at q
      · rename_i hl
        cases q
        rw [if_pos (by rw [r.len]; exact hl)]
        exact ⟨v, rfl, h⟩
      · cases q
    · rw [if_neg e1] at q ⊢
      exact r.slot j a q
  sep := fun j k p hj hk sj sk => by
    rw [getset] at hj hk sj sk
    by_cases e1 : i = j
    · rw [if_pos e1] at hj
      split at hj <;> simp [isOwn] at hj
    · by_cases e2 : i = k
      · rw [if_pos e2] at hk
        split at hk <;> simp [isOwn] at hk
      · rw [if_neg e1] at hj sj; rw [if_neg e2] at hk sk
        exact r.sep j k p hj hk sj sk
  dom := r.dom
  sub := r.sub
  l0 := r.l0
  l1 := r.l1
  s1 := r.s1
  md := r.md
  s0 := r.s0
  d0 := r.d0
  len := by rw [List.length_set, List.length_set]; exact r.len
/-- a new object becomes a slot's own -/
theorem Rel.setO {i : Nat} {p : Addr} {o : HO} {ct : Ct} (r : Rel e c L S σ H α) (s : Same H H') (n : H p = none) (ho : H' p = some o) (rc : RepC e (fz (p :: L) H') ct o) :
    Rel e c (p :: L) (p :: S) (σ.set i (some (.ref p))) H' (α.set i (some (.own ct))) where
  slot := fun j a q => by
    rw [getset] at q
    rw [getset]
    by_cases e1 : i = j
    · rw [if_pos e1] at q ⊢
      split at q
      · rename_i hl
        cases q
        rw [if_pos (by rw [r.len]; exact hl)]
        exact ⟨_, rfl, p, o, rfl, by simp, r.h0 n, ho, rc⟩
      · cases q
    · rw [if_neg e1] at q ⊢
      obtain ⟨v, h1, h2⟩ := r.slot j a q
      refine ⟨v, h1, ?_⟩
      cases a with
      | dat d => exact Rep.up (d := d) h2 (fz_cons s n)
      | adr _ => exact h2
      | own ct => obtain ⟨p', o, q, m, n', ho, rc⟩ := h2; exact ⟨p', o, q, List.mem_cons_of_mem _ m, n', s _ _ ho, rc.up (fz_cons s n)⟩
      | inn ct => obtain ⟨p', o, q, m, n', ho, rc⟩ := h2; exact ⟨p', o, q, List.mem_cons_of_mem _ m, n', s _ _ ho, rc.up (fz_cons s n)⟩
  sep := fun j k q hj hk sj sk => by
    have fresh : ∀ j, i ≠ j → isOwn α[j]? = true → σ[j]? ≠ some (some (V.ref p)) := fun j _ hj z => by
      cases ha : α[j]? with
      | none => rw [ha] at hj; simp [isOwn] at hj
      | some x =>
        cases x with
        | none => rw [ha] at hj; simp [isOwn] at hj
        | some a =>
          obtain ⟨v, h1, h2⟩ := r.slot j a ha
          rw [h1] at z; cases z
          cases a with
          | dat d => rw [ha] at hj; simp [isOwn] at hj
          | adr _ => rw [ha] at hj; simp [isOwn] at hj
          | own ct => obtain ⟨p', o, q, m, n', ho, rc⟩ := h2; cases q; rw [n] at ho; cases ho
          | inn ct => obtain ⟨p', o, q, m, n', ho, rc⟩ := h2; cases q; rw [n] at ho; cases ho
    rw [getset] at hj hk sj sk
    by_cases e1 : i = j
    · by_cases e2 : i = k
      · omega
      · rw [if_neg e2] at hk sk
        rw [if_pos e1] at sj
        split at sj
        · cases sj; exact absurd sk (fresh k e2 hk)
        · cases sj
    · rw [if_neg e1] at hj sj
      by_cases e2 : i = k
      · rw [if_pos e2] at sk
        split at sk
        · cases sk; exact absurd sj (fresh j e1 hj)
        · cases sk
      · rw [if_neg e2] at hk sk
        exact r.sep j k q hj hk sj sk
  dom := fun q m z => by
    rcases List.mem_cons.mp m with rfl | m
    · rw [ho] at z; cases z
    · exact (r.up s).dom q m z
  sub := fun q m => by
    rcases List.mem_cons.mp m with rfl | m
    · simp
    · exact List.mem_cons_of_mem _ (r.sub q m)
  l0 := fun q m => List.mem_cons_of_mem _ (r.l0 q m)
  l1 := fun q m => by
    rcases List.mem_cons.mp m with rfl | m
    · exact .inr (r.h0 n)
    · exact r.l1 q m
  s1 := fun q m => by
    rcases List.mem_cons.mp m with rfl | m
    · exact .inr (r.h0 n)
    · exact r.s1 q m
  md := r.md.trans (.of s)
  s0 := r.s0
  d0 := r.d0
  len := by rw [List.length_set, List.length_set]; exact r.len
def ctOf : Option (Option A) → Option Ct
  | some (some (.own c)) => some c
  | some (some (.inn c)) => some c
  | _ => none
def putC (α : State) (i : Nat) (ct : Ct) : State := match α[i]? with
  | some (some (.own _)) => α.set i (some (.own ct))
  | some (some (.inn _)) => α.set i (some (.inn ct))
  | _ => α
/-- what stands at an owned slot -/
theorem Rel.at (r : Rel e c L S σ H α) {i : Nat} {ct : Ct} (h : ctOf α[i]? = some ct) : ∃ p o, σ[i]? = some (some (.ref p)) ∧ p ∈ S ∧ H p = some o ∧ RepC e (fz L H) ct o := by
  cases ha : α[i]? with
  | none => rw [ha] at h; cases h
  | some x =>
    cases x with
    | none => rw [ha] at h; cases h
    | some a =>
      rw [ha] at h
      obtain ⟨v, h1, h2⟩ := r.slot i a ha
      cases a with
      | dat d => cases h
      | adr _ => cases h
      | own ct => cases h; obtain ⟨p, o, q, m, n, ho, rc⟩ := h2; subst q; exact ⟨p, o, h1, m, ho, rc⟩
      | inn ct => cases h; obtain ⟨p, o, q, m, n, ho, rc⟩ := h2; subst q; exact ⟨p, o, h1, m, ho, rc⟩
theorem isOwn_ct {x : Option (Option A)} {ct : Ct} (h : ctOf x = some ct) : isOwn x = true := by
  cases x with
  | none => cases h
  | some x =>
    cases x with
    | none => cases h
    | some a => cases a <;> first | rfl | cases h
theorem putC_own {i j : Nat} {ct : Ct} : isOwn (putC α i ct)[j]? = true → isOwn α[j]? = true := by
  unfold putC
  split
  · rename_i q; rw [getset]; split
    · rename_i e1; subst e1; intro _; rw [q]; rfl
    · exact id
  · rename_i q; rw [getset]; split
    · rename_i e1; subst e1; intro _; rw [q]; rfl
    · exact id
  · exact id
theorem putC_len {i : Nat} {ct : Ct} : (putC α i ct).length = α.length := by
  unfold putC; split <;> simp
/-- an owned object is changed -/
theorem Rel.mut (r : Rel e c L S σ H α) {i : Nat} {p : Addr} {o : HO} {ct ct' : Ct} (h : ctOf α[i]? = some ct) (hp : σ[i]? = some (some (.ref p))) (rc : RepC e (fz L H) ct' o) :
    Rel e c L S σ (upd H p o) (putC α i ct') ∧ Mod S H (upd H p o) := by
  obtain ⟨p', o', hp', mS, ho', _⟩ := r.at h
  rw [hp] at hp'; cases hp'
  have mL := r.sub p mS
  have fzs : Same (fz L H) (fz L (upd H p o)) := fz_mut fun a u q n => by
    rw [upd_ne (fun z => n (by rw [z]; exact mL))]; exact q
  have md : Mod S H (upd H p o) := fun a u q n => by rw [upd_ne (fun z => n (by rw [z]; exact mS))]; exact q
  refine ⟨⟨fun j a q => ?_, fun j k q hj hk sj sk => r.sep j k q (putC_own hj) (putC_own hk) sj sk, fun q m z => ?_, r.sub, r.l0, r.l1, r.s1, ?_, r.s0, r.d0, by rw [putC_len]; exact r.len⟩, md⟩
  · by_cases e1 : j = i
    · subst e1
      cases ha : α[j]? with
      | none => rw [ha] at h; cases h
      | some x =>
        cases x with
        | none => rw [ha] at h; cases h
        | some b =>
          have hl : j < α.length := (List.getElem?_eq_some_iff.mp ha).1
          obtain ⟨v, h1, h2⟩ := r.slot j b ha
          rw [hp] at h1; cases h1
          unfold putC at q
          cases b with
          | dat d => rw [ha] at h; cases h
          | adr _ => rw [ha] at h; cases h
          | own c1 =>
            rw [ha] at q
            rw [show (α.set j (some (A.own ct')))[j]? = some (some (A.own ct')) by rw [getset, if_pos rfl, if_pos hl]] at q
            cases q
            obtain ⟨p', o2, q2, m, n, ho2, _⟩ := h2
            cases q2
            exact ⟨_, hp, p, o, rfl, m, n, upd_same, rc.up fzs⟩
          | inn c1 =>
            rw [ha] at q
            rw [show (α.set j (some (A.inn ct')))[j]? = some (some (A.inn ct')) by rw [getset, if_pos rfl, if_pos hl]] at q
            cases q
            obtain ⟨p', o2, q2, m, n, ho2, _⟩ := h2
            cases q2
            exact ⟨_, hp, p, o, rfl, m, n, upd_same, rc.up fzs⟩
    · have qa : α[j]? = some (some a) := by
        unfold putC at q
        split at q
        · rw [getset, if_neg (fun z => e1 z.symm)] at q; exact q
        · rw [getset, if_neg (fun z => e1 z.symm)] at q; exact q
        · exact q
      obtain ⟨v, h1, h2⟩ := r.slot j a qa
      refine ⟨v, h1, ?_⟩
      have hne : isOwn α[j]? = true → v ≠ .ref p := fun ho z => e1 (r.sep j i p ho (isOwn_ct h) (by rw [h1, z]) hp)
      cases a with
      | dat d => exact Rep.up (d := d) h2 fzs
      | adr _ => exact h2
      | own c1 =>
        obtain ⟨p', o2, q2, m, n, ho2, rc2⟩ := h2
        subst q2
        refine ⟨p', o2, rfl, m, n, ?_, rc2.up fzs⟩
        rw [upd_ne]
        · exact ho2
        · intro z; exact hne (by rw [qa]; rfl) (by rw [z])
      | inn c1 =>
        obtain ⟨p', o2, q2, m, n, ho2, rc2⟩ := h2
        subst q2
        refine ⟨p', o2, rfl, m, n, ?_, rc2.up fzs⟩
        rw [upd_ne]
        · exact ho2
        · intro z; exact hne (by rw [qa]; rfl) (by rw [z])
  · by_cases e1 : q = p
    · subst e1; rw [upd_same] at z; cases z
    · rw [upd_ne e1] at z; exact r.dom q m z
  · intro a u q n
    have hne : a ≠ p := by
      rintro rfl
      rcases r.s1 a mS with z | z
      · exact n z
      · rw [q] at z; cases z
    rw [upd_ne hne]
    exact r.md a u q n
end
end Ab
end
section
set_option maxRecDepth 100000
set_option maxHeartbeats 1000000
namespace Ab
open PySem L2

/-! ### pure readings -/
section
variable (e : En)
def Evp (te : TE) (s : State → Option D) : Prop := ∀ c L S σ H α d, Rel e c L S σ H α → s α = some d → ∀ Q : VK, (∀ v H', Same H H' → Rep e (fz L H') d v → Q v H') → te σ H Q
/-- a new list -/
def Evl (te : TE) (s : State → Option (List D)) : Prop := ∀ c L S σ H α xs, Rel e c L S σ H α → s α = some xs → ∀ Q : VK, (∀ p vs H', Same H H' → H p = none → H' p = some (.lst vs) → Reps e (fz (p :: L) H') xs vs → Q (.ref p) H') → te σ H Q
/-- a list, a tuple that is read -/
def EvqL (te : TE) (s : State → Option (List D)) : Prop := ∀ c L S σ H α xs, Rel e c L S σ H α → s α = some xs → ∀ Q : VK, (∀ a vs H', Same H H' → SqL e.K H' a vs → Reps e (fz L H') xs vs → Q (.ref a) H') → te σ H Q
def EvqT (te : TE) (s : State → Option (List D)) : Prop := ∀ c L S σ H α xs, Rel e c L S σ H α → s α = some xs → ∀ Q : VK, (∀ a vs H', Same H H' → SqT e.K (fz L H') a vs → Reps e (fz L H') xs vs → Q (.ref a) H') → te σ H Q
def Evt (tt : TT) (s : State → Option Bool) : Prop := ∀ c L S σ H α b, Rel e c L S σ H α → s α = some b → ∀ Q : Bool → Hp → Prop, (∀ H', Same H H' → Q b H') → tt σ H Q
def Eva (ta : TA) (s : State → Option (List D)) : Prop := ∀ c L S σ H α ds, Rel e c L S σ H α → s α = some ds → ∀ Q : List V → Hp → Prop, (∀ vs H', Same H H' → Reps e (fz L H') ds vs → Q vs H') → ta σ H Q
def Evo (to : TO) (s : State → Option (Option Int)) : Prop := ∀ c L S σ H α o, Rel e c L S σ H α → s α = some o → ∀ Q : Option Int → Hp → Prop, (∀ H', Same H H' → Q o H') → to σ H Q
/-- by values: two places; a call's list; a method's -/
def Dom (L : List Addr) (H : Hp) : Prop := ∀ p ∈ L, H p ≠ none
def RvD (r : R2) (f : D → D → Option D) : Prop := ∀ L H dx dy x y d, Dom L H → Rep e (fz L H) dx x → Rep e (fz L H) dy y → f dx dy = some d → ∀ Q : VK, (∀ v H', Same H H' → Rep e (fz L H') d v → Q v H') → r x y H Q
def RuD (r : V → Hp → VK → Prop) (f : D → Option D) : Prop := ∀ L H dx x d, Dom L H → Rep e (fz L H) dx x → f dx = some d → ∀ Q : VK, (∀ v H', Same H H' → Rep e (fz L H') d v → Q v H') → r x H Q
def RcD (r : List V → Hp → VK → Prop) (f : List D → Option D) : Prop := ∀ L H ds vs d, Dom L H → Reps e (fz L H) ds vs → f ds = some d → ∀ Q : VK, (∀ v H', Same H H' → Rep e (fz L H') d v → Q v H') → r vs H Q
def RmD (r : V → List V → Hp → VK → Prop) (f : D → List D → Option D) : Prop := ∀ L H dx x ds vs d, Dom L H → Rep e (fz L H) dx x → Reps e (fz L H) ds vs → f dx ds = some d → ∀ Q : VK, (∀ v H', Same H H' → Rep e (fz L H') d v → Q v H') → r x vs H Q
end

def bnd {α β : Type} (o : Option α) (f : α → Option β) : Option β := match o with | some a => f a | none => none
theorem bnd_some {α β : Type} {o : Option α} {f : α → Option β} {b : β} (h : bnd o f = some b) : ∃ a, o = some a ∧ f a = some b := by
  cases o with
  | none => cases h
  | some a => exact ⟨a, rfl, h⟩
@[simp] theorem bnd_s {α β : Type} {a : α} {f : α → Option β} : bnd (some a) f = f a := (rfl)
@[simp] theorem bnd_n {α β : Type} {f : α → Option β} : bnd none f = none := (rfl)

section
variable {e : En} {ta tb te : TE} {sa sb s : State → Option D}
theorem dom_up {L : List Addr} {H H' : Hp} (h : Same H H') (d : ∀ p ∈ L, H p ≠ none) : ∀ p ∈ L, H' p ≠ none := fun p m z => by
  cases q : H p with
  | none => exact d p m q
  | some o => rw [h p o q] at z; cases z

/-! ### slots and constants -/
def xVar (i : Nat) : State → Option D := fun α => match α[i]? with | some (some (.dat d)) => some d | _ => none
theorem ev_var (i : Nat) : Evp e (tVar i) (xVar i) := fun c L S σ H α d r h Q q => by
  unfold xVar at h
  split at h
  · rename_i d' hd
    cases h
    obtain ⟨v, h1, h2⟩ := r.slot i _ hd
    exact ⟨v, h1, q v H (Same.refl H) h2⟩
  · cases h
def xC (d : D) : State → Option D := fun _ => some d
theorem ev_c {d : D} {v : V} (h : ∀ F, Rep e F d v) : Evp e (tC v) (xC d) := fun c L S σ H α d' r hd Q q => by
  cases hd
  exact q v H (Same.refl H) (h _)
theorem ev_int {i : Int} : Evp e (tC (.int i)) (xC (.int i)) := ev_c fun _ => rfl
theorem ev_bl {i : Bool} : Evp e (tC (.bl i)) (xC (.bl i)) := ev_c fun _ => rfl
theorem ev_str {i : Str} : Evp e (tC (.str i)) (xC (.str i)) := ev_c fun _ => rfl
theorem ev_non : Evp e (tC .non) (xC .non) := ev_c fun _ => rfl
/-- a thing of the module's top -/
theorem ev_top {d : D} {v : V} (h : ∀ F, Rep e F d v) : Evp e (tC v) (xC d) := ev_c h

/-! ### operations -/
def x2 (f : D → D → Option D) (sa sb : State → Option D) : State → Option D := fun α => bnd (sa α) fun a => bnd (sb α) fun b => f a b
theorem ev_op {r : R2} {f : D → D → Option D} (hr : RvD e r f) (ha : Evp e ta sa) (hb : Evp e tb sb) : Evp e (tOp r ta tb) (x2 f sa sb) := fun c L S σ H α d R h Q q => by
  obtain ⟨a, h1, h⟩ := bnd_some h
  obtain ⟨b, h2, h⟩ := bnd_some h
  refine ha c L S σ H α a R h1 _ fun v H1 e1 r1 => ?_
  refine hb c L S σ H1 α b (R.up e1) h2 _ fun u H2 e2 r2 => ?_
  exact hr L H2 a b v u d (dom_up (e1.trans e2) R.dom) (r1.up (fz_same e2)) r2 h Q fun w H3 e3 r3 => q w H3 ((e1.trans e2).trans e3) r3
def x1 (f : D → Option D) (sa : State → Option D) : State → Option D := fun α => bnd (sa α) f
theorem ev_un {r : V → Hp → VK → Prop} {f : D → Option D} (hr : RuD e r f) (ha : Evp e ta sa) : Evp e (tUn r ta) (x1 f sa) := fun c L S σ H α d R h Q q => by
  obtain ⟨a, h1, h⟩ := bnd_some h
  refine ha c L S σ H α a R h1 _ fun v H1 e1 r1 => ?_
  exact hr L H1 a v d (dom_up e1 R.dom) r1 h Q fun w H3 e3 r3 => q w H3 (e1.trans e3) r3

def ii (g : Int → Int → Option D) : D → D → Option D := fun a b => match a, b with | .int i, .int j => g i j | _, _ => none
theorem ii_some {g : Int → Int → Option D} {a b d : D} (h : ii g a b = some d) : ∃ i j, a = .int i ∧ b = .int j ∧ g i j = some d := by
  unfold ii at h
  split at h
  · exact ⟨_, _, rfl, rfl, h⟩
  · cases h
theorem rv_I0 {g : Int → Int → V} {k : Int → Int → D} (hk : ∀ i j F, Rep e F (k i j) (g i j)) : RvD e (rI0 g) (ii fun i j => some (k i j)) := fun L H dx dy x y d dm rx ry h Q q => by
  obtain ⟨i, j, rfl, rfl, h⟩ := ii_some h
  cases h; cases rx; cases ry
  exact ⟨i, j, rfl, rfl, q _ H (Same.refl H) (hk i j _)⟩
theorem rv_I {C : Int → Int → Prop} [∀ i j, Decidable (C i j)] {g : Int → Int → V} {k : Int → Int → D} (hk : ∀ i j F, Rep e F (k i j) (g i j)) : RvD e (rI C g) (ii fun i j => if C i j then some (k i j) else none) := fun L H dx dy x y d dm rx ry h Q q => by
  obtain ⟨i, j, rfl, rfl, h2⟩ := ii_some h
  clear h
  have h := h2
  split at h
  · rename_i hc
    cases h; cases rx; cases ry
    exact ⟨i, j, rfl, rfl, hc, q _ H (Same.refl H) (hk i j _)⟩
  · cases h
abbrev fAdd : D → D → Option D := ii fun i j => some (.int (i + j))
abbrev fSub : D → D → Option D := ii fun i j => some (.int (i - j))
abbrev fLt : D → D → Option D := ii fun i j => some (.bl (decide (i < j)))
abbrev fLe : D → D → Option D := ii fun i j => some (.bl (decide (i ≤ j)))
abbrev fGt : D → D → Option D := ii fun i j => some (.bl (decide (i > j)))
abbrev fGe : D → D → Option D := ii fun i j => some (.bl (decide (i ≥ j)))
theorem rv_add : RvD e (rI0 fun i j => .int (i + j)) fAdd := rv_I0 fun _ _ _ => rfl
theorem rv_sub : RvD e (rI0 fun i j => .int (i - j)) fSub := rv_I0 fun _ _ _ => rfl
theorem rv_lt : RvD e (rI0 fun i j => .bl (decide (i < j))) fLt := rv_I0 fun _ _ _ => rfl
theorem rv_le : RvD e (rI0 fun i j => .bl (decide (i ≤ j))) fLe := rv_I0 fun _ _ _ => rfl
theorem rv_gt : RvD e (rI0 fun i j => .bl (decide (j < i))) fGt := rv_I0 fun _ _ _ => rfl
theorem rv_ge : RvD e (rI0 fun i j => .bl (decide (j ≤ i))) fGe := rv_I0 fun _ _ _ => rfl
instance (i j : Int) : Decidable (CMul i j) := by unfold CMul; infer_instance
instance (i j : Int) : Decidable (CDiv i j) := by unfold CDiv; infer_instance
instance (i j : Int) : Decidable (CDivN i j) := by unfold CDivN; infer_instance
instance (i j : Int) : Decidable (CPow i j) := by unfold CPow; infer_instance
abbrev fMul : D → D → Option D := ii fun i j => if CMul i j then some (.int (i * j)) else none
abbrev fDiv : D → D → Option D := ii fun i j => if CDiv i j then some (.int (i / j)) else none
abbrev fMod : D → D → Option D := ii fun i j => if 0 < j then some (.int (i % j)) else none
abbrev fPow : D → D → Option D := ii fun i j => if CPow i j then some (.int (i ^ j.toNat)) else none
theorem rv_mul : RvD e (rI CMul fun i j => .int (i * j)) fMul := rv_I fun _ _ _ => rfl
theorem rv_div : RvD e (rI CDiv fun i j => .int (i / j)) fDiv := rv_I fun _ _ _ => rfl
theorem rv_mod : RvD e (rI (fun _ j => 0 < j) fun i j => .int (i % j)) fMod := rv_I fun _ _ _ => rfl
theorem rv_pow : RvD e (rI CPow fun i j => .int (i ^ j.toNat)) fPow := rv_I fun _ _ _ => rfl
def fNeg : D → Option D := fun a => match a with | .int i => some (.int (-i)) | _ => none
theorem ru_neg : RuD e (rU fun i => .int (-i)) fNeg := fun L H dx x d dm rx h Q q => by
  unfold fNeg at h
  split at h
  · cases h; cases rx; exact ⟨_, rfl, q _ H (Same.refl H) rfl⟩
  · cases h

/-! ### == -/
def flat : D → Bool
  | .non | .bl _ | .int _ | .str _ => true
  | _ => false
def dv : D → V
  | .non => .non | .bl b => .bl b | .int i => .int i | .str s => .str s | _ => .non
theorem rep_flat {F : Hp} {d : D} {v : V} (h : flat d = true) (r : Rep e F d v) : v = dv d := by
  cases d <;> first | (exact r) | (simp [flat] at h)
theorem rep_of_flat {F : Hp} {d : D} (h : flat d = true) : Rep e F d (dv d) := by
  cases d <;> first | rfl | (simp [flat] at h)
/-- == of scalars (of kinds that differ only where they can't be alike) -/
def fEq : D → D → Option D := fun a b => if (flat a && flat b && scal (dv a) (dv b)) = true then some (.bl (decide (dv a = dv b))) else none
def fNe : D → D → Option D := fun a b => if (flat a && flat b && scal (dv a) (dv b)) = true then some (.bl (!decide (dv a = dv b))) else none
theorem rv_eq : RvD e rEq fEq := fun L H dx dy x y d dm rx ry h Q q => by
  unfold fEq at h
  split at h
  · rename_i hc
    simp only [Bool.and_eq_true] at hc
    cases h
    rw [rep_flat hc.1.1 rx, rep_flat hc.1.2 ry]
    exact ⟨hc.2, q _ H (Same.refl H) rfl⟩
  · cases h
theorem rv_ne : RvD e rNe fNe := fun L H dx dy x y d dm rx ry h Q q => by
  unfold fNe at h
  split at h
  · rename_i hc
    simp only [Bool.and_eq_true] at hc
    cases h
    rw [rep_flat hc.1.1 rx, rep_flat hc.1.2 ry]
    exact ⟨hc.2, q _ H (Same.refl H) rfl⟩
  · cases h
def fIsN : D → D → Option D := fun a b => match b with | .non => (match a with | .non => some (.bl true) | _ => some (.bl false)) | _ => none
def fNotN : D → D → Option D := fun a b => match b with | .non => (match a with | .non => some (.bl false) | _ => some (.bl true)) | _ => none
theorem rep_non {F : Hp} {d : D} {v : V} (r : Rep e F d v) : decide (v = .non) = (match d with | .non => true | _ => false) := by
  cases d with
  | non => cases r; rfl
  | bl b => cases r; rfl
  | int b => cases r; rfl
  | str b => cases r; rfl
  | ty b => cases r; rfl
  | cls b => cases r; rfl
  | tup b => obtain ⟨a, vs, rfl, _⟩ := r; rfl
  | lst b => obtain ⟨a, vs, rfl, _⟩ := r; rfl
  | ins b c => obtain ⟨a, vs, _, rfl, _⟩ := r; rfl
  | dic b => obtain ⟨a, vs, _, rfl, _⟩ := r; rfl
theorem rv_isN : RvD e (fun x y H Q => y = .non ∧ Q (.bl (decide (x = .non))) H) fIsN := fun L H dx dy x y d dm rx ry h Q q => by
  unfold fIsN at h
  split at h
  · cases ry
    refine ⟨rfl, ?_⟩
    rw [rep_non rx]
    cases dx <;> (cases h; exact q _ H (Same.refl H) rfl)
  · cases h
theorem rv_notN : RvD e (fun x y H Q => y = .non ∧ Q (.bl (!decide (x = .non))) H) fNotN := fun L H dx dy x y d dm rx ry h Q q => by
  unfold fNotN at h
  split at h
  · cases ry
    refine ⟨rfl, ?_⟩
    rw [rep_non rx]
    cases dx <;> (cases h; exact q _ H (Same.refl H) rfl)
  · cases h

/-! ### tests -/
def asB (s : State → Option D) : State → Option Bool := fun α => match s α with | some (.bl b) => some b | _ => none
theorem asB_some {α : State} {b : Bool} (h : asB s α = some b) : s α = some (.bl b) := by
  unfold asB at h
  split at h
  · rename_i q; cases h; exact q
  · cases h
theorem et_test (h : Evp e te s) : Evt e (tTest te) (asB s) := fun c L S σ H α b R q Q k => h c L S σ H α _ R (asB_some q) _ fun v H' e1 r => by
  cases r
  exact ⟨b, rfl, k H' e1⟩
theorem et_B (h : Evp e te s) : Evt e (tB te) (asB s) := fun c L S σ H α b R q Q k => h c L S σ H α _ R (asB_some q) _ fun v H' e1 r => by
  cases r
  exact ⟨b, rfl, k H' e1⟩
variable {t u : TT} {st su : State → Option Bool}
def tbNot (st : State → Option Bool) : State → Option Bool := fun α => (st α).map (!·)
def tbAnd (st su : State → Option Bool) : State → Option Bool := fun α => match st α with | some true => su α | o => o
def tbOr (st su : State → Option Bool) : State → Option Bool := fun α => match st α with | some false => su α | o => o
theorem et_not (h : Evt e t st) : Evt e (tNot t) (tbNot st) := fun c L S σ H α b R q Q k => by
  unfold tbNot at q
  cases hs : st α with
  | none => rw [hs] at q; cases q
  | some b' =>
    rw [hs] at q; cases q
    exact h c L S σ H α b' R hs _ fun H' e1 => k H' e1
theorem et_and (h : Evt e t st) (h' : Evt e u su) : Evt e (tAnd t u) (tbAnd st su) := fun c L S σ H α b R q Q k => by
  unfold tbAnd at q
  cases hs : st α with
  | none => rw [hs] at q; cases q
  | some b' =>
    refine h c L S σ H α b' R hs _ fun H' e1 => ?_
    cases b' with
    | true =>
      rw [hs] at q
      show u σ H' Q
      exact h' c L S σ H' α b (R.up e1) q Q fun H2 e2 => k H2 (e1.trans e2)
    | false => rw [hs] at q; cases q; exact k H' e1
theorem et_or (h : Evt e t st) (h' : Evt e u su) : Evt e (tOr t u) (tbOr st su) := fun c L S σ H α b R q Q k => by
  unfold tbOr at q
  cases hs : st α with
  | none => rw [hs] at q; cases q
  | some b' =>
    refine h c L S σ H α b' R hs _ fun H' e1 => ?_
    cases b' with
    | false =>
      rw [hs] at q
      show u σ H' Q
      exact h' c L S σ H' α b (R.up e1) q Q fun H2 e2 => k H2 (e1.trans e2)
    | true => rw [hs] at q; cases q; exact k H' e1
def xIf (st : State → Option Bool) (sa sb : State → Option D) : State → Option D := fun α => match st α with | some true => sa α | some false => sb α | none => none
theorem ev_if (h : Evt e t st) (ha : Evp e ta sa) (hb : Evp e tb sb) : Evp e (tIf t ta tb) (xIf st sa sb) := fun c L S σ H α d R q Q k => by
  unfold xIf at q
  cases hs : st α with
  | none => rw [hs] at q; cases q
  | some b' =>
    refine h c L S σ H α b' R hs _ fun H' e1 => ?_
    cases b' with
    | true =>
      rw [hs] at q
      show ta σ H' Q
      exact ha c L S σ H' α d (R.up e1) q Q fun v H2 e2 r => k v H2 (e1.trans e2) r
    | false =>
      rw [hs] at q
      show tb σ H' Q
      exact hb c L S σ H' α d (R.up e1) q Q fun v H2 e2 r => k v H2 (e1.trans e2) r
/-- and, or, not as values -/
def xB (st : State → Option Bool) : State → Option D := fun α => (st α).map .bl
theorem ev_andV (h : Evp e ta sa) (h' : Evp e tb sb) : Evp e (tAndV ta tb) (xB (tbAnd (asB sa) (asB sb))) := fun c L S σ H α d R q Q k => by
  unfold xB tbAnd at q
  cases hs : asB sa α with
  | none => rw [hs] at q; cases q
  | some b =>
    refine h c L S σ H α _ R (asB_some hs) _ fun v H' e1 r => ?_
    cases r
    refine ⟨b, rfl, ?_⟩
    rw [hs] at q
    cases b with
    | true =>
      cases hu : asB sb α with
      | none => rw [hu] at q; cases q
      | some b2 =>
        rw [hu] at q; cases q
        show tb σ H' Q
        exact h' c L S σ H' α _ (R.up e1) (asB_some hu) Q fun v H2 e2 r => k v H2 (e1.trans e2) r
    | false => cases q; exact k _ H' e1 rfl
theorem ev_orV (h : Evp e ta sa) (h' : Evp e tb sb) : Evp e (tOrV ta tb) (xB (tbOr (asB sa) (asB sb))) := fun c L S σ H α d R q Q k => by
  unfold xB tbOr at q
  cases hs : asB sa α with
  | none => rw [hs] at q; cases q
  | some b =>
    refine h c L S σ H α _ R (asB_some hs) _ fun v H' e1 r => ?_
    cases r
    refine ⟨b, rfl, ?_⟩
    rw [hs] at q
    cases b with
    | false =>
      cases hu : asB sb α with
      | none => rw [hu] at q; cases q
      | some b2 =>
        rw [hu] at q; cases q
        show tb σ H' Q
        exact h' c L S σ H' α _ (R.up e1) (asB_some hu) Q fun v H2 e2 r => k v H2 (e1.trans e2) r
    | true => cases q; exact k _ H' e1 rfl
theorem ev_notV (h : Evp e ta sa) : Evp e (tNotV ta) (xB (tbNot (asB sa))) := fun c L S σ H α d R q Q k => by
  unfold xB tbNot at q
  cases hs : asB sa α with
  | none => rw [hs] at q; cases q
  | some b =>
    rw [hs] at q; cases q
    exact h c L S σ H α _ R (asB_some hs) _ fun v H' e1 r => by
      cases r
      exact ⟨b, rfl, k _ H' e1 rfl⟩

/-! ### argument lists, displays, calls -/
variable {tr : TA} {sr : State → Option (List D)}
def aNil : State → Option (List D) := fun _ => some []
def aCons (s : State → Option D) (sr : State → Option (List D)) : State → Option (List D) := fun α => bnd (s α) fun d => bnd (sr α) fun ds => some (d :: ds)
theorem ea_nil : Eva e tNil aNil := fun c L S σ H α ds R q Q k => by cases q; exact k [] H (Same.refl H) Reps.nil
theorem ea_cons (h : Evp e te s) (hr : Eva e tr sr) : Eva e (tCons te tr) (aCons s sr) := fun c L S σ H α ds R q Q k => by
  obtain ⟨d, h1, q⟩ := bnd_some q
  obtain ⟨ds', h2, q⟩ := bnd_some q
  cases q
  refine h c L S σ H α d R h1 _ fun v H1 e1 r1 => ?_
  exact hr c L S σ H1 α ds' (R.up e1) h2 _ fun vs H2 e2 r2 => k _ H2 (e1.trans e2) (Reps.cons (r1.up (fz_same e2)) r2)
theorem fresh_nL {L : List Addr} {H : Hp} {p : Addr} (dm : ∀ q ∈ L, H q ≠ none) (n : H p = none) : p ∉ L := fun m => dm p m n
theorem fz_new {L : List Addr} {H : Hp} {p : Addr} {o : HO} (hn : p ∉ L) (ho : H p = some o) : fz L H p = some o := by unfold fz; rw [if_neg hn]; exact ho
def lenOk {β : Type} (xs : List β) : Option (List β) := if xs.length ≤ 100000 then some xs else none
theorem lenOk_some {β : Type} {xs ys : List β} (h : lenOk xs = some ys) : ys = xs ∧ xs.length ≤ 100000 := by
  unfold lenOk at h
  split at h
  · cases h; exact ⟨rfl, by assumption⟩
  · cases h
theorem sz_of {n : Nat} (h : n ≤ 100000) : n ≤ sizeLine := Nat.le_trans h (by decide)
theorem sz_lt {n : Nat} (h : n < 100000) : n < sizeLine := Nat.lt_of_lt_of_le h (by decide)
def xTup (sr : State → Option (List D)) : State → Option D := fun α => bnd (sr α) fun ds => if ds.length ≤ 100000 then some (.tup ds) else none
theorem ev_tup (h : Eva e tr sr) : Evp e (tTup tr) (xTup sr) := fun c L S σ H α d R q Q k => by
  obtain ⟨ds, h1, q⟩ := bnd_some q
  split at q
  · rename_i hz
    cases q
    refine h c L S σ H α ds R h1 _ fun vs H1 e1 r1 => ⟨by rw [r1.len]; exact sz_of hz, fun p hp => ?_⟩
    have s2 : Same H1 (upd H1 p (.tup vs)) := fun b o z => by rw [upd_ne (ne_of_none z hp)]; exact z
    refine k _ _ (e1.trans s2) ⟨p, vs, rfl, .inl (.inl (fz_new (fresh_nL (dom_up e1 R.dom) hp) upd_same)), r1.up (fz_same s2)⟩
  · cases q
theorem el_lst (h : Eva e tr sr) : Evl e (tLst tr) (fun α => bnd (sr α) lenOk) := fun c L S σ H α xs R q Q k => by
  obtain ⟨ds, h1, q⟩ := bnd_some q
  obtain ⟨rfl, hz⟩ := lenOk_some q
  refine h c L S σ H α _ R h1 _ fun vs H1 e1 r1 => ⟨by rw [r1.len]; exact sz_of hz, fun p hp => ?_⟩
  have s2 : Same H1 (upd H1 p (.lst vs)) := fun b o z => by rw [upd_ne (ne_of_none z hp)]; exact z
  have hn : H p = none := by
    cases z : H p with
    | none => rfl
    | some o => rw [e1 p o z] at hp; cases hp
  exact k p vs _ (e1.trans s2) hn upd_same (r1.up (fz_cons s2 hp))
/-- a new list as data -/
def xL (s : State → Option (List D)) : State → Option D := fun α => (s α).map .lst
theorem el_d {s : State → Option (List D)} (h : Evl e te s) : Evp e te (xL s) := fun c L S σ H α d R q Q k => by
  unfold xL at q
  cases hs : s α with
  | none => rw [hs] at q; cases q
  | some xs =>
    rw [hs] at q; cases q
    refine h c L S σ H α xs R hs _ fun p vs H' e1 n hp r => k _ H' e1 ⟨p, vs, rfl, .inl (.inl (fz_new (fresh_nL R.dom n) hp)), r.up (fz_anti fun a m => List.mem_cons_of_mem _ m)⟩
/-- read as a list, a tuple -/
def qL (s : State → Option D) : State → Option (List D) := fun α => match s α with | some (.lst xs) => some xs | _ => none
def qT (s : State → Option D) : State → Option (List D) := fun α => match s α with | some (.tup xs) => some xs | _ => none
theorem eq_l (h : Evp e te s) : EvqL e te (qL s) := fun c L S σ H α xs R q Q k => by
  unfold qL at q
  split at q
  · rename_i ys hs
    cases q
    refine h c L S σ H α _ R hs _ fun v H' e1 ⟨a, vs, e2, r1, r2⟩ => ?_
    subst e2
    exact k a vs H' e1 (fz_le.seq r1) r2
  · cases q
theorem eq_t (h : Evp e te s) : EvqT e te (qT s) := fun c L S σ H α xs R q Q k => by
  unfold qT at q
  split at q
  · rename_i ys hs
    cases q
    refine h c L S σ H α _ R hs _ fun v H' e1 ⟨a, vs, e2, r1, r2⟩ => ?_
    subst e2
    exact k a vs H' e1 r1 r2
  · cases q
theorem eq_n {s : State → Option (List D)} (h : Evl e te s) : EvqL e te s := fun c L S σ H α xs R q Q k =>
  h c L S σ H α xs R q _ fun p vs H' e1 n hp r => k p vs H' e1 (SqL.of hp) (r.up (fz_anti fun a m => List.mem_cons_of_mem _ m))
/-- an own list, read -/
def qO (i : Nat) : State → Option (List D) := fun α => match ctOf α[i]? with | some (.lst xs) => some xs | _ => none
theorem eq_o (i : Nat) : EvqL e (tVar i) (qO i) := fun c L S σ H α xs R q Q k => by
  unfold qO at q
  split at q
  · rename_i ys hs
    cases q
    obtain ⟨p, o, h1, _, h3, vs, rfl, h4⟩ := R.at hs
    exact ⟨_, h1, k p vs H (Same.refl H) (SqL.of h3) h4⟩
  · cases q

/-- what a def without side effects promises -/
def spP (e : En) (m : List D → Option D) : Sp := fun vs H Q _ => ∃ L ds d, Dom L H ∧ Reps e (fz L H) ds vs ∧ m ds = some d ∧ ∀ v H', Same H H' → Rep e (fz L H') d v → Q v H'
/-- .. that gives a new list -/
def spL (e : En) (m : List D → Option (List D)) : Sp := fun vs H Q _ => ∃ L ds xs, Dom L H ∧ Reps e (fz L H) ds vs ∧ m ds = some xs ∧ ∀ p us H', Same H H' → H p = none → H' p = some (.lst us) → Reps e (fz (p :: L) H') xs us → Q (.ref p) H'
def xCall (m : List D → Option D) (sr : State → Option (List D)) : State → Option D := fun α => bnd (sr α) m
theorem ev_call {E : XK} {m : List D → Option D} (h : Eva e tr sr) : Evp e (tCall (spP e m) [] E tr) (xCall m sr) := fun c L S σ H α d R q Q k => by
  obtain ⟨ds, h1, q⟩ := bnd_some q
  exact h c L S σ H α ds R h1 _ fun vs H1 e1 r1 => ⟨L, ds, d, dom_up e1 R.dom, by rw [List.append_nil]; exact r1, q, fun v H' e2 r2 => k v H' (e1.trans e2) r2⟩
theorem el_call {E : XK} {m : List D → Option (List D)} (h : Eva e tr sr) : Evl e (tCall (spL e m) [] E tr) (fun α => bnd (sr α) m) := fun c L S σ H α d R q Q k => by
  obtain ⟨ds, h1, q⟩ := bnd_some q
  refine h c L S σ H α ds R h1 _ fun vs H1 e1 r1 => ⟨L, ds, d, dom_up e1 R.dom, by rw [List.append_nil]; exact r1, q, fun p us H' e2 n hp r2 => k p us H' (e1.trans e2) ?_ hp r2⟩
  cases z : H p with
  | none => rfl
  | some o => rw [e1 p o z] at n; cases n
/-- built-in functions and methods, by values -/
theorem ev_callB {r : List V → Hp → VK → Prop} {f : List D → Option D} (hr : RcD e r f) (h : Eva e tr sr) : Evp e (tCB r tr) (xCall f sr) := fun c L S σ H α d R q Q k => by
  obtain ⟨ds, h1, q⟩ := bnd_some q
  exact h c L S σ H α ds R h1 _ fun vs H1 e1 r1 => hr L H1 ds vs d (dom_up e1 R.dom) r1 q Q fun v H' e2 r2 => k v H' (e1.trans e2) r2

/-! ### what reads a list or a tuple -/
section
variable {sq : State → Option (List D)}
def xLen (sq : State → Option (List D)) : State → Option D := fun α => match sq α with | some xs => some (.int xs.length) | none => none
theorem ev_lenL (h : EvqL e te sq) : Evp e (tCB (fun xs H Q => ∃ p ys, xs = [.ref p] ∧ (SqL e.K H p ys ∨ SqT e.K H p ys) ∧ Q (.int ys.length) H) (tCons te tNil)) (xLen sq) := fun c L S σ H α d R q Q k => by
  unfold xLen at q
  cases hs : sq α with
  | none => rw [hs] at q; cases q
  | some xs =>
    rw [hs] at q; cases q
    exact h c L S σ H α xs R hs _ fun a vs H' e1 r1 r2 => ⟨a, vs, rfl, .inl r1, k _ H' e1 (by rw [r2.len]; rfl)⟩
theorem ev_lenT (h : EvqT e te sq) : Evp e (tCB (fun xs H Q => ∃ p ys, xs = [.ref p] ∧ (SqL e.K H p ys ∨ SqT e.K H p ys) ∧ Q (.int ys.length) H) (tCons te tNil)) (xLen sq) := fun c L S σ H α d R q Q k => by
  unfold xLen at q
  cases hs : sq α with
  | none => rw [hs] at q; cases q
  | some xs =>
    rw [hs] at q; cases q
    exact h c L S σ H α xs R hs _ fun a vs H' e1 r1 r2 => ⟨a, vs, rfl, .inr (same_t fz_le r1), k _ H' e1 (by rw [r2.len]; rfl)⟩
def fLenS : List D → Option D := fun ds => match ds with | [.str z] => if z.length ≤ 100000 then some (.int z.length) else none | _ => none
theorem rc_lenS : RcD e (fun xs H Q => ∃ z, xs = [.str z] ∧ z.length ≤ sizeLine ∧ Q (.int z.length) H) fLenS := fun L H ds vs d dm r q Q k => by
  unfold fLenS at q
  split at q
  · rename_i z
    split at q
    · cases q
      obtain ⟨v, _, rfl, r1, r2⟩ := r
      cases r1; cases r2
      exact ⟨z, rfl, sz_of (by assumption), k _ H (Same.refl H) rfl⟩
    · cases q
  · cases q
/-- an item -/
theorem atI_rep {F : Hp} {ds : List D} {vs : List V} {i : Int} {d : D} (r : Reps e F ds vs) (h : atI ds i = some d) : ∃ v, atI vs i = some v ∧ Rep e F d v := by
  unfold atI at *
  rw [r.len]
  cases hx : ixN ds.length i with
  | none => rw [hx] at h; cases h
  | some j => rw [hx] at h; exact r.get h
def xIx (sq : State → Option (List D)) (sb : State → Option D) : State → Option D := fun α => bnd (sq α) fun xs => match sb α with | some (.int i) => atI xs i | _ => none
theorem ev_ixL (h : EvqL e ta sq) (hb : Evp e tb sb) : Evp e (tOp (rIxL e.K) ta tb) (xIx sq sb) := fun c L S σ H α d R q Q k => by
  obtain ⟨xs, h1, q⟩ := bnd_some q
  split at q
  · rename_i i hi
    refine h c L S σ H α xs R h1 _ fun a vs H1 e1 r1 r2 => ?_
    refine hb c L S σ H1 α _ (R.up e1) hi _ fun v H2 e2 r3 => ?_
    cases r3
    obtain ⟨v, h2, h3⟩ := atI_rep r2 q
    exact ⟨a, vs, i, v, rfl, rfl, e2.seq r1, h2, k v H2 (e1.trans e2) (h3.up (fz_same e2))⟩
  · cases q
theorem ev_ixT (h : EvqT e ta sq) (hb : Evp e tb sb) : Evp e (tOp (rIxT e.K) ta tb) (xIx sq sb) := fun c L S σ H α d R q Q k => by
  obtain ⟨xs, h1, q⟩ := bnd_some q
  split at q
  · rename_i i hi
    refine h c L S σ H α xs R h1 _ fun a vs H1 e1 r1 r2 => ?_
    refine hb c L S σ H1 α _ (R.up e1) hi _ fun v H2 e2 r3 => ?_
    cases r3
    obtain ⟨v, h2, h3⟩ := atI_rep r2 q
    exact ⟨a, vs, i, v, rfl, rfl, same_t e2 (same_t fz_le r1), h2, k v H2 (e1.trans e2) (h3.up (fz_same e2))⟩
  · cases q
/-- slices -/
def cutD (xs : List D) (lo hi : Option Int) : List D := (xs.drop (HT.sIx xs.length 0 lo)).take (HT.sIx xs.length xs.length hi - HT.sIx xs.length 0 lo)
theorem cut_rep {F : Hp} {ds : List D} {vs : List V} {lo hi : Option Int} (r : Reps e F ds vs) : Reps e F (cutD ds lo hi) (cutV vs lo hi) := by
  unfold cutD cutV
  rw [r.len]
  exact (r.drop _).take _
variable {tl th : TO} {sl sh : State → Option (Option Int)}
def oNone : State → Option (Option Int) := fun _ => some none
def oSome (s : State → Option D) : State → Option (Option Int) := fun α => match s α with | some (.int i) => some (some i) | _ => none
theorem eo_none : Evo e tNoPart oNone := fun c L S σ H α o R q Q k => by cases q; exact k H (Same.refl H)
theorem eo_some (h : Evp e te s) : Evo e (tPart te) (oSome s) := fun c L S σ H α o R q Q k => by
  unfold oSome at q
  split at q
  · rename_i i hi
    cases q
    refine h c L S σ H α _ R hi _ fun v H' e1 r => ?_
    cases r
    exact ⟨i, rfl, k H' e1⟩
  · cases q
def xSlL (sq : State → Option (List D)) (sl sh : State → Option (Option Int)) : State → Option (List D) := fun α => bnd (sq α) fun xs => bnd (sl α) fun lo => bnd (sh α) fun hi => some (cutD xs lo hi)
def xSlT (sq : State → Option (List D)) (sl sh : State → Option (Option Int)) : State → Option D := fun α => bnd (sq α) fun xs => bnd (sl α) fun lo => bnd (sh α) fun hi =>
    if (HT.sIx xs.length 0 lo = 0 ∧ HT.sIx xs.length xs.length hi = xs.length) then none else some (.tup (cutD xs lo hi))
theorem el_slL (h : EvqL e te sq) (hl : Evo e tl sl) (hh : Evo e th sh) : Evl e (tSl (rSlL e.K) te tl th) (xSlL sq sl sh) := fun c L S σ H α d R q Q k => by
  obtain ⟨xs, h1, q⟩ := bnd_some q
  obtain ⟨lo, h2, q⟩ := bnd_some q
  obtain ⟨hi, h3, q⟩ := bnd_some q
  cases q
  refine h c L S σ H α xs R h1 _ fun a vs H1 e1 r1 r2 => ?_
  refine hl c L S σ H1 α lo (R.up e1) h2 _ fun H2 e2 => ?_
  refine hh c L S σ H2 α hi (R.up (e1.trans e2)) h3 _ fun H3 e3 => ?_
  refine ⟨a, vs, rfl, (e2.trans e3).seq r1, fun p hp => ?_⟩
  have s4 : Same H3 (upd H3 p (.lst (cutV vs lo hi))) := fun b o z => by rw [upd_ne (ne_of_none z hp)]; exact z
  have e13 := e1.trans (e2.trans e3)
  have hn : H p = none := by
    cases z : H p with
    | none => rfl
    | some o => rw [e13 p o z] at hp; cases hp
  exact k p _ _ (e13.trans s4) hn upd_same (cut_rep (r2.up ((fz_same (e2.trans e3)).trans (fz_cons s4 hp))))
theorem ev_slT (h : EvqT e te sq) (hl : Evo e tl sl) (hh : Evo e th sh) : Evp e (tSl (rSlT e.K) te tl th) (xSlT sq sl sh) := fun c L S σ H α d R q Q k => by
  obtain ⟨xs, h1, q⟩ := bnd_some q
  obtain ⟨lo, h2, q⟩ := bnd_some q
  obtain ⟨hi, h3, q⟩ := bnd_some q
  split at q
  · cases q
  rename_i hc
  cases q
  refine h c L S σ H α xs R h1 _ fun a vs H1 e1 r1 r2 => ?_
  refine hl c L S σ H1 α lo (R.up e1) h2 _ fun H2 e2 => ?_
  refine hh c L S σ H2 α hi (R.up (e1.trans e2)) h3 _ fun H3 e3 => ?_
  refine ⟨a, vs, rfl, same_t (e2.trans e3) (same_t fz_le r1), by rw [r2.len]; exact hc, fun p hp => ?_⟩
  have s4 : Same H3 (upd H3 p (.tup (cutV vs lo hi))) := fun b o z => by rw [upd_ne (ne_of_none z hp)]; exact z
  have e13 := e1.trans (e2.trans e3)
  exact k _ _ (e13.trans s4) ⟨p, _, rfl, .inl (.inl (fz_new (fresh_nL (dom_up e13 R.dom) hp) upd_same)), cut_rep (r2.up (fz_same ((e2.trans e3).trans s4)))⟩
/-- list(..), tuple(..) -/
theorem el_listL (h : EvqL e te sq) : Evl e (tCB (fun xs H Q => ∃ p ys, xs = [.ref p] ∧ (SqL e.K H p ys ∨ SqT e.K H p ys) ∧ ∀ l, H l = none → Q (.ref l) (upd H l (.lst ys))) (tCons te tNil)) sq := fun c L S σ H α xs R q Q k =>
  h c L S σ H α xs R q _ fun a vs H' e1 r1 r2 => ⟨a, vs, rfl, .inl r1, fun l hl => by
    have s4 : Same H' (upd H' l (.lst vs)) := fun b o z => by rw [upd_ne (ne_of_none z hl)]; exact z
    have hn : H l = none := by
      cases z : H l with
      | none => rfl
      | some o => rw [e1 l o z] at hl; cases hl
    exact k l vs _ (e1.trans s4) hn upd_same (r2.up (fz_cons s4 hl))⟩
theorem el_listT (h : EvqT e te sq) : Evl e (tCB (fun xs H Q => ∃ p ys, xs = [.ref p] ∧ (SqL e.K H p ys ∨ SqT e.K H p ys) ∧ ∀ l, H l = none → Q (.ref l) (upd H l (.lst ys))) (tCons te tNil)) sq := fun c L S σ H α xs R q Q k =>
  h c L S σ H α xs R q _ fun a vs H' e1 r1 r2 => ⟨a, vs, rfl, .inr (same_t fz_le r1), fun l hl => by
    have s4 : Same H' (upd H' l (.lst vs)) := fun b o z => by rw [upd_ne (ne_of_none z hl)]; exact z
    have hn : H l = none := by
      cases z : H l with
      | none => rfl
      | some o => rw [e1 l o z] at hl; cases hl
    exact k l vs _ (e1.trans s4) hn upd_same (r2.up (fz_cons s4 hl))⟩
def xTupL (sq : State → Option (List D)) : State → Option D := fun α => match sq α with | some xs => some (.tup xs) | none => none
theorem ev_tupL (h : EvqL e te sq) : Evp e (tCB (fun xs H Q => ∃ p ys, xs = [.ref p] ∧ ((SqL e.K H p ys ∧ ∀ l, H l = none → Q (.ref l) (upd H l (.tup ys))) ∨ (SqT e.K H p ys ∧ Q (.ref p) H))) (tCons te tNil)) (xTupL sq) := fun c L S σ H α d R q Q k => by
  unfold xTupL at q
  cases hs : sq α with
  | none => rw [hs] at q; cases q
  | some xs =>
    rw [hs] at q; cases q
    refine h c L S σ H α xs R hs _ fun a vs H' e1 r1 r2 => ⟨a, vs, rfl, .inl ⟨r1, fun l hl => ?_⟩⟩
    have s4 : Same H' (upd H' l (.tup vs)) := fun b o z => by rw [upd_ne (ne_of_none z hl)]; exact z
    exact k _ _ (e1.trans s4) ⟨l, vs, rfl, .inl (.inl (fz_new (fresh_nL (dom_up e1 R.dom) hl) upd_same)), r2.up (fz_same s4)⟩
/-- sum of dints -/
def dints : List D → Option (List Int)
  | [] => some []
  | .int i :: r => (dints r).map (i :: ·)
  | _ => none
theorem dints_rep {F : Hp} : ∀ {ds : List D} {vs : List V} {ns : List Int}, dints ds = some ns → Reps e F ds vs → vs = ns.map V.int
  | [], _, _, h, r => by cases h; cases r; rfl
  | .int i :: ds, _, _, h, ⟨v, w, q, r1, r2⟩ => by
    cases hs : dints ds with
    | none => simp [dints, hs] at h
    | some ns => simp [dints, hs] at h; subst h; subst q; cases r1; rw [dints_rep hs r2]; rfl
  | .non :: _, _, _, h, _ => by simp [dints] at h
  | .bl _ :: _, _, _, h, _ => by simp [dints] at h
  | .str _ :: _, _, _, h, _ => by simp [dints] at h
  | .tup _ :: _, _, _, h, _ => by simp [dints] at h
  | .lst _ :: _, _, _, h, _ => by simp [dints] at h
  | .ins _ _ :: _, _, _, h, _ => by simp [dints] at h
  | .ty _ :: _, _, _, h, _ => by simp [dints] at h
  | .cls _ :: _, _, _, h, _ => by simp [dints] at h
theorem dints_of (ns : List Int) : dints (ns.map D.int) = some ns := by
  induction ns with
  | nil => rfl
  | cons a r ih => simp [dints, ih]
def fSum (xs : List D) : Option D := (dints xs).map fun ns => .int ns.sum
def xSum (sq : State → Option (List D)) : State → Option D := fun α => bnd (sq α) fSum
theorem ev_sum (h : EvqL e te sq) : Evp e (tCB (rSum e.K) (tCons te tNil)) (xSum sq) := fun c L S σ H α d R q Q k => by
  obtain ⟨xs, h1, q⟩ := bnd_some q
  unfold fSum at q
  cases hs : dints xs with
  | none => rw [hs] at q; cases q
  | some ns =>
    rw [hs] at q; cases q
    refine h c L S σ H α xs R h1 _ fun a vs H' e1 r1 r2 => ⟨a, ns, rfl, ?_, k _ H' e1 rfl⟩
    rw [← dints_rep hs r2]
    exact r1
end

/-! ### an own object lent as data, where what comes is flat -/
theorem Rel.lend {c : Cn} {L S : List Addr} {σ : L2.St} {H : Hp} {α : State} (r : Rel e c L S σ H α) {i : Nat} {ct : Ct} {d : D} (h : ctOf α[i]? = some ct)
    (hd : ∀ L' p o, H p = some o → p ∉ L' → RepC e (fz L' H) ct o → Rep e (fz L' H) d (.ref p)) :
    ∃ L' S', Rel e ⟨[], [], fun _ => none, σ⟩ L' S' σ H (α.set i (some (.dat d))) := by
  obtain ⟨p, o, h1, h2, h3, h4⟩ := r.at h
  have hlen : i < α.length := by
    cases z : α[i]? with
    | none => rw [z] at h; cases h
    | some x => exact (List.getElem?_eq_some_iff.mp z).1
  have anti : Same (fz L H) (fz (L.filter (· ≠ p)) H) := fz_anti fun a m => (List.mem_filter.mp m).1
  have hp : p ∉ L.filter (· ≠ p) := fun m => by simpa using (List.mem_filter.mp m).2
  have slotp : ∀ j, isOwn α[j]? = true → i ≠ j → σ[j]? ≠ some (some (.ref p)) := fun j hj hn z => hn (r.sep i j p (isOwn_ct h) hj h1 z)
  refine ⟨L.filter (· ≠ p), S.filter (· ≠ p), ⟨fun j a q => ?_, fun j k q hj hk sj sk => ?_, fun q m => r.dom q (List.mem_filter.mp m).1, fun q m => ?_, (fun q m => nomatch m), (fun q m => .inr rfl), (fun q m => .inr rfl), (fun a o q => nomatch q), (fun q m => nomatch m), (fun q m => nomatch m), by rw [List.length_set]; exact r.len⟩⟩
  · rw [getset] at q
    by_cases e1 : i = j
    · rw [if_pos e1] at q
      split at q
      · cases q
        subst e1
        exact ⟨_, h1, hd _ p o h3 hp (h4.up anti)⟩
      · cases q
    · rw [if_neg e1] at q
      obtain ⟨v, k1, k2⟩ := r.slot j a q
      refine ⟨v, k1, ?_⟩
      cases a with
      | dat d => exact Rep.up (d := d) k2 anti
      | adr _ => exact k2
      | own ct =>
        obtain ⟨p', o', rfl, m, n, ho, rc⟩ := k2
        have : p' ≠ p := fun z => slotp j (by rw [q]; rfl) e1 (by rw [k1, z])
        exact ⟨p', o', rfl, List.mem_filter.mpr ⟨m, by simpa using this⟩, rfl, ho, rc.up anti⟩
      | inn ct =>
        obtain ⟨p', o', rfl, m, n, ho, rc⟩ := k2
        have : p' ≠ p := fun z => slotp j (by rw [q]; rfl) e1 (by rw [k1, z])
        exact ⟨p', o', rfl, List.mem_filter.mpr ⟨m, by simpa using this⟩, k1, ho, rc.up anti⟩
  · have un : ∀ j, isOwn (α.set i (some (.dat d)))[j]? = true → isOwn α[j]? = true := fun j hj => by
      rw [getset] at hj
      split at hj
      · split at hj <;> simp [isOwn] at hj
      · exact hj
    exact r.sep j k q (un j hj) (un k hk) sj sk
  · obtain ⟨m1, m2⟩ := List.mem_filter.mp m
    exact List.mem_filter.mpr ⟨r.sub q m1, m2⟩
def lendD (i : Nat) (α : State) : Option State := match ctOf α[i]? with
  | some (.lst xs) => some (α.set i (some (.dat (.lst xs))))
  | some (.obj c fs) => some (α.set i (some (.dat (.ins c fs))))
  | _ => none
theorem Rel.lendD {c : Cn} {L S : List Addr} {σ : L2.St} {H : Hp} {α β : State} (r : Rel e c L S σ H α) {i : Nat} (h : lendD i α = some β) : ∃ c' L' S', Rel e c' L' S' σ H β := by
  unfold Ab.lendD at h
  split at h
  · rename_i xs hx
    cases h
    obtain ⟨L', S', q⟩ := r.lend (d := .lst xs) hx fun L' p o ho hn rc => by
      obtain ⟨vs, rfl, rr⟩ := rc
      exact ⟨p, vs, rfl, .inl (.inl (fz_new hn ho)), rr⟩
    exact ⟨_, L', S', q⟩
  · rename_i x fs hx
    cases h
    obtain ⟨L', S', q⟩ := r.lend (d := .ins x fs) hx fun L' p o ho hn rc => by
      obtain ⟨dx, gs, rfl, rr⟩ := rc
      exact ⟨p, dx, gs, rfl, fz_new hn ho, rr⟩
    exact ⟨_, L', S', q⟩
  · cases h
def xLend (i : Nat) (s : State → Option D) : State → Option D := fun α => bnd (lendD i α) fun β => match s β with | some d => if flat d = true then some d else none | none => none
theorem ev_lend (i : Nat) (h : Evp e te s) : Evp e te (xLend i s) := fun c L S σ H α d R q Q k => by
  obtain ⟨β, h1, q⟩ := bnd_some q
  obtain ⟨c', L', S', R'⟩ := R.lendD h1
  split at q
  · rename_i d' hs
    split at q
    · rename_i hf
      cases q
      exact h c' L' S' σ H β d R' hs Q fun v H' e1 r1 => k v H' e1 (by rw [rep_flat hf r1]; exact rep_of_flat hf)
    · cases q
  · cases q
def tLend (i : Nat) (s : State → Option Bool) : State → Option Bool := fun α => bnd (lendD i α) s
theorem et_lend (i : Nat) {t : TT} {s : State → Option Bool} (h : Evt e t s) : Evt e t (tLend i s) := fun c L S σ H α d R q Q k => by
  obtain ⟨β, h1, q⟩ := bnd_some q
  obtain ⟨c', L', S', R'⟩ := R.lendD h1
  exact h c' L' S' σ H β d R' q Q k
end
end Ab
end
section
set_option maxRecDepth 100000
set_option maxHeartbeats 1000000
namespace Ab
open PySem L2

structure Exn where
  name : String
  fs : List (Str × D)
inductive Res (β : Type) where
  | ok (b : β) (α : State) | exc (x : Exn) | bad
inductive RetV where
  | dat (d : D) | lst (xs : List D)
inductive Out where
  | nxt (α : State) | ret (r : RetV) (α : State) | brk (α : State) | cnt (α : State) | exc (x : Exn) | bad

/-- an exception's own things -/
def XRep (e : En) (F : Hp) (H' : Hp) (x : Exn) (cls : Value) (dd : Option Addr) : Prop :=
  cls = .ref (e.cls x.name) ∧ (x.fs = [] ∨ ∃ p gs, dd = some p ∧ H' p = some (.xd gs) ∧ RepF e F x.fs gs)
def XOk (e : En) (c : Cn) (E : XK) (x : Exn) : Prop := ∀ cls dd H', Mod c.S0 c.H0 H' → XRep e (fz c.L0 H') H' x cls dd → (∀ p, dd = some p → c.H0 p = none) → E cls dd H'

section
variable (e : En) (E : XK)
/-- with side effects upon what is owned -/
def Eve (te : TE) (s : State → Res D) : Prop := ∀ c L S σ H α, Rel e c L S σ H α → ∀ Q : VK, (∀ d α', s α = .ok d α' → ∀ v H', Mod S H H' → Rel e c L S σ H' α' → Rep e (fz L H') d v → Q v H') → (∀ x, s α = .exc x → XOk e c E x) → s α ≠ .bad → te σ H Q
def EvlE (te : TE) (s : State → Res (List D)) : Prop := ∀ c L S σ H α, Rel e c L S σ H α → ∀ Q : VK, (∀ xs α', s α = .ok xs α' → ∀ p vs H', Mod S H H' → H p = none → Rel e c (p :: L) S σ H' α' → H' p = some (.lst vs) → Reps e (fz (p :: L) H') xs vs → Q (.ref p) H') → (∀ x, s α = .exc x → XOk e c E x) → s α ≠ .bad → te σ H Q
def EvtE (tt : TT) (s : State → Res Bool) : Prop := ∀ c L S σ H α, Rel e c L S σ H α → ∀ Q : Bool → Hp → Prop, (∀ b α', s α = .ok b α' → ∀ H', Mod S H H' → Rel e c L S σ H' α' → Q b H') → (∀ x, s α = .exc x → XOk e c E x) → s α ≠ .bad → tt σ H Q
/-- arguments: data, or an own object handed on -/
inductive Arg where
  | dat (d : D) | slot (i : Nat)
def ArgRep (e : En) (L : List Addr) (σ : L2.St) (H : Hp) : Arg → V → Prop
  | .dat d, v => Rep e (fz L H) d v
  | .slot i, v => σ[i]? = some (some v)
def ArgsRep (e : En) (L : List Addr) (σ : L2.St) (H : Hp) : List Arg → List V → Prop
  | [], vs => vs = []
  | a :: r, vs => ∃ v w, vs = v :: w ∧ ArgRep e L σ H a v ∧ ArgsRep e L σ H r w
def EvaE (ta : TA) (s : State → Res (List Arg)) : Prop := ∀ c L S σ H α, Rel e c L S σ H α → ∀ Q : List V → Hp → Prop, (∀ as α', s α = .ok as α' → ∀ vs H', Mod S H H' → Rel e c L S σ H' α' → ArgsRep e L σ H' as vs → Q vs H') → (∀ x, s α = .exc x → XOk e c E x) → s α ≠ .bad → ta σ H Q

def RetRep (L : List Addr) (H : Hp) (v : V) (c : Cn) : RetV → Prop
  | .dat d => Rep e (fz L H) d v
  | .lst xs => ∃ p vs, v = .ref p ∧ c.H0 p = none ∧ H p = some (.lst vs) ∧ Reps e (fz (p :: L) H) xs vs
def OutOk (c : Cn) (D : Ends) (F : Hp) : Out → Prop
  | .nxt α' => ∀ L S σ H, Same F (fz L H) → Rel e c L S σ H α' → D.nx σ H
  | .brk α' => ∀ L S σ H, Same F (fz L H) → Rel e c L S σ H α' → D.bk σ H
  | .cnt α' => ∀ L S σ H, Same F (fz L H) → Rel e c L S σ H α' → D.ct σ H
  | .ret r α' => ∀ v L S σ H, Rel e c L S σ H α' → RetRep e L H v c r → D.rt v H
  | .exc x => XOk e c E x
  | .bad => False
def Sts (ts : TS) (s : State → Out) : Prop := ∀ c L S σ H α D, Rel e c L S σ H α → OutOk e E c D (fz L H) (s α) → ts D σ H
end

section
variable {e : En} {E : XK} {te ta tb : TE} {ts tu tw : TS} {t : TT} {s u w : State → Out}
theorem OutOk.mono {c : Cn} {D : Ends} {F F1 : Hp} (h : Same F F1) : ∀ {o : Out}, OutOk e E c D F o → OutOk e E c D F1 o
  | .nxt _, k => fun L S σ H a r => k L S σ H (h.trans a) r
  | .brk _, k => fun L S σ H a r => k L S σ H (h.trans a) r
  | .cnt _, k => fun L S σ H a r => k L S σ H (h.trans a) r
  | .ret _ _, k => k
  | .exc _, k => k
  | .bad, k => k
theorem fz_mod {L S : List Addr} {H H' : Hp} (h : Mod S H H') (sub : ∀ p ∈ S, p ∈ L) : Same (fz L H) (fz L H') := fz_mut fun a o q n => h a o q fun m => n (sub a m)

/-! ### lifting -/
def lift (s : State → Option D) : State → Res D := fun α => match s α with | some d => .ok d α | none => .bad
theorem ee_p {s : State → Option D} (h : Evp e te s) : Eve e E te (lift s) := fun c L S σ H α R Q k kx nb => by
  unfold lift at *
  cases hs : s α with
  | none => rw [hs] at nb; exact absurd rfl nb
  | some d =>
    rw [hs] at k
    exact h c L S σ H α d R hs Q fun v H' e1 r => k d α rfl v H' (.of e1) (R.up e1) r
def liftL (s : State → Option (List D)) : State → Res (List D) := fun α => match s α with | some d => .ok d α | none => .bad
theorem Rel.more {c : Cn} {L S : List Addr} {σ : L2.St} {H : Hp} {α : State} (r : Rel e c L S σ H α) {H' : Hp} {p : Addr} {o : HO} (s : Same H H') (n : H p = none) (ho : H' p = some o) : Rel e c (p :: L) S σ H' α where
  slot := fun i a q => by
    obtain ⟨v, h1, h2⟩ := r.slot i a q
    refine ⟨v, h1, ?_⟩
    cases a with
    | dat d => exact Rep.up (d := d) h2 (fz_cons s n)
    | adr _ => exact h2
    | own ct => obtain ⟨p', o', q', m, n', ho', rc⟩ := h2; exact ⟨p', o', q', m, n', s _ _ ho', rc.up (fz_cons s n)⟩
    | inn ct => obtain ⟨p', o', q', m, n', ho', rc⟩ := h2; exact ⟨p', o', q', m, n', s _ _ ho', rc.up (fz_cons s n)⟩
  sep := r.sep
  dom := fun q m z => by
    rcases List.mem_cons.mp m with rfl | m
    · rw [ho] at z; cases z
    · exact (r.up s).dom q m z
  sub := fun q m => List.mem_cons_of_mem _ (r.sub q m)
  l0 := fun q m => List.mem_cons_of_mem _ (r.l0 q m)
  l1 := fun q m => by
    rcases List.mem_cons.mp m with rfl | m
    · exact .inr (r.h0 n)
    · exact r.l1 q m
  s1 := r.s1
  md := r.md.trans (.of s)
  s0 := r.s0
  d0 := r.d0
  len := r.len
theorem ele_p {s : State → Option (List D)} (h : Evl e te s) : EvlE e E te (liftL s) := fun c L S σ H α R Q k kx nb => by
  unfold liftL at *
  cases hs : s α with
  | none => rw [hs] at nb; exact absurd rfl nb
  | some d =>
    rw [hs] at k
    exact h c L S σ H α d R hs Q fun p vs H' e1 n hp r => k d α rfl p vs H' (.of e1) n (R.more e1 n hp) hp r
def liftB (s : State → Option Bool) : State → Res Bool := fun α => match s α with | some d => .ok d α | none => .bad
theorem ete_p {s : State → Option Bool} (h : Evt e t s) : EvtE e E t (liftB s) := fun c L S σ H α R Q k kx nb => by
  unfold liftB at *
  cases hs : s α with
  | none => rw [hs] at nb; exact absurd rfl nb
  | some d =>
    rw [hs] at k
    exact h c L S σ H α d R hs Q fun H' e1 => k d α rfl H' (.of e1) (R.up e1)
def rB (s : State → Res D) : State → Res Bool := fun α => match s α with | .ok (.bl b) α' => .ok b α' | .ok _ _ => .bad | .exc x => .exc x | .bad => .bad
theorem ete_B {s : State → Res D} (h : Eve e E te s) : EvtE e E (tB te) (rB s) := fun c L S σ H α R Q k kx nb => by
  refine h c L S σ H α R _ (fun d α' hs v H' m r1 r2 => ?_) (fun x hx => kx x (by unfold rB; rw [hx])) (fun hb => nb (by unfold rB; rw [hb]))
  unfold rB at k nb
  rw [hs] at k nb
  cases d with
  | bl b => cases r2; exact ⟨b, rfl, k b α' rfl H' m r1⟩
  | _ => exact absurd rfl nb
theorem ete_test {s : State → Res D} (h : Eve e E te s) : EvtE e E (tTest te) (rB s) := fun c L S σ H α R Q k kx nb => by
  refine h c L S σ H α R _ (fun d α' hs v H' m r1 r2 => ?_) (fun x hx => kx x (by unfold rB; rw [hx])) (fun hb => nb (by unfold rB; rw [hb]))
  unfold rB at k nb
  rw [hs] at k nb
  cases d with
  | bl b => cases r2; exact ⟨b, rfl, k b α' rfl H' m r1⟩
  | _ => exact absurd rfl nb
def rNot (s : State → Res Bool) : State → Res Bool := fun α => match s α with | .ok b α' => .ok (!b) α' | .exc x => .exc x | .bad => .bad
theorem ete_not {s : State → Res Bool} (h : EvtE e E t s) : EvtE e E (tNot t) (rNot s) := fun c L S σ H α R Q k kx nb => by
  refine h c L S σ H α R _ (fun d α' hs H' m r1 => k (!d) α' (by unfold rNot; rw [hs]) H' m r1) (fun x hx => kx x (by unfold rNot; rw [hx])) (fun hb => nb (by unfold rNot; rw [hb]))

/-! ### statements -/
def sSeq (s u : State → Out) : State → Out := fun α => match s α with | .nxt β => u β | o => o
theorem st_seq (h : Sts e E ts s) (h' : Sts e E tu u) : Sts e E (tSeq ts tu) (sSeq s u) := fun c L S σ H α D R k => by
  refine h c L S σ H α { D with nx := tu D } R ?_
  unfold sSeq at k
  cases hs : s α with
  | nxt β =>
    rw [hs] at k
    exact fun L1 S1 σ1 H1 a r => h' c L1 S1 σ1 H1 β D r (OutOk.mono a k)
  | brk β => rw [hs] at k; exact k
  | cnt β => rw [hs] at k; exact k
  | ret r β => rw [hs] at k; exact k
  | exc x => rw [hs] at k; exact k
  | bad => rw [hs] at k; exact k
def sNext : State → Out := .nxt
theorem st_next : Sts e E tNext sNext := fun c L S σ H α D R k => k L S σ H (Same.refl _) R
def sBrk : State → Out := .brk
theorem st_brk : Sts e E tBreak sBrk := fun c L S σ H α D R k => k L S σ H (Same.refl _) R
def sCnt : State → Out := .cnt
theorem st_cnt : Sts e E tCont sCnt := fun c L S σ H α D R k => k L S σ H (Same.refl _) R
/-- x = e -/
def sSet (i : Nat) (s : State → Res D) : State → Out := fun α => match s α with | .ok d α' => .nxt (α'.set i (some (.dat d))) | .exc x => .exc x | .bad => .bad
theorem st_set {i : Nat} {s : State → Res D} (h : Eve e E te s) : Sts e E (tAsg te (gName i)) (sSet i s) := fun c L S σ H α D R k => by
  unfold sSet at k
  refine h c L S σ H α R _ (fun d α' hs v H' m r1 r2 => ?_) (fun x hx => by rw [hx] at k; exact k) (fun hb => by rw [hb] at k; exact k)
  rw [hs] at k
  exact k L S _ H' (fz_mod m R.sub) (r1.setD r2)
/-- x = a new list that is x's own -/
def sSetL (i : Nat) (s : State → Res (List D)) : State → Out := fun α => match s α with | .ok xs α' => .nxt (α'.set i (some (.own (.lst xs)))) | .exc x => .exc x | .bad => .bad
theorem Rel.setO' {c : Cn} {L S : List Addr} {σ : L2.St} {H : Hp} {α : State} {i : Nat} {p : Addr} {o : HO} {ct : Ct} (r : Rel e c (p :: L) S σ H α) (n : c.H0 p = none) (nS : p ∉ S) (ho : H p = some o) (rc : RepC e (fz (p :: L) H) ct o) :
    Rel e c (p :: L) (p :: S) (σ.set i (some (.ref p))) H (α.set i (some (.own ct))) where
  slot := fun j a q => by
    rw [getset] at q
    rw [getset]
    by_cases e1 : i = j
    · rw [if_pos e1] at q ⊢
      split at q
      · rename_i hl
        cases q
        rw [if_pos (by rw [r.len]; exact hl)]
        exact ⟨_, rfl, p, o, rfl, by simp, n, ho, rc⟩
      · cases q
    · rw [if_neg e1] at q ⊢
      obtain ⟨v, h1, h2⟩ := r.slot j a q
      refine ⟨v, h1, ?_⟩
      cases a with
      | dat d => exact h2
      | adr _ => exact h2
      | own ct => obtain ⟨p', o, q, m, n', ho, rc⟩ := h2; exact ⟨p', o, q, List.mem_cons_of_mem _ m, n', ho, rc⟩
      | inn ct => obtain ⟨p', o, q, m, n', ho, rc⟩ := h2; exact ⟨p', o, q, List.mem_cons_of_mem _ m, n', ho, rc⟩
  sep := fun j k q hj hk sj sk => by
    have fresh : ∀ j, i ≠ j → isOwn α[j]? = true → σ[j]? ≠ some (some (V.ref p)) := fun j _ hj z => by
      cases ha : α[j]? with
      | none => rw [ha] at hj; simp [isOwn] at hj
      | some x =>
        cases x with
        | none => rw [ha] at hj; simp [isOwn] at hj
        | some a =>
          obtain ⟨v, h1, h2⟩ := r.slot j a ha
          rw [h1] at z; cases z
          cases a with
          | dat d => rw [ha] at hj; simp [isOwn] at hj
          | adr _ => rw [ha] at hj; simp [isOwn] at hj
          | own ct => obtain ⟨p', o, q, m, n', ho, rc⟩ := h2; cases q; exact nS m
          | inn ct => obtain ⟨p', o, q, m, n', ho, rc⟩ := h2; cases q; exact nS m
    rw [getset] at hj hk sj sk
    by_cases e1 : i = j
    · by_cases e2 : i = k
      · omega
      · rw [if_neg e2] at hk sk
        rw [if_pos e1] at sj
        split at sj
        · cases sj; exact absurd sk (fresh k e2 hk)
        · cases sj
    · rw [if_neg e1] at hj sj
      by_cases e2 : i = k
      · rw [if_pos e2] at sk
        split at sk
        · cases sk; exact absurd sj (fresh j e1 hj)
        · cases sk
      · rw [if_neg e2] at hk sk
        exact r.sep j k q hj hk sj sk
  dom := r.dom
  sub := fun q m => by
    rcases List.mem_cons.mp m with rfl | m
    · simp
    · exact r.sub q m
  l0 := r.l0
  l1 := r.l1
  s1 := fun q m => by
    rcases List.mem_cons.mp m with rfl | m
    · exact .inr n
    · exact r.s1 q m
  md := r.md
  s0 := r.s0
  d0 := r.d0
  len := by rw [List.length_set, List.length_set]; exact r.len
theorem fz_consM {L S : List Addr} {H H' : Hp} {p : Addr} (h : Mod S H H') (sub : ∀ p ∈ S, p ∈ L) (n : H p = none) : Same (fz L H) (fz (p :: L) H') := fun a o q => by
  unfold fz at *
  split at q
  · cases q
  · rename_i m
    have hp : a ≠ p := ne_of_none q n
    rw [if_neg (by simp [hp, m])]
    exact h _ _ q fun z => m (sub a z)
theorem st_setL {i : Nat} {s : State → Res (List D)} (h : EvlE e E te s) : Sts e E (tAsg te (gName i)) (sSetL i s) := fun c L S σ H α D R k => by
  unfold sSetL at k
  refine h c L S σ H α R _ (fun xs α' hs p vs H' m n r1 hp r2 => ?_) (fun x hx => by rw [hx] at k; exact k) (fun hb => by rw [hb] at k; exact k)
  rw [hs] at k
  exact k (p :: L) (p :: S) _ H' (fz_consM m R.sub n) (r1.setO' (R.h0 n) (fun z => R.dom p (R.sub p z) n) hp ⟨vs, rfl, r2⟩)
/-- if -/
def sIf (t : State → Res Bool) (s u : State → Out) : State → Out := fun α => match t α with | .ok true α' => s α' | .ok false α' => u α' | .exc x => .exc x | .bad => .bad
theorem st_if {st : State → Res Bool} (h : EvtE e E t st) (h1 : Sts e E ts s) (h2 : Sts e E tu u) : Sts e E (tIfS t ts tu) (sIf st s u) := fun c L S σ H α D R k => by
  unfold sIf at k
  refine h c L S σ H α R _ (fun b α' hs H' m r1 => ?_) (fun x hx => by rw [hx] at k; exact k) (fun hb => by rw [hb] at k; exact k)
  rw [hs] at k
  cases b with
  | true => exact h1 c L S σ H' α' D r1 (OutOk.mono (fz_mod m R.sub) k)
  | false => exact h2 c L S σ H' α' D r1 (OutOk.mono (fz_mod m R.sub) k)
/-- an expression alone -/
def sDrop (s : State → Res D) : State → Out := fun α => match s α with | .ok _ α' => .nxt α' | .exc x => .exc x | .bad => .bad
theorem st_drop {s : State → Res D} (h : Eve e E te s) : Sts e E (tDrop te) (sDrop s) := fun c L S σ H α D R k => by
  unfold sDrop at k
  refine h c L S σ H α R _ (fun d α' hs v H' m r1 r2 => ?_) (fun x hx => by rw [hx] at k; exact k) (fun hb => by rw [hb] at k; exact k)
  rw [hs] at k
  exact k L S _ H' (fz_mod m R.sub) r1
/-- return -/
def sRet (s : State → Res D) : State → Out := fun α => match s α with | .ok d α' => .ret (.dat d) α' | .exc x => .exc x | .bad => .bad
theorem st_ret {s : State → Res D} (h : Eve e E te s) : Sts e E (tRet te) (sRet s) := fun c L S σ H α D R k => by
  unfold sRet at k
  refine h c L S σ H α R _ (fun d α' hs v H' m r1 r2 => ?_) (fun x hx => by rw [hx] at k; exact k) (fun hb => by rw [hb] at k; exact k)
  rw [hs] at k
  exact k v L S σ H' r1 r2
def sRetN : State → Out := fun α => .ret (.dat .non) α
theorem st_retN : Sts e E tRetN sRetN := fun c L S σ H α D R k => k .non L S σ H R rfl
def sRetL (s : State → Res (List D)) : State → Out := fun α => match s α with | .ok xs α' => .ret (.lst xs) α' | .exc x => .exc x | .bad => .bad
theorem st_retL {s : State → Res (List D)} (h : EvlE e E te s) : Sts e E (tRet te) (sRetL s) := fun c L S σ H α D R k => by
  unfold sRetL at k
  refine h c L S σ H α R _ (fun xs α' hs p vs H' m n r1 hp r2 => ?_) (fun x hx => by rw [hx] at k; exact k) (fun hb => by rw [hb] at k; exact k)
  rw [hs] at k
  exact k _ (p :: L) S σ H' r1 ⟨p, vs, rfl, R.h0 n, hp, r2.up (fz_anti (by simp))⟩
/-- return x, x an own list -/
def sRetO (i : Nat) : State → Out := fun α => match α[i]? with | some (some (.own (.lst xs))) => .ret (.lst xs) α | _ => .bad
theorem st_retO (i : Nat) : Sts e E (tRet (tVar i)) (sRetO i) := fun c L S σ H α D R k => by
  unfold sRetO at k
  split at k
  · rename_i xs hx
    obtain ⟨v, h1, p, o, rfl, m, n, ho, vs, rfl, r⟩ := R.slot i _ hx
    exact ⟨_, h1, k _ L S σ H R ⟨p, vs, rfl, n, ho, r.up (fz_anti (by simp [R.sub p m]))⟩⟩
  · exact k.elim
/-- an own list is an own list no more, but data -/
def frzD (i : Nat) (α : State) : State := match α[i]? with
  | some (some (.own (.lst xs))) => α.set i (some (.dat (.lst xs)))
  | some (some (.own (.obj x fs))) => α.set i (some (.dat (.ins x fs)))
  | _ => α
theorem Rel.frz {c : Cn} {L S : List Addr} {σ : L2.St} {H : Hp} {α : State} (r : Rel e c L S σ H α) {i : Nat} {ct : Ct} {d : D} {p : Addr} (ha : α[i]? = some (some (.own ct))) (h1 : σ[i]? = some (some (.ref p))) (n0 : c.H0 p = none)
    (hd : Rep e (fz (L.filter (· ≠ p)) H) d (.ref p)) : Rel e c (L.filter (· ≠ p)) (S.filter (· ≠ p)) σ H (α.set i (some (.dat d))) := by
  have anti : Same (fz L H) (fz (L.filter (· ≠ p)) H) := fz_anti fun a m => (List.mem_filter.mp m).1
  have slotp : ∀ j, isOwn α[j]? = true → i ≠ j → σ[j]? ≠ some (some (.ref p)) := fun j hj hn z => hn (r.sep i j p (by rw [ha]; rfl) hj h1 z)
  refine ⟨fun j a q => ?_, fun j k q hj hk sj sk => ?_, fun q m => r.dom q (List.mem_filter.mp m).1, fun q m => ?_, fun q m => ?_, fun q m => r.l1 q (List.mem_filter.mp m).1, fun q m => r.s1 q (List.mem_filter.mp m).1, r.md, r.s0, r.d0, by rw [List.length_set]; exact r.len⟩
  · rw [getset] at q
    by_cases e1 : i = j
    · rw [if_pos e1] at q
      split at q
      · cases q
        subst e1
        exact ⟨_, h1, hd⟩
      · cases q
    · rw [if_neg e1] at q
      obtain ⟨v, k1, k2⟩ := r.slot j a q
      refine ⟨v, k1, ?_⟩
      cases a with
      | dat d => exact Rep.up (d := d) k2 anti
      | adr _ => exact k2
      | own ct =>
        obtain ⟨p', o', rfl, m, n, ho, rc⟩ := k2
        have : p' ≠ p := fun z => slotp j (by rw [q]; rfl) e1 (by rw [k1, z])
        exact ⟨p', o', rfl, List.mem_filter.mpr ⟨m, by simpa using this⟩, n, ho, rc.up anti⟩
      | inn ct =>
        obtain ⟨p', o', rfl, m, n, ho, rc⟩ := k2
        have : p' ≠ p := fun z => slotp j (by rw [q]; rfl) e1 (by rw [k1, z])
        exact ⟨p', o', rfl, List.mem_filter.mpr ⟨m, by simpa using this⟩, n, ho, rc.up anti⟩
  · have un : ∀ j, isOwn (α.set i (some (.dat d)))[j]? = true → isOwn α[j]? = true := fun j hj => by
      rw [getset] at hj
      split at hj
      · split at hj <;> simp [isOwn] at hj
      · exact hj
    exact r.sep j k q (un j hj) (un k hk) sj sk
  · obtain ⟨m1, m2⟩ := List.mem_filter.mp m
    exact List.mem_filter.mpr ⟨r.sub q m1, m2⟩
  · refine List.mem_filter.mpr ⟨r.l0 q m, ?_⟩
    simp only [decide_eq_true_eq]
    rintro rfl
    exact r.d0 q m n0
theorem Rel.frzD {c : Cn} {L S : List Addr} {σ : L2.St} {H : Hp} {α : State} (r : Rel e c L S σ H α) (i : Nat) : ∃ L' S', Rel e c L' S' σ H (frzD i α) ∧ Same (fz L H) (fz L' H) := by
  unfold Ab.frzD
  split
  · rename_i xs hx
    obtain ⟨v, h1, p, o, rfl, m, n, ho, vs, rfl, rr⟩ := r.slot i _ hx
    have hn : p ∉ L.filter (· ≠ p) := fun m => by simpa using (List.mem_filter.mp m).2
    have anti : Same (fz L H) (fz (L.filter (· ≠ p)) H) := fz_anti fun a m => (List.mem_filter.mp m).1
    exact ⟨_, _, r.frz (d := .lst xs) hx h1 n ⟨p, vs, rfl, .inl (.inl (fz_new hn ho)), rr.up anti⟩, anti⟩
  · rename_i x fs hx
    obtain ⟨v, h1, p, o, rfl, m, n, ho, dx, gs, rfl, rr⟩ := r.slot i _ hx
    have hn : p ∉ L.filter (· ≠ p) := fun m => by simpa using (List.mem_filter.mp m).2
    have anti : Same (fz L H) (fz (L.filter (· ≠ p)) H) := fz_anti fun a m => (List.mem_filter.mp m).1
    exact ⟨_, _, r.frz (d := .ins x fs) hx h1 n ⟨p, dx, gs, rfl, fz_new hn ho, RepF.mono anti _ _ rr⟩, anti⟩
  · exact ⟨L, S, r, Same.refl _⟩
def sFrz (i : Nat) (s : State → Out) : State → Out := fun α => s (frzD i α)
theorem st_frz (i : Nat) (h : Sts e E ts s) : Sts e E ts (sFrz i s) := fun c L S σ H α D R k => by
  obtain ⟨L', S', r, a⟩ := R.frzD i
  exact h c L' S' σ H _ D r (OutOk.mono a k)

/-! ### targets -/
theorem wipe_get {σ : L2.St} {j : Nat} : ∀ {vs : List Nat}, (wipe σ vs)[j]? = if j ∈ vs then (if j < σ.length then some none else none) else σ[j]?
  | [] => by simp [wipe]
  | v :: vs => by
    unfold wipe
    rw [getset, wipe_length, wipe_get (vs := vs)]
    by_cases e1 : v = j
    · subst e1; simp
    · rw [if_neg e1]
      have : (j ∈ v :: vs) ↔ j ∈ vs := by simp only [List.mem_cons, show ¬ j = v from fun z => e1 z.symm, false_or]
      simp only [this]
theorem wipe_ext {σ σ' : L2.St} {vs : List Nat} (hl : σ'.length = σ.length) (h : ∀ j, j ∉ vs → σ'[j]? = σ[j]?) : wipe σ' vs = wipe σ vs := by
  apply List.ext_getElem?
  intro j
  rw [wipe_get, wipe_get, hl]
  split
  · rfl
  · exact h j (by assumption)
/-- js: the places that it may store to -/
def Etg (e : En) (g : TG) (gt : D → State → Option State) (js : List Nat) : Prop := ∀ c L S σ H α x v α', Rel e c L S σ H α → Rep e (fz L H) x v → gt x α = some α' → ∀ Q : L2.St → Hp → Prop, (∀ σ', σ'.length = σ.length → (∀ j, j ∉ js → σ'[j]? = σ[j]?) → Rel e c L S σ' H α' → Q σ' H) → g v σ H Q
def gN (i : Nat) : D → State → Option State := fun x α => some (α.set i (some (.dat x)))
theorem eg_name (i : Nat) : Etg e (gName i) (gN i) [i] := fun c L S σ H α x v α' R r q Q k => by
  cases q
  exact k _ (List.length_set ..) (fun j hj => by rw [getset, if_neg (by simpa using fun z => hj (by simp [z]))]) (R.setD r)
def Etgs (e : En) (g : TGs) (gt : List D → State → Option State) (js : List Nat) : Prop := ∀ c L S σ H α x v α', Rel e c L S σ H α → Reps e (fz L H) x v → gt x α = some α' → ∀ Q : L2.St → Hp → Prop, (∀ σ', σ'.length = σ.length → (∀ j, j ∉ js → σ'[j]? = σ[j]?) → Rel e c L S σ' H α' → Q σ' H) → g v σ H Q
def gsN : List D → State → Option State := fun xs α => match xs with | [] => some α | _ => none
theorem egs_nil : Etgs e gNil gsN [] := fun c L S σ H α x v α' R r q Q k => by
  unfold gsN at q
  split at q
  · cases q; cases r; exact ⟨rfl, k σ rfl (fun _ _ => rfl) R⟩
  · cases q
def gsC (gt : D → State → Option State) (gs : List D → State → Option State) : List D → State → Option State := fun xs α => match xs with | x :: r => bnd (gt x α) (gs r) | [] => none
theorem egs_cons {g : TG} {gs : TGs} {gt : D → State → Option State} {gst : List D → State → Option State} {js ks : List Nat} (h : Etg e g gt js) (hs : Etgs e gs gst ks) : Etgs e (gCons g gs) (gsC gt gst) (js ++ ks) := fun c L S σ H α x v α' R r q Q k => by
  unfold gsC at q
  split at q
  · rename_i x xs
    obtain ⟨v1, vs, rfl, r1, r2⟩ := r
    obtain ⟨β, h1, h2⟩ := bnd_some q
    exact ⟨v1, vs, rfl, h c L S σ H α x v1 β R r1 h1 _ fun σ' hl hj R' => hs c L S σ' H β xs vs α' R' r2 h2 Q fun σ2 hl2 hj2 R2 => k σ2 (hl2.trans hl) (fun j hn => (hj2 j fun z => hn (List.mem_append_right _ z)).trans (hj j fun z => hn (List.mem_append_left _ z))) R2⟩
  · cases q
def gT (n : Nat) (gst : List D → State → Option State) : D → State → Option State := fun x α => match x with | .tup xs => if xs.length = n then gst xs α else none | _ => none
theorem eg_tup {n : Nat} {gs : TGs} {gst : List D → State → Option State} {js : List Nat} (hs : Etgs e gs gst js) : Etg e (gTup e.K n gs) (gT n gst) js := fun c L S σ H α x v α' R r q Q k => by
  unfold gT at q
  split at q
  · split at q
    · rename_i hn
      obtain ⟨a, vs, rfl, r1, r2⟩ := r
      exact ⟨a, vs, rfl, same_t fz_le r1, by rw [r2.len]; exact hn, hs c L S σ H α _ vs α' R r2 q Q k⟩
    · cases q
  · cases q
/-- a, b = e by a target -/
def sAsgT (gt : D → State → Option State) (s : State → Res D) : State → Out := fun α => match s α with | .ok d α' => (match gt d α' with | some β => .nxt β | none => .bad) | .exc x => .exc x | .bad => .bad
theorem st_asgT {g : TG} {gt : D → State → Option State} {s : State → Res D} {js : List Nat} (hg : Etg e g gt js) (h : Eve e E te s) : Sts e E (tAsg te g) (sAsgT gt s) := fun c L S σ H α D R k => by
  unfold sAsgT at k
  refine h c L S σ H α R _ (fun d α' hs v H' m r1 r2 => ?_) (fun x hx => by rw [hx] at k; exact k) (fun hb => by rw [hb] at k; exact k)
  rw [hs] at k
  cases hg' : gt d α' with
  | none => simp only [hg'] at k; exact k.elim
  | some β => simp only [hg'] at k; exact hg c L S σ H' α' d v β r1 r2 hg' _ fun σ' _ _ r => k L S σ' H' (fz_mod m R.sub) r

/-! ### what a loop walks -/
def Walks (e : En) (J : It) (F : Hp) (xs : List D) : Prop := ∀ L H, Same F (fz L H) → Dom L H → ∀ i, (i < xs.length → J.go i H) ∧ (xs.length ≤ i → J.stop i H) ∧ ∀ x v H', xs[i]? = some x → J.yld i H v H' → Same H H' ∧ Rep e (fz L H') x v
def Evi (e : En) (wi : TI) (s : State → Option (List D)) : Prop := ∀ c L S σ H α xs, Rel e c L S σ H α → s α = some xs → ∀ R : It → Hp → Prop, (∀ J H', Same H H' → Walks e J (fz L H') xs → R J H') → wi σ H R
theorem ei_list {sq : State → Option (List D)} (h : Evp e te sq') (hq : sq = qL sq') : Evi e (iList e.K te) sq := fun c L S σ H α xs R q W k => by
  subst hq
  unfold qL at q
  split at q
  · rename_i ys hs
    cases q
    refine h c L S σ H α _ R hs _ fun v H' e1 ⟨a, vs, e2, r1, r2⟩ => ?_
    subst e2
    refine ⟨a, rfl, ⟨vs, fz_le.seq r1⟩, k _ H' e1 fun L2 H2 s2 _ i => ?_⟩
    have t2 : SqL e.K H2 a vs := fz_le.seq (s2.seq r1)
    refine ⟨fun hi => ⟨vs, vs[i]'(by rw [r2.len]; exact hi), t2, List.getElem?_eq_getElem _⟩, fun hi => ⟨vs, t2, by rw [r2.len]; exact hi⟩, fun x v H3 hx ⟨e3, y⟩ => ?_⟩
    subst e3
    refine ⟨Same.refl _, ?_⟩
    obtain ⟨v', h1, h2⟩ := r2.get hx
    have := y vs t2
    rw [h1] at this; cases this
    exact h2.up s2
  · cases q
theorem ei_tup {sq : State → Option (List D)} (h : Evp e te sq') (hq : sq = qT sq') : Evi e (iTup e.K te) sq := fun c L S σ H α xs R q W k => by
  subst hq
  unfold qT at q
  split at q
  · rename_i ys hs
    cases q
    refine h c L S σ H α _ R hs _ fun v H' e1 ⟨a, vs, e2, r1, r2⟩ => ?_
    subst e2
    refine ⟨a, rfl, ⟨vs, same_t fz_le r1⟩, k _ H' e1 fun L2 H2 s2 _ i => ?_⟩
    have t2 : SqT e.K H2 a vs := same_t fz_le (same_t s2 r1)
    refine ⟨fun hi => ⟨vs, vs[i]'(by rw [r2.len]; exact hi), t2, List.getElem?_eq_getElem _⟩, fun hi => ⟨vs, t2, by rw [r2.len]; exact hi⟩, fun x v H3 hx ⟨e3, y⟩ => ?_⟩
    subst e3
    refine ⟨Same.refl _, ?_⟩
    obtain ⟨v', h1, h2⟩ := r2.get hx
    have := y vs t2
    rw [h1] at this; cases this
    exact h2.up s2
  · cases q
theorem ei_listL {sq : State → Option (List D)} (h : Evl e te sq) : Evi e (iList e.K te) sq := fun c L S σ H α xs R q W k => by
  have h' := el_d h
  have hx : xL sq α = some (.lst xs) := by unfold xL; rw [q]; rfl
  exact ei_list (sq := qL (xL sq)) h' rfl c L S σ H α xs R (by unfold qL; rw [hx]) W k
def rngD (lo : Int) (n : Nat) : List D := (List.range n).map fun (k : Nat) => D.int (lo + (k : Int))
theorem walks_rng {lo : Int} {n : Nat} {F : Hp} : Walks e (Itr lo n) F (rngD lo n) := fun L H s2 _ i => by
  refine ⟨fun hi => by show i < n; simpa [rngD] using hi, fun hi => by show n ≤ i; simpa [rngD] using hi, fun x v H3 hx ⟨e3, y⟩ => ?_⟩
  subst e3 y
  refine ⟨Same.refl _, ?_⟩
  unfold rngD at hx
  rw [List.getElem?_map] at hx
  cases hr : (List.range n)[i]? with
  | none => rw [hr] at hx; cases hx
  | some j =>
    rw [hr] at hx
    cases hx
    obtain ⟨hlt, hj⟩ := List.getElem?_eq_some_iff.mp hr
    rw [List.getElem_range] at hj
    subst hj
    rfl
def rngOk (n : Int) : Bool := decide (-(2 ^ 62) ≤ n ∧ n < 2 ^ 62)
theorem rngOk_iff {n : Int} : rngOk n = true ↔ (-(2 ^ 62) ≤ n ∧ n < 2 ^ 62) := by unfold rngOk; simp
def xRng1 (sr : State → Option (List D)) : State → Option (List D) := fun α => match sr α with | some [.int n] => if rngOk n = true then some (rngD 0 n.toNat) else none | _ => none
theorem ei_rng1 {tr : TA} {sr : State → Option (List D)} (h : Eva e tr sr) : Evi e (iRng1 tr) (xRng1 sr) := fun c L S σ H α xs R q W k => by
  unfold xRng1 at q
  split at q
  · rename_i n hs
    split at q
    · rename_i hn
      cases q
      refine h c L S σ H α _ R hs _ fun vs H' e1 ⟨v, _, e2, r1, r2⟩ => ?_
      cases r1; cases r2; subst e2
      have hn := rngOk_iff.mp hn
      exact ⟨n, rfl, hn.1, hn.2, k _ H' e1 walks_rng⟩
    · cases q
  · cases q
def xRng2 (sr : State → Option (List D)) : State → Option (List D) := fun α => match sr α with | some [.int a, .int n] => if rngOk a = true ∧ rngOk n = true then some (rngD a (n - a).toNat) else none | _ => none
theorem ei_rng2 {tr : TA} {sr : State → Option (List D)} (h : Eva e tr sr) : Evi e (iRng2 tr) (xRng2 sr) := fun c L S σ H α xs R q W k => by
  unfold xRng2 at q
  split at q
  · rename_i a n hs
    split at q
    · rename_i hn
      cases q
      refine h c L S σ H α _ R hs _ fun vs H' e1 ⟨v, _, e2, r1, ⟨v', _, e3, r2, r3⟩⟩ => ?_
      cases r1; cases r2; cases r3; subst e3; subst e2
      have ha := rngOk_iff.mp hn.1
      have hb := rngOk_iff.mp hn.2
      exact ⟨a, n, rfl, ⟨ha.1, ha.2, hb.1, hb.2⟩, k _ H' e1 walks_rng⟩
    · cases q
  · cases q

/-! ### for, while -/
def loopF (gt : D → State → Option State) (body : State → Out) : List D → State → Out
  | [], α => .nxt α
  | x :: xs, α => match gt x α with
    | none => .bad
    | some β => match body β with
      | .nxt α' => loopF gt body xs α'
      | .cnt α' => loopF gt body xs α'
      | .brk α' => .nxt α'
      | o => o
def sFor (sx : State → Option (List D)) (gt : D → State → Option State) (body : State → Out) : State → Out := fun α => match sx α with | some xs => loopF gt body xs α | none => .bad
theorem st_for {wi : TI} {g : TG} {sx : State → Option (List D)} {gt : D → State → Option State} {js : List Nat} (hi : Evi e wi sx) (hg : Etg e g gt js) (hb : Sts e E ts s) : Sts e E (tFor wi g ts) (sFor sx gt s) := fun c L S σ H α D R k => by
  unfold sFor at k
  cases hx : sx α with
  | none => rw [hx] at k; exact k.elim
  | some xs =>
    rw [hx] at k
    refine hi c L S σ H α xs R hx _ fun J H1 e1 wk => ?_
    refine ⟨fun i m σ' H' => m = xs.length - i ∧ i ≤ xs.length ∧ ∃ L' S' α', Rel e c L' S' σ' H' α' ∧ Same (fz L H1) (fz L' H') ∧ OutOk e E c D (fz L' H') (loopF gt s (xs.drop i) α'),
      ⟨xs.length, by simp, Nat.zero_le _, L, S, α, R.up e1, Same.refl _, OutOk.mono (fz_same e1) k⟩, ?_⟩
    rintro i m σ2 H2 ⟨rfl, hi, L2, S2, α2, R2, s2, k2⟩
    obtain ⟨w1, w2, w3⟩ := wk L2 H2 s2 R2.dom i
    by_cases hlt : i < xs.length
    · refine .inr ⟨w1 hlt, fun σ' H' => ∃ L' S' α', Rel e c L' S' σ' H' α' ∧ Same (fz L H1) (fz L' H') ∧ OutOk e E c D (fz L' H') (loopF gt s (xs.drop (i + 1)) α'), fun σ' H' h => ⟨xs.length - (i + 1), by omega, rfl, hlt, h⟩, fun v H3 y => ?_⟩
      obtain ⟨e3, r3⟩ := w3 xs[i] v H3 (List.getElem?_eq_getElem hlt) y
      rw [List.drop_eq_getElem_cons hlt] at k2
      unfold loopF at k2
      cases hgt : gt xs[i] α2 with
      | none => rw [hgt] at k2; exact k2.elim
      | some β =>
        rw [hgt] at k2
        have R3 := R2.up e3
        refine hg c L2 S2 σ2 H3 α2 xs[i] v β R3 r3 hgt _ fun σ4 _ _ R4 => ?_
        have f3 : Same (fz L2 H2) (fz L2 H3) := fz_same e3
        refine hb c L2 S2 σ4 H3 β _ R4 ?_
        dsimp only at k2
        cases hs : s β with
        | nxt β' => rw [hs] at k2; exact fun L5 S5 σ5 H5 a5 r5 => ⟨L5, S5, β', r5, s2.trans (f3.trans a5), OutOk.mono (f3.trans a5) k2⟩
        | cnt β' => rw [hs] at k2; exact fun L5 S5 σ5 H5 a5 r5 => ⟨L5, S5, β', r5, s2.trans (f3.trans a5), OutOk.mono (f3.trans a5) k2⟩
        | brk β' => rw [hs] at k2; exact fun L5 S5 σ5 H5 a5 r5 => k2 L5 S5 σ5 H5 (f3.trans a5) r5
        | ret r β' => rw [hs] at k2; exact k2
        | exc x => rw [hs] at k2; exact k2
        | bad => rw [hs] at k2; exact k2
    · have e2 : i = xs.length := by omega
      subst e2
      rw [List.drop_length] at k2
      exact .inl ⟨w2 (Nat.le_refl _), k2 L2 S2 σ2 H2 (Same.refl _) R2⟩
def loopW (t : State → Res Bool) (body : State → Out) : Nat → State → Out
  | 0, _ => .bad
  | n + 1, α => match t α with
    | .ok true α' => (match body α' with
      | .nxt β => loopW t body n β
      | .cnt β => loopW t body n β
      | .brk β => .nxt β
      | o => o)
    | .ok false α' => .nxt α'
    | .exc x => .exc x
    | .bad => .bad
theorem st_while {st : State → Res Bool} (fuel : State → Nat) (ht : EvtE e E t st) (hb : Sts e E ts s) : Sts e E (tWhile t ts) (fun α => loopW st s (fuel α) α) := fun c L S σ H α D R k => by
  refine ⟨fun m σ' H' => ∃ L' S' α', Rel e c L' S' σ' H' α' ∧ Same (fz L H) (fz L' H') ∧ OutOk e E c D (fz L' H') (loopW st s m α'), ⟨_, L, S, α, R, Same.refl _, k⟩, ?_⟩
  rintro m σ2 H2 ⟨L2, S2, α2, R2, s2, k2⟩
  cases m with
  | zero => exact k2.elim
  | succ n =>
    unfold loopW at k2
    refine ht c L2 S2 σ2 H2 α2 R2 _ (fun b α' hs H' m r1 => ?_) (fun x hx => by rw [hx] at k2; exact k2) (fun hb => by rw [hb] at k2; exact k2)
    rw [hs] at k2
    have f3 := fz_mod m R2.sub
    cases b with
    | false => exact k2 L2 S2 σ2 H' f3 r1
    | true =>
      refine ⟨fun σ' H' => ∃ L' S' α', Rel e c L' S' σ' H' α' ∧ Same (fz L H) (fz L' H') ∧ OutOk e E c D (fz L' H') (loopW st s n α'), fun σ' H' h => ⟨n, Nat.lt_succ_self _, h⟩, ?_⟩
      refine hb c L2 S2 σ2 H' α' _ r1 ?_
      dsimp only at k2
      cases hs : s α' with
      | nxt β' => rw [hs] at k2; exact fun L5 S5 σ5 H5 a5 r5 => ⟨L5, S5, β', r5, s2.trans (f3.trans a5), OutOk.mono (f3.trans a5) k2⟩
      | cnt β' => rw [hs] at k2; exact fun L5 S5 σ5 H5 a5 r5 => ⟨L5, S5, β', r5, s2.trans (f3.trans a5), OutOk.mono (f3.trans a5) k2⟩
      | brk β' => rw [hs] at k2; exact fun L5 S5 σ5 H5 a5 r5 => k2 L5 S5 σ5 H5 (f3.trans a5) r5
      | ret r β' => rw [hs] at k2; exact k2
      | exc x => rw [hs] at k2; exact k2
      | bad => rw [hs] at k2; exact k2
end
end Ab
end
section
set_option maxRecDepth 100000
set_option maxHeartbeats 1000000
namespace Ab
open PySem L2 PyProof.Rows PySem.Spec
section
variable {e : En} {E : XK} {te ta tb : TE} {ts tu tw : TS} {t : TT} {s u w : State → Out}

/-- an owned object is changed by a callee -/
theorem Rel.mutM {c : Cn} {L S : List Addr} {σ : L2.St} {H H' : Hp} {α : State} (r : Rel e c L S σ H α) {i : Nat} {p : Addr} {o : HO} {ct ct' : Ct} (h : ctOf α[i]? = some ct) (hp : σ[i]? = some (some (.ref p))) (m : Mod [p] H H') (ho : H' p = some o) (rc : RepC e (fz L H') ct' o) :
    Rel e c L S σ H' (putC α i ct') ∧ Mod S H H' := by
  obtain ⟨p', o', hp', mS, ho', _⟩ := r.at h
  rw [hp] at hp'; cases hp'
  have mL := r.sub p mS
  have m' : ∀ a u, H a = some u → a ≠ p → H' a = some u := fun a u q n => m a u q (by simpa using n)
  have fzs : Same (fz L H) (fz L H') := fz_mut fun a u q n => m' a u q fun z => n (by rw [z]; exact mL)
  have md : Mod S H H' := fun a u q n => m' a u q fun z => n (by rw [z]; exact mS)
  refine ⟨⟨fun j a q => ?_, fun j k q hj hk sj sk => r.sep j k q (putC_own hj) (putC_own hk) sj sk, fun q m2 z => ?_, r.sub, r.l0, r.l1, r.s1, ?_, r.s0, r.d0, by rw [putC_len]; exact r.len⟩, md⟩
  · by_cases e1 : j = i
    · subst e1
      cases ha : α[j]? with
      | none => rw [ha] at h; cases h
      | some x =>
        cases x with
        | none => rw [ha] at h; cases h
        | some b =>
          have hl : j < α.length := (List.getElem?_eq_some_iff.mp ha).1
          obtain ⟨v, h1, h2⟩ := r.slot j b ha
          rw [hp] at h1; cases h1
          unfold putC at q
          cases b with
          | dat d => rw [ha] at h; cases h
          | adr _ => rw [ha] at h; cases h
          | own c1 =>
            rw [ha] at q
            rw [show (α.set j (some (A.own ct')))[j]? = some (some (A.own ct')) by rw [getset, if_pos rfl, if_pos hl]] at q
            cases q
            obtain ⟨p', o2, q2, m, n, ho2, _⟩ := h2
            cases q2
            exact ⟨_, hp, p, o, rfl, m, n, ho, rc⟩
          | inn c1 =>
            rw [ha] at q
            rw [show (α.set j (some (A.inn ct')))[j]? = some (some (A.inn ct')) by rw [getset, if_pos rfl, if_pos hl]] at q
            cases q
            obtain ⟨p', o2, q2, m, n, ho2, _⟩ := h2
            cases q2
            exact ⟨_, hp, p, o, rfl, m, n, ho, rc⟩
    · have qa : α[j]? = some (some a) := by
        unfold putC at q
        split at q
        · rw [getset, if_neg (fun z => e1 z.symm)] at q; exact q
        · rw [getset, if_neg (fun z => e1 z.symm)] at q; exact q
        · exact q
      obtain ⟨v, h1, h2⟩ := r.slot j a qa
      refine ⟨v, h1, ?_⟩
      have hne : isOwn α[j]? = true → v ≠ .ref p := fun ho z => e1 (r.sep j i p ho (isOwn_ct h) (by rw [h1, z]) hp)
      cases a with
      | dat d => exact Rep.up (d := d) h2 fzs
      | adr _ => exact h2
      | own c1 =>
        obtain ⟨p', o2, q2, m, n, ho2, rc2⟩ := h2
        subst q2
        exact ⟨p', o2, rfl, m, n, m' _ _ ho2 (fun z => hne (by rw [qa]; rfl) (by rw [z])), rc2.up fzs⟩
      | inn c1 =>
        obtain ⟨p', o2, q2, m, n, ho2, rc2⟩ := h2
        subst q2
        exact ⟨p', o2, rfl, m, n, m' _ _ ho2 (fun z => hne (by rw [qa]; rfl) (by rw [z])), rc2.up fzs⟩
  · by_cases e1 : q = p
    · subst e1; rw [ho] at z; cases z
    · cases qh : H q with
      | none => exact r.dom q m2 qh
      | some o2 => rw [m' q o2 qh e1] at z; cases z
  · intro a u q n
    have hne : a ≠ p := by
      rintro rfl
      rcases r.s1 a mS with z | z
      · exact n z
      · rw [q] at z; cases z
    exact m' a u (r.md a u q n) hne

/-! ### lists that are owned -/
def isL (x : Option (Option A)) : Bool := match ctOf x with | some (.lst _) => true | _ => false
def sApp (i : Nat) (s : State → Res D) : State → Out := fun α => if isL α[i]? = true then (match s α with
  | .ok d α' => (match ctOf α'[i]? with | some (.lst xs) => if xs.length < 100000 then .nxt (putC α' i (.lst (xs ++ [d]))) else .bad | _ => .bad)
  | .exc x => .exc x | .bad => .bad) else .bad
theorem isL_some {x : Option (Option A)} (h : isL x = true) : ∃ xs, ctOf x = some (.lst xs) := by
  unfold isL at h
  split at h
  · exact ⟨_, by assumption⟩
  · cases h
theorem st_app {i : Nat} {s : State → Res D} (h : Eve e E te s) : Sts e E (tDrop (tBM e.K "list" rAppend (tVar i) (tCons te tNil))) (sApp i s) := fun c L S σ H α D R k => by
  unfold sApp at k
  split at k
  · rename_i hi
    obtain ⟨ys, hy⟩ := isL_some hi
    obtain ⟨p, o, h1, m1, ho, vs, rfl, r1⟩ := R.at hy
    refine ⟨.ref p, h1, .inl ⟨rfl, vs, SqL.of ho⟩, ?_⟩
    refine h c L S σ H α R _ (fun d α' hs v H' m R' rv => ?_) (fun x hx => by rw [hx] at k; exact k) (fun hb => by rw [hb] at k; exact k)
    rw [hs] at k
    dsimp only at k
    split at k
    · rename_i xs hx
      split at k
      · rename_i hz
        obtain ⟨p', o', h1', m1', ho', vs', rfl, r1'⟩ := R'.at hx
        rw [h1] at h1'; cases h1'
        refine ⟨p, vs', v, rfl, rfl, ho', by rw [r1'.len]; exact sz_lt hz, ?_⟩
        have fzs : Same (fz L H') (fz L H') := Same.refl _
        obtain ⟨R2, m2⟩ := R'.mut hx h1 (o := .lst (vs' ++ [v])) (ct' := .lst (xs ++ [d])) ⟨_, rfl, r1'.append (Reps.cons rv Reps.nil)⟩
        exact k L S σ _ ((fz_mod m R.sub).trans (fz_mod m2 R'.sub)) R2
      · exact k.elim
    · exact k.elim
  · exact k.elim
def xPop (i : Nat) : State → Res D := fun α => match ctOf α[i]? with | some (.lst xs) => (match xs.getLast? with | some d => .ok d (putC α i (.lst xs.dropLast)) | none => .bad) | _ => .bad
theorem Reps.dropLast : ∀ {ds : List D} {vs : List V} {F : Hp}, Reps e F ds vs → Reps e F ds.dropLast vs.dropLast := fun {ds vs F} r => by
  rw [List.dropLast_eq_take, List.dropLast_eq_take, r.len]
  exact r.take _
theorem ee_pop (i : Nat) : Eve e E (tBM0 e.K "list" rPop (tVar i)) (xPop i) := fun c L S σ H α R Q k kx nb => by
  unfold xPop at k nb
  cases hc : ctOf α[i]? with
  | none => rw [hc] at nb; exact absurd rfl nb
  | some ct =>
    cases ct with
    | obj x fs => rw [hc] at nb; exact absurd rfl nb
    | dic kvs => rw [hc] at nb; exact absurd rfl nb
    | lst xs =>
      rw [hc] at k nb
      dsimp only at k nb
      cases hl : xs.getLast? with
      | none => rw [hl] at nb; exact absurd rfl nb
      | some d =>
        rw [hl] at k
        obtain ⟨p, o, h1, m1, ho, vs, rfl, r1⟩ := R.at hc
        rw [List.getLast?_eq_getElem?] at hl
        obtain ⟨v, hv, rv⟩ := r1.get hl
        refine ⟨.ref p, h1, .inl ⟨rfl, vs, SqL.of ho⟩, p, vs, v, rfl, rfl, ho, by rw [r1.len]; exact hv, ?_⟩
        obtain ⟨R2, m2⟩ := R.mut hc h1 (o := .lst vs.dropLast) (ct' := .lst xs.dropLast) ⟨_, rfl, r1.dropLast⟩
        exact k d _ rfl v _ m2 R2 (rv.up (fz_mod m2 R.sub))
/-- x[k] = e -/
def sSetI (i : Nat) (s : State → Res D) (sk : State → Option D) : State → Out := fun α => match s α with
  | .ok d α' => (match sk α', ctOf α'[i]? with | some (.int z), some (.lst xs) => (match ixN xs.length z with | some j => .nxt (putC α' i (.lst (xs.set j d))) | none => .bad) | _, _ => .bad)
  | .exc x => .exc x | .bad => .bad
theorem st_setI {i : Nat} {s : State → Res D} {sk : State → Option D} (h : Eve e E te s) (hk : Evp e tb sk) : Sts e E (tAsg te (gSub (tVar i) tb rSetL)) (sSetI i s sk) := fun c L S σ H α D R k => by
  unfold sSetI at k
  refine h c L S σ H α R _ (fun d α' hs v H' m R' rv => ?_) (fun x hx => by rw [hx] at k; exact k) (fun hb => by rw [hb] at k; exact k)
  rw [hs] at k
  dsimp only at k
  split at k
  · rename_i z xs hz hx
    split at k
    · rename_i j hj
      obtain ⟨p, o, h1, m1, ho, vs, rfl, r1⟩ := R'.at hx
      refine ⟨.ref p, h1, ?_⟩
      refine hk c L S σ H' α' _ R' hz _ fun v2 H2 e2 r2 => ?_
      cases r2
      refine ⟨p, vs, z, j, rfl, rfl, e2 _ _ ho, by rw [r1.len]; exact hj, ?_⟩
      have R2 := R'.up e2
      obtain ⟨R3, m3⟩ := R2.mut hx h1 (o := .lst (vs.set j v)) (ct' := .lst (xs.set j d)) ⟨_, rfl, (r1.set j rv).up (fz_same e2)⟩
      exact k L S σ _ ((fz_mod m R.sub).trans ((fz_same e2).trans (fz_mod m3 R2.sub))) R3
    · exact k.elim
  · exact k.elim

/-! ### arguments with side effects, calls -/
def anil : State → Res (List Arg) := fun α => .ok [] α
theorem eae_nil : EvaE e E tNil anil := fun c L S σ H α R Q k kx nb => k [] α rfl [] H Mod.refl R rfl
def acons (s : State → Res D) (sr : State → Res (List Arg)) : State → Res (List Arg) := fun α => match s α with
  | .ok d α1 => (match sr α1 with | .ok as α2 => .ok (.dat d :: as) α2 | .exc x => .exc x | .bad => .bad)
  | .exc x => .exc x | .bad => .bad
theorem eae_cons {tr : TA} {s : State → Res D} {sr : State → Res (List Arg)} (h : Eve e E te s) (hr : EvaE e E tr sr) : EvaE e E (tCons te tr) (acons s sr) := fun c L S σ H α R Q k kx nb => by
  unfold acons at k kx nb
  refine h c L S σ H α R _ (fun d α1 hs v H1 m1 R1 r1 => ?_) (fun x hx => kx x (by rw [hx])) (fun hb => nb (by rw [hb]))
  rw [hs] at k kx nb
  dsimp only at k kx nb
  refine hr c L S σ H1 α1 R1 _ (fun as α2 hs2 vs H2 m2 R2 r2 => ?_) (fun x hx => kx x (by rw [hx])) (fun hb => nb (by rw [hb]))
  rw [hs2] at k
  exact k _ α2 rfl _ H2 (m1.trans m2) R2 ⟨v, vs, rfl, Rep.up (d := d) r1 (fz_mod m2 R1.sub), r2⟩
def aslot (i : Nat) (sr : State → Res (List Arg)) : State → Res (List Arg) := fun α => if (ctOf α[i]?).isSome = true then (match sr α with | .ok as α2 => .ok (.slot i :: as) α2 | .exc x => .exc x | .bad => .bad) else .bad
theorem eae_slot (i : Nat) {tr : TA} {sr : State → Res (List Arg)} (hr : EvaE e E tr sr) : EvaE e E (tCons (tVar i) tr) (aslot i sr) := fun c L S σ H α R Q k kx nb => by
  unfold aslot at k kx nb
  split at nb
  · rename_i hi
    rw [if_pos hi] at k kx
    obtain ⟨ct, hct⟩ := Option.isSome_iff_exists.mp hi
    obtain ⟨p, o, h1, m1, ho, r1⟩ := R.at hct
    refine ⟨.ref p, h1, ?_⟩
    refine hr c L S σ H α R _ (fun as α2 hs2 vs H2 m2 R2 r2 => ?_) (fun x hx => kx x (by rw [hx])) (fun hb => nb (by rw [hb]))
    rw [hs2] at k
    exact k _ α2 rfl _ H2 m2 R2 ⟨.ref p, vs, rfl, h1, r2⟩
  · exact absurd rfl nb
def datas : List Arg → Option (List D)
  | [] => some []
  | .dat d :: r => (datas r).map (d :: ·)
  | .slot _ :: _ => none
theorem datas_rep {L : List Addr} {σ : L2.St} {H : Hp} : ∀ {as : List Arg} {vs : List V} {ds : List D}, datas as = some ds → ArgsRep e L σ H as vs → Reps e (fz L H) ds vs
  | [], _, _, h, r => by cases h; cases r; exact Reps.nil
  | .dat d :: as, _, _, h, ⟨v, w, q, r1, r2⟩ => by
    unfold datas at h
    cases hs : datas as with
    | none => rw [hs] at h; cases h
    | some ds => rw [hs] at h; cases h; subst q; exact Reps.cons r1 (datas_rep hs r2)
  | .slot _ :: _, _, _, h, _ => by cases h
def rCall (m : List D → Option D) (sr : State → Res (List Arg)) : State → Res D := fun α => match sr α with
  | .ok as α1 => (match bnd (datas as) m with | some d => .ok d α1 | none => .bad)
  | .exc x => .exc x | .bad => .bad
/-- a call without side effects of its own, of arguments with such -/
theorem ee_call {E' : XK} {m : List D → Option D} {tr : TA} {sr : State → Res (List Arg)} (h : EvaE e E tr sr) : Eve e E (tCall (spP e m) [] E' tr) (rCall m sr) := fun c L S σ H α R Q k kx nb => by
  unfold rCall at k kx nb
  refine h c L S σ H α R _ (fun as α1 hs vs H1 m1 R1 r1 => ?_) (fun x hx => kx x (by rw [hx])) (fun hb => nb (by rw [hb]))
  rw [hs] at k nb
  dsimp only at k nb
  cases hb : bnd (datas as) m with
  | none => rw [hb] at nb; exact absurd rfl nb
  | some d =>
    rw [hb] at k
    obtain ⟨ds, h1, h2⟩ := bnd_some hb
    exact ⟨L, ds, d, R1.dom, by rw [List.append_nil]; exact datas_rep h1 r1, h2, fun v H' e2 r2 => k d α1 rfl v H' (m1.trans (.of e2)) (R1.up e2) r2⟩
/-- displays -/
def rTup (sr : State → Res (List Arg)) : State → Res D := fun α => match sr α with
  | .ok as α1 => (match datas as with | some ds => if ds.length ≤ 100000 then .ok (.tup ds) α1 else .bad | none => .bad)
  | .exc x => .exc x | .bad => .bad
theorem ee_tup {tr : TA} {sr : State → Res (List Arg)} (h : EvaE e E tr sr) : Eve e E (tTup tr) (rTup sr) := fun c L S σ H α R Q k kx nb => by
  unfold rTup at k kx nb
  refine h c L S σ H α R _ (fun as α1 hs vs H1 m1 R1 r1 => ?_) (fun x hx => kx x (by rw [hx])) (fun hb => nb (by rw [hb]))
  rw [hs] at k nb
  dsimp only at k nb
  cases hb : datas as with
  | none => rw [hb] at nb; exact absurd rfl nb
  | some ds =>
    rw [hb] at k nb
    dsimp only at k nb
    split at nb
    · rename_i hz
      rw [if_pos hz] at k
      have r2 := datas_rep hb r1
      refine ⟨by rw [r2.len]; exact sz_of hz, fun p hp => ?_⟩
      have s2 : Same H1 (upd H1 p (.tup vs)) := fun b o z => by rw [upd_ne (ne_of_none z hp)]; exact z
      exact k _ α1 rfl _ _ (m1.trans (.of s2)) (R1.up s2) ⟨p, vs, rfl, .inl (.inl (fz_new (fresh_nL R1.dom hp) upd_same)), r2.up (fz_same s2)⟩
    · exact absurd rfl nb

/-! ### a def that changes an object handed in -/
inductive MRes where
  | ok (r : RetV) (as : List A) | exc (x : Exn) | bad
def AsRep (e : En) (L S : List Addr) (H : Hp) : List A → List V → Prop
  | [], vs => vs = []
  | a :: r, vs => ∃ v w, vs = v :: w ∧ (match a with
    | .dat d => Rep e (fz L H) d v
    | .inn ct => ∃ p o, v = .ref p ∧ p ∈ S ∧ H p = some o ∧ RepC e (fz L H) ct o
    | .own _ => False
    | .adr _ => False) ∧ AsRep e L S H r w
def innCount : List A → Nat
  | [] => 0
  | .inn _ :: r => innCount r + 1
  | _ :: r => innCount r
/-- at most one object is handed in to be changed -/
def spM (e : En) (m : List A → MRes) : Sp := fun vs H Q E => ∃ L S as, Dom L H ∧ (∀ p ∈ S, p ∈ L) ∧ innCount as ≤ 1 ∧ AsRep e L S H as vs ∧
  (∀ r as', m as = .ok r as' → ∀ v H', Mod S H H' → AsRep e L S H' as' vs → RetRep e L H' v ⟨L, S, H, []⟩ r → Q v H') ∧
  (∀ x, m as = .exc x → ∀ cls dd H', Mod S H H' → XRep e (fz L H') H' x cls dd → (∀ p, dd = some p → H p = none) → E cls dd H') ∧ m as ≠ .bad

/-! ### a def's promise by its body -/
def ends (k : Nat) (α : State) : State := α
def inP (n k : Nat) (ds : List D) : State := ds.map (fun d => some (.dat d)) ++ List.replicate (n - k) none
def runP (n k : Nat) (s : State → Out) : List D → Option D := fun ds => if ds.length = k then (match s (inP n k ds) with
  | .ret (.dat d) _ => some d | .ret (.lst xs) _ => some (.lst xs) | .nxt _ => some .non | _ => none) else none
def runL (n k : Nat) (s : State → Out) : List D → Option (List D) := fun ds => if ds.length = k then (match s (inP n k ds) with
  | .ret (.lst xs) _ => some xs | _ => none) else none
theorem Mod.same {H H' : Hp} (h : Mod [] H H') : Same H H' := fun a o q => h a o q (by simp)
theorem inP_rel {L : List Addr} {H : Hp} {ds : List D} {vs : List V} {N : List Str} (dm : Dom L H) (r : Reps e (fz L H) ds vs) (hk : vs.length ≤ N.length) : Rel e ⟨L, [], H, L2.start N vs⟩ L [] (L2.start N vs) H (inP N.length vs.length ds) where
  slot := fun i a q => by
    unfold inP at q
    have hl := r.len
    by_cases hi : i < ds.length
    · rw [List.getElem?_append_left (by simpa using hi), List.getElem?_map, List.getElem?_eq_getElem hi] at q
      cases q
      obtain ⟨v, h1, h2⟩ := r.get (List.getElem?_eq_getElem hi)
      refine ⟨v, ?_, h2⟩
      unfold L2.start
      rw [List.getElem?_append_left (by simp; omega), List.getElem?_map, h1]
      rfl
    · rw [List.getElem?_append_right (by simp; omega)] at q
      rw [List.getElem?_replicate] at q
      split at q <;> cases q
  sep := fun i j p hi _ _ _ => by
    unfold inP at hi
    by_cases h : i < ds.length
    · rw [List.getElem?_append_left (by simpa using h), List.getElem?_map, List.getElem?_eq_getElem h] at hi
      simp [isOwn] at hi
    · rw [List.getElem?_append_right (by simp; omega), List.getElem?_replicate] at hi
      split at hi <;> simp [isOwn] at hi
  dom := dm
  sub := fun _ h => nomatch h
  l0 := fun _ h => h
  l1 := fun _ h => .inl h
  s1 := fun _ h => nomatch h
  md := Mod.refl
  s0 := fun _ h => nomatch h
  d0 := dm
  len := by
    unfold L2.start inP
    simp [r.len]
variable {P : Program} {w : World} {K : PySem.W.Frag} {mg : Str → Option Value} {base : Heap}
theorem fn_P {cls : String → Addr} {x qual : Str} {st : Stmt} {f : Addr} {fd : FuncData} {N ps : List Str} {k : Nat} (s : State → Out) (F : Fun K x qual st f fd) (S : FnScope N ps (defScope st)) {n kk : Nat} (hn : N.length = n) (hkk : ps.length = kk) (hps : kk ≤ n) {m : List D → Option D} (hmm : m = runP n kk s)
    (hbody : ∀ (cdv : Value) (A : Around) (outer : List Env) (s0 : Shared) (H : Hp) (E : XK), Room k (A.deeper (envOfC qual (defScope st) s0.heap.objs.size f cdv)) →
      ∃ t, PSs (cxOf CX0 P w K mg base N qual (defScope st) f cdv A outer s0 H E).nox (defBody st) t ∧ Sts ⟨K, cls⟩ E0 t s) : FnOk P w K mg base CX0 (k + 1) f fd ps (spP ⟨K, cls⟩ m) := by
  subst hn hkk hmm
  refine F.ok S (fun vs H Q E h => ?_) (fun cdv A outer s0 H vs Q E hr h => ?_)
  · obtain ⟨L, ds, d, dm, r, hm, q⟩ := h
    unfold runP at hm
    split at hm
    · rename_i hl
      rw [r.len, hl]
    · cases hm
  · obtain ⟨L, ds, d, dm, r, hm, q⟩ := h
    obtain ⟨t, h1, h2⟩ := hbody cdv A outer s0 H E hr
    refine ⟨t, h1, ?_⟩
    unfold runP at hm
    split at hm
    · rename_i hl
      have hvl : vs.length = ps.length := by rw [r.len, hl]
      have R := inP_rel (N := N) dm r (by omega)
      rw [hvl] at R
      refine h2 _ _ _ _ _ _ _ R ?_
      split at hm
      · rename_i d' β hs
        cases hm
        rw [hs]
        intro v L' S' σ' H' R' rr
        exact q v H' R'.md.same (Rep.mono (fz_anti R'.l0) _ _ rr)
      · rename_i xs β hs
        cases hm
        rw [hs]
        intro v L' S' σ' H' R' rr
        obtain ⟨p, us, rfl, n0, hp, r2⟩ := rr
        refine q _ H' R'.md.same ⟨p, us, rfl, .inl (.inl (fz_new (fun m => R'.d0 p m n0) hp)), r2.up (fz_anti fun a m => List.mem_cons_of_mem _ (R'.l0 a m))⟩
      · rename_i β hs
        cases hm
        rw [hs]
        intro L' S' σ' H' _ R'
        exact q _ H' R'.md.same rfl
      · cases hm
    · cases hm
theorem fn_L {cls : String → Addr} {x qual : Str} {st : Stmt} {f : Addr} {fd : FuncData} {N ps : List Str} {k : Nat} (s : State → Out) (F : Fun K x qual st f fd) (S : FnScope N ps (defScope st)) {n kk : Nat} (hn : N.length = n) (hkk : ps.length = kk) (hps : kk ≤ n) {m : List D → Option (List D)} (hmm : m = runL n kk s)
    (hbody : ∀ (cdv : Value) (A : Around) (outer : List Env) (s0 : Shared) (H : Hp) (E : XK), Room k (A.deeper (envOfC qual (defScope st) s0.heap.objs.size f cdv)) →
      ∃ t, PSs (cxOf CX0 P w K mg base N qual (defScope st) f cdv A outer s0 H E).nox (defBody st) t ∧ Sts ⟨K, cls⟩ E0 t s) : FnOk P w K mg base CX0 (k + 1) f fd ps (spL ⟨K, cls⟩ m) := by
  subst hn hkk hmm
  refine F.ok S (fun vs H Q E h => ?_) (fun cdv A outer s0 H vs Q E hr h => ?_)
  · obtain ⟨L, ds, d, dm, r, hm, q⟩ := h
    unfold runL at hm
    split at hm
    · rename_i hl
      rw [r.len, hl]
    · cases hm
  · obtain ⟨L, ds, d, dm, r, hm, q⟩ := h
    obtain ⟨t, h1, h2⟩ := hbody cdv A outer s0 H E hr
    refine ⟨t, h1, ?_⟩
    unfold runL at hm
    split at hm
    · rename_i hl
      have hvl : vs.length = ps.length := by rw [r.len, hl]
      have R := inP_rel (N := N) dm r (by omega)
      rw [hvl] at R
      refine h2 _ _ _ _ _ _ _ R ?_
      split at hm
      · rename_i xs β hs
        cases hm
        rw [hs]
        intro v L' S' σ' H' R' rr
        obtain ⟨p, us, rfl, n0, hp, r2⟩ := rr
        refine q p us H' R'.md.same n0 hp (r2.up (fz_anti fun a m => ?_))
        rcases List.mem_cons.mp m with rfl | m
        · exact List.mem_cons_self
        · exact List.mem_cons_of_mem _ (R'.l0 a m)
      · cases hm
    · cases hm

/-! ### comprehensions -/
def wipeA : List Nat → State → State
  | [], α => α
  | v :: vs, α => (wipeA vs α).set v none
theorem Rel.setN {c : Cn} {L S : List Addr} {σ : L2.St} {H : Hp} {α : State} (r : Rel e c L S σ H α) (i : Nat) : Rel e c L S (σ.set i none) H (α.set i none) where
  slot := fun j a q => by
    rw [getset] at q ⊢
    split at q
    · split at q <;> cases q
    · rename_i hn
      rw [if_neg hn]
      exact r.slot j a q
  sep := fun j k p hj hk sj sk => by
    rw [getset] at hj hk sj sk
    by_cases e1 : i = j
    · rw [if_pos e1] at hj
      split at hj <;> simp [isOwn] at hj
    · by_cases e2 : i = k
      · rw [if_pos e2] at hk
        split at hk <;> simp [isOwn] at hk
      · rw [if_neg e1] at hj sj; rw [if_neg e2] at hk sk
        exact r.sep j k p hj hk sj sk
  dom := r.dom
  sub := r.sub
  l0 := r.l0
  l1 := r.l1
  s1 := r.s1
  md := r.md
  s0 := r.s0
  d0 := r.d0
  len := by rw [List.length_set, List.length_set]; exact r.len
theorem Rel.wipe {c : Cn} {L S : List Addr} {σ : L2.St} {H : Hp} {α : State} (r : Rel e c L S σ H α) : ∀ vs : List Nat, Rel e c L S (L2.wipe σ vs) H (wipeA vs α)
  | [] => r
  | v :: vs => (Rel.wipe r vs).setN v
theorem wipe_idem {σ : L2.St} {vs : List Nat} : L2.wipe (L2.wipe σ vs) vs = L2.wipe σ vs := wipe_ext (wipe_length _ _) fun j hj => wipe_out hj
def lcF (gt : D → State → Option State) (st : State → Option Bool) (se : State → Option D) : List D → State → Option (List D)
  | [], _ => some []
  | x :: xs, α => bnd (gt x α) fun β => match st β with
    | some true => bnd (se β) fun d => bnd (lcF gt st se xs α) fun r => some (d :: r)
    | some false => lcF gt st se xs α
    | none => none
def xLc (vs : List Nat) (sx : State → Option (List D)) (gt : D → State → Option State) (st : State → Option Bool) (se : State → Option D) : State → Option (List D) := fun α =>
  bnd (sx α) fun xs => if xs.length ≤ 100000 then lcF gt st se xs (wipeA vs α) else none
def tbYes : State → Option Bool := fun _ => some true
theorem et_yes : Evt e tYes tbYes := fun c L S σ H α b R q Q k => by cases q; exact k H (Same.refl H)
theorem el_lc {wi : TI} {g : TG} {tt : TT} {vs js : List Nat} {sx : State → Option (List D)} {gt : D → State → Option State} {st : State → Option Bool} {se : State → Option D} (hi : Evi e wi sx) (hg : Etg e g gt js) (hj : ∀ j ∈ js, j ∈ vs) (ht : Evt e tt st) (he : Evp e te se) :
    Evl e (tLc wi g tt te vs) (xLc vs sx gt st se) := fun c L S σ H α out R q Q k => by
  obtain ⟨xs, hx, q⟩ := bnd_some q
  split at q
  · rename_i hz
    refine hi c L S σ H α xs R hx _ fun J H1 e1 wk => ?_
    intro D0 hD
    have hn : H D0 = none := by
      cases z : H D0 with
      | none => rfl
      | some o => rw [e1 D0 o z] at hD; cases hD
    have R1 := R.up e1
    refine ⟨fun i m H' => m = xs.length - i ∧ i ≤ xs.length ∧ Same H1 H' ∧ ∃ acc ds rest, H' D0 = some (.lst acc) ∧ acc.length ≤ i ∧ Reps e (fz (D0 :: L) H') ds acc ∧ lcF gt st se (xs.drop i) (wipeA vs α) = some rest ∧ ds ++ rest = out,
      ⟨xs.length, by simp, Nat.zero_le _, fun a o z => by rw [upd_ne (ne_of_none z hD)]; exact z, [], [], out, upd_same, Nat.le_refl _, Reps.nil, q, rfl⟩, ?_⟩
    rintro i m H2 ⟨rfl, hi, s2, acc, ds, rest, h2, hal, hr, hl, ho⟩
    have R2 : Rel e c (D0 :: L) S (L2.wipe σ vs) H2 (wipeA vs α) := (R1.more s2 hD h2).wipe vs
    have s2' : Same (fz L H1) (fz (D0 :: L) H2) := fz_cons s2 hD
    obtain ⟨w1, w2, w3⟩ := wk (D0 :: L) H2 s2' R2.dom i
    by_cases hlt : i < xs.length
    · rw [List.drop_eq_getElem_cons hlt] at hl
      obtain ⟨β, hgt, hl⟩ := bnd_some hl
      refine .inr ⟨w1 hlt, fun H' => Same H1 H' ∧ ∃ acc ds rest, H' D0 = some (.lst acc) ∧ acc.length ≤ i + 1 ∧ Reps e (fz (D0 :: L) H') ds acc ∧ lcF gt st se (xs.drop (i + 1)) (wipeA vs α) = some rest ∧ ds ++ rest = out,
        fun H' ⟨h', h''⟩ => ⟨xs.length - (i + 1), by omega, rfl, hlt, h', h''⟩, fun v H3 y => ?_⟩
      obtain ⟨e3, r3⟩ := w3 xs[i] v H3 (List.getElem?_eq_getElem hlt) y
      refine hg c _ S _ H3 _ xs[i] v β (R2.up e3) r3 hgt _ fun σ4 hl4 hj4 R4 => ⟨?_, ?_⟩
      · rw [wipe_ext hl4 fun j hn => hj4 j fun m => hn (hj j m), wipe_idem]
      · cases hst : st β with
        | none => rw [hst] at hl; cases hl
        | some b =>
          rw [hst] at hl
          refine ht c _ S σ4 H3 β b R4 hst _ fun H4 e4 => ?_
          cases b with
          | false =>
            rw [if_neg Bool.false_ne_true]
            exact ⟨s2.trans (e3.trans e4), acc, ds, rest, (e3.trans e4) _ _ h2, by omega, hr.up (fz_same (e3.trans e4)), hl, ho⟩
          | true =>
            rw [if_pos rfl]
            obtain ⟨d, hd, hl⟩ := bnd_some hl
            obtain ⟨rest', hr', hl⟩ := bnd_some hl
            cases hl
            refine he c _ S σ4 H4 β d (R4.up e4) hd _ fun v5 H5 e5 r5 => ?_
            have e35 := e3.trans (e4.trans e5)
            have fzs : Same (fz (D0 :: L) H5) (fz (D0 :: L) (upd H5 D0 (.lst (acc ++ [v5])))) := fz_mut fun a o z n => by
              rw [upd_ne (fun z' => n (by rw [z']; exact List.mem_cons_self))]; exact z
            refine ⟨acc, e35 _ _ h2, sz_lt (by omega), fun a o z => ?_, acc ++ [v5], ds ++ [d], rest', upd_same, by simp; omega, ((hr.up (fz_same e35)).append (Reps.cons r5 Reps.nil)).up fzs, hr', by rw [← ho, List.append_assoc]; rfl⟩
            rw [upd_ne (ne_of_none z hD)]
            exact e35 _ _ (s2 _ _ z)
    · have e2 : i = xs.length := by omega
      subst e2
      rw [List.drop_length] at hl
      cases hl
      rw [List.append_nil] at ho
      subst ho
      exact .inl ⟨w2 (Nat.le_refl _), k D0 acc H2 (e1.trans s2) hn h2 hr⟩
  · cases q
end
end Ab
end
section
set_option maxRecDepth 100000
set_option maxHeartbeats 1000000
namespace Ab
open PySem L2 PyProof.Rows PySem.Spec
section
variable {e : En} {E : XK} {te ta tb : TE} {sq sq2 : State → Option (List D)}
theorem none_back {H H1 : Hp} {p : Addr} (s : Same H H1) (n : H1 p = none) : H p = none := by
  cases z : H p with
  | none => rfl
  | some o => rw [s p o z] at n; cases n
theorem same_upd {H : Hp} {p : Addr} {o : HO} (h : H p = none) : Same H (upd H p o) := fun b u z => by rw [upd_ne (ne_of_none z h)]; exact z
/-! ### in -/
theorem reps_flat : ∀ {F : Hp} {ds : List D} {vs : List V}, ds.all flat = true → Reps e F ds vs → vs = ds.map dv
  | _, [], _, _, r => by cases r; rfl
  | F, d :: ds, _, h, ⟨v, w, q, r1, r2⟩ => by
    simp only [List.all_cons, Bool.and_eq_true] at h
    subst q
    rw [rep_flat h.1 r1, reps_flat h.2 r2]
    rfl
theorem flatV_dv {d : D} (h : flat d = true) : flatV (dv d) = true := by cases d <;> first | rfl | (simp [flat] at h)
theorem flatV_dvs {ds : List D} (h : ds.all flat = true) : (ds.map dv).all flatV = true := by
  rw [List.all_map]
  rw [List.all_eq_true] at h ⊢
  exact fun x hx => flatV_dv (h x hx)
def memD (neg : Bool) : D → D → Option D := fun a b => match b with
  | .tup xs => if (flat a && xs.all flat) = true then some (.bl (if neg then !inV (dv a) (xs.map dv) else inV (dv a) (xs.map dv))) else none
  | .lst xs => if (flat a && xs.all flat) = true then some (.bl (if neg then !inV (dv a) (xs.map dv) else inV (dv a) (xs.map dv))) else none
  | _ => none
theorem rv_in {neg : Bool} : RvD e (rIn e.K neg) (memD neg) := fun L H dx dy x y d dm rx ry h Q q => by
  unfold memD at h
  split at h
  · rename_i xs
    split at h
    · rename_i hc
      simp only [Bool.and_eq_true] at hc
      cases h
      obtain ⟨a, vs, rfl, r1, r2⟩ := ry
      have e1 := reps_flat hc.2 r2
      subst e1
      rw [rep_flat hc.1 rx]
      exact ⟨a, _, rfl, .inr (same_t fz_le r1), flatV_dv hc.1, flatV_dvs hc.2, q _ H (Same.refl H) rfl⟩
    · cases h
  · rename_i xs
    split at h
    · rename_i hc
      simp only [Bool.and_eq_true] at hc
      cases h
      obtain ⟨a, vs, rfl, r1, r2⟩ := ry
      have e1 := reps_flat hc.2 r2
      subst e1
      rw [rep_flat hc.1 rx]
      exact ⟨a, _, rfl, .inl (fz_le.seq r1), flatV_dv hc.1, flatV_dvs hc.2, q _ H (Same.refl H) rfl⟩
    · cases h
  · cases h
/-! ### == at any depth -/
mutual
def py : D → PyData
  | .non => .none | .bl b => .bool b | .int i => .int i | .str s => .str s
  | .tup xs => .tuple (pys xs) | .lst xs => .list (pys xs)
  | .ins _ _ => .none | .ty _ => .none | .cls _ => .none | .dic _ => .none
def pys : List D → List PyData
  | [] => [] | d :: ds => py d :: pys ds
end
mutual
def plainD : D → Bool
  | .non | .bl _ | .int _ => true
  | .str s => PyData.strOk s
  | .tup xs => plainDs xs | .lst xs => plainDs xs
  | _ => false
def plainDs : List D → Bool
  | [] => true | d :: ds => plainD d && plainDs ds
end
mutual
def depD : D → Nat
  | .tup xs => depDs xs + 1 | .lst xs => depDs xs + 1
  | _ => 0
def depDs : List D → Nat
  | [] => 0 | d :: ds => max (depD d) (depDs ds)
end
mutual
theorem dp_of {F : Hp} : ∀ (d : D) (v : V), plainD d = true → Rep e F d v → Dp e.K F v (py d)
  | .non, _, _, r => by cases r; exact .non
  | .bl b, _, _, r => by cases r; exact .bl b
  | .int b, _, _, r => by cases r; exact .int b
  | .str b, _, _, r => by cases r; exact .str b
  | .tup xs, _, h, ⟨a, vs, q, t, r⟩ => by subst q; exact .tup t (dps_of xs vs h r)
  | .lst xs, _, h, ⟨a, vs, q, t, r⟩ => by subst q; exact .lst t (dps_of xs vs h r)
  | .ins _ _, _, h, _ => by cases h
  | .ty _, _, h, _ => by cases h
  | .cls _, _, h, _ => by cases h
  | .dic _, _, h, _ => by cases h
theorem dps_of {F : Hp} : ∀ (ds : List D) (vs : List V), plainDs ds = true → Reps e F ds vs → DpAll e.K F vs (pys ds)
  | [], _, _, r => by cases r; exact .nil
  | d :: ds, _, h, ⟨v, w, q, r1, r2⟩ => by
    subst q
    have h' : plainD d = true ∧ plainDs ds = true := by simpa [plainDs] using h
    exact .cons (dp_of d v h'.1 r1) (dps_of ds w h'.2 r2)
end
mutual
theorem lay_of : ∀ d : D, plainD d = true → (py d).canLay0 = true
  | .non, _ => rfl
  | .bl _, _ => rfl
  | .int _, _ => rfl
  | .str s, h => h
  | .tup xs, h => lays_of xs h
  | .lst xs, h => lays_of xs h
  | .ins _ _, h => by cases h
  | .ty _, h => by cases h
  | .cls _, h => by cases h
  | .dic _, h => by cases h
theorem lays_of : ∀ ds : List D, plainDs ds = true → PyData.canLayAll0 (pys ds) = true
  | [], _ => rfl
  | d :: ds, h => by
    have h' : plainD d = true ∧ plainDs ds = true := by simpa [plainDs] using h
    show ((py d).canLay0 && PyData.canLayAll0 (pys ds)) = true
    rw [lay_of d h'.1, lays_of ds h'.2]; rfl
end
mutual
theorem dep_py : ∀ d : D, (py d).depth ≤ depD d
  | .non => Nat.le_refl _
  | .bl _ => Nat.le_refl _
  | .int _ => Nat.le_refl _
  | .str s => Nat.le_refl _
  | .tup xs => by show PyData.depth (.tuple (pys xs)) ≤ depDs xs + 1; have := deps_py xs; simp only [PyData.depth]; omega
  | .lst xs => by show PyData.depth (.list (pys xs)) ≤ depDs xs + 1; have := deps_py xs; simp only [PyData.depth]; omega
  | .ins _ _ => Nat.le_refl _
  | .ty _ => Nat.le_refl _
  | .cls _ => Nat.le_refl _
  | .dic _ => Nat.le_refl _
theorem deps_py : ∀ ds : List D, PyData.depthAll (pys ds) ≤ depDs ds
  | [] => Nat.le_refl _
  | d :: ds => by
    have h1 := dep_py d
    have h2 := deps_py ds
    show PyData.depthAll (py d :: pys ds) ≤ max (depD d) (depDs ds)
    simp only [PyData.depthAll]
    omega
end
def eqOk (a b : D) : Bool := plainD a && plainD b && decide (min (depD a) (depD b) ≤ 190)
def eqv (a b : D) : Bool := PyData.eqv (py a) (py b)
def rEqQ (K : PySem.W.Frag) : R2 := fun x y H Q => ∃ d e, Dp K H x d ∧ Dp K H y e ∧ d.canLay0 = true ∧ e.canLay0 = true ∧ min d.depth e.depth ≤ 190 ∧ Q (.bl (PyData.eqv d e)) H
def rNeQ (K : PySem.W.Frag) : R2 := fun x y H Q => ∃ d e, Dp K H x d ∧ Dp K H y e ∧ d.canLay0 = true ∧ e.canLay0 = true ∧ min d.depth e.depth ≤ 190 ∧ Q (.bl (!PyData.eqv d e)) H
theorem op_eqQ {X : Cx} (hu : X.A.units + 200 < cLine) : OpR X (compareOp .Eq) (rEqQ X.K) := by
  intro pins s σ H x y v u Q I rx ry h
  obtain ⟨d, e, hd, he, sd, se, hm, q⟩ := h
  obtain ⟨as, r1⟩ := Dp.reads I d x v hd rx
  obtain ⟨bs, r2⟩ := Dp.reads I e y u he ry
  exact SeqAt.compareEq_reads r1 r2 sd se (by omega) ⟨.bl _, H, I, rfl, q⟩
theorem op_neQ {X : Cx} (hu : X.A.units + 200 < cLine) : OpR X (compareOp .NotEq) (rNeQ X.K) := by
  intro pins s σ H x y v u Q I rx ry h
  obtain ⟨d, e, hd, he, sd, se, hm, q⟩ := h
  obtain ⟨as, r1⟩ := Dp.reads I d x v hd rx
  obtain ⟨bs, r2⟩ := Dp.reads I e y u he ry
  exact SeqAt.compareNe_reads r1 r2 sd se (by omega) ⟨.bl _, H, I, rfl, q⟩
theorem units_of {k : Nat} {A : Around} (hr : Room k A) : A.units + 200 < cLine := by have := hr.un; omega
theorem dp_up {K : PySem.W.Frag} {F H : Hp} (h : Same F H) : ∀ {v : V} {d : PyData}, Dp K F v d → Dp K H v d := by
  intro v d r
  exact Dp.rec (motive_1 := fun v d _ => Dp K H v d) (motive_2 := fun vs ds _ => DpAll K H vs ds) .non .bl .int .str (fun s _ ih => .lst (h.seq s) ih) (fun s _ ih => .tup (same_t h s) ih) .nil (fun _ _ a b => .cons a b) r
def fEqQ : D → D → Option D := fun a b => if eqOk a b = true then some (.bl (eqv a b)) else none
def fNeQ : D → D → Option D := fun a b => if eqOk a b = true then some (.bl (!eqv a b)) else none
theorem rv_eqQ : RvD e (rEqQ e.K) fEqQ := fun L H dx dy x y d dm rx ry h Q q => by
  unfold fEqQ at h
  split at h
  · rename_i hc
    cases h
    unfold eqOk at hc
    simp only [Bool.and_eq_true, decide_eq_true_eq] at hc
    have h1 := dep_py dx
    have h2 := dep_py dy
    exact ⟨py dx, py dy, dp_up fz_le (dp_of dx x hc.1.1 rx), dp_up fz_le (dp_of dy y hc.1.2 ry), lay_of _ hc.1.1, lay_of _ hc.1.2, by omega, q _ H (Same.refl H) rfl⟩
  · cases h
theorem rv_neQ : RvD e (rNeQ e.K) fNeQ := fun L H dx dy x y d dm rx ry h Q q => by
  unfold fNeQ at h
  split at h
  · rename_i hc
    cases h
    unfold eqOk at hc
    simp only [Bool.and_eq_true, decide_eq_true_eq] at hc
    have h1 := dep_py dx
    have h2 := dep_py dy
    exact ⟨py dx, py dy, dp_up fz_le (dp_of dx x hc.1.1 rx), dp_up fz_le (dp_of dy y hc.1.2 ry), lay_of _ hc.1.1, lay_of _ hc.1.2, by omega, q _ H (Same.refl H) rfl⟩
  · cases h
/-! ### isinstance of built-in types -/
def tyName : D → Option String
  | .non => some "NoneType" | .bl _ => some "bool" | .int _ => some "int" | .str _ => some "str" | .lst _ => some "list" | .tup _ => some "tuple"
  | _ => none
def fIsi : List D → Option D := fun ds => match ds with | [d, .ty n] => bnd (tyName d) fun m => (kitB m n).map .bl | _ => none
theorem ty_of {L : List Addr} {H : Hp} {d : D} {v : V} {m : String} (h : tyName d = some m) (r : Rep e (fz L H) d v) : TyX e.K H v (.type m) := by
  cases d with
  | non => cases h; cases r; exact .base .non
  | bl b => cases h; cases r; exact .base (.bl b)
  | int b => cases h; cases r; exact .base (.int b)
  | str b => cases h; cases r; exact .base (.str b)
  | ins _ _ => cases h
  | ty _ => cases h
  | cls _ => cases h
  | dic _ => cases h
  | tup xs =>
    cases h
    obtain ⟨a, vs, rfl, t, _⟩ := r
    rcases t with (t | ⟨o, t⟩) | ⟨o, its, n, k, c, _⟩
    · exact .base (.tup (fz_le _ _ t))
    · exact .fTuple (fz_le _ _ t)
    · exact .kTuple k c
  | lst xs =>
    cases h
    obtain ⟨a, vs, rfl, t, _⟩ := r
    rcases t with (t | ⟨o, t⟩) | ⟨o, its, n, k, c, _⟩
    · exact .base (.lst (fz_le _ _ t))
    · exact .base (.frz (fz_le _ _ t))
    · exact .kList k c
theorem rc_isi : RcD e (rIsi e.K) fIsi := fun L H ds vs d dm r q Q k => by
  unfold fIsi at q
  split at q
  · rename_i d' n
    obtain ⟨m, hm, q⟩ := bnd_some q
    cases hb : kitB m n with
    | none => rw [hb] at q; cases q
    | some b =>
      rw [hb] at q
      cases q
      obtain ⟨v, _, rfl, r1, v2, _, rfl, r2, r3⟩ := r
      cases r2; cases r3
      exact ⟨v, .ty n, .type m, .type n, b, rfl, .ty n, ty_of hm r1, kit_ty hb, k _ H (Same.refl H) rfl⟩
  · cases q
theorem ev_ty {n : String} : Evp e (tC (.ty n)) (xC (.ty n)) := ev_c fun _ => rfl
/-! ### + of lists, tuples, texts -/
def rCatQ (K : PySem.W.Frag) : R2 := fun x y H Q => ∃ l b xs zs, x = .ref l ∧ y = .ref b ∧ SqL K H l xs ∧ SqL K H b zs ∧ xs.length + zs.length ≤ sizeLine ∧ ∀ p, H p = none → Q (.ref p) (upd H p (.lst (xs ++ zs)))
theorem op_catQ {X : Cx} : OpR X (binaryOp .Add) (rCatQ X.K) := by
  intro pins s σ H x y v u Q I rx ry h
  obtain ⟨l, b, xs, zs, rfl, rfl, hH, hB, hz, q⟩ := h
  cases rx
  cases ry
  obtain ⟨its, r, p1, hz1⟩ := I.list hH
  obtain ⟨its2, r2, p2, hz2⟩ := I.list hB
  obtain ⟨⟨cls, dd, data, sl⟩, n, e1, c1, d1, f1⟩ := p1
  obtain ⟨⟨cls2, dd2, data2, sl2⟩, n2, e2, c2, d2, f2⟩ := p2
  simp only at c1 f1 c2 f2
  subst c1 f1 c2 f2
  have hl := r.length
  have hl2 := r2.length
  have ea : its.toArray ++ its2.toArray = (its ++ its2).toArray := by simp
  refine concat_meets ⟨_, e1, rfl⟩ ⟨_, e2, rfl⟩ noFill_list_add seq_list_add PySem.F.slot_list_add PySem.F.entry_list_add (PySem.F.args_list_add_2 _ _) (list_addW l b its.toArray its2.toArray n n2 dd dd2 sl sl2 (by simp; omega)) ⟨e1, e2, ?_⟩
  rw [ea]
  exact ⟨.ref _, _, I.lnew (t' := s.toks) (r.append r2) (by rw [List.length_append]; omega), rfl, q _ I.fresh⟩

def xCat (sq sq2 : State → Option (List D)) : State → Option (List D) := fun α => bnd (sq α) fun xs => bnd (sq2 α) fun ys => lenOk (xs ++ ys)
theorem el_cat (ha : EvqL e ta sq) (hb : EvqL e tb sq2) : Evl e (tOp (rCatQ e.K) ta tb) (xCat sq sq2) := fun c L S σ H α d R q Q k => by
  obtain ⟨xs, h1, q⟩ := bnd_some q
  obtain ⟨ys, h2, q⟩ := bnd_some q
  obtain ⟨rfl, hz⟩ := lenOk_some q
  refine ha c L S σ H α xs R h1 _ fun a vs H1 e1 r1 r2 => ?_
  refine hb c L S σ H1 α ys (R.up e1) h2 _ fun b us H2 e2 r3 r4 => ?_
  rw [List.length_append] at hz
  refine ⟨a, b, vs, us, rfl, rfl, e2.seq r1, r3, by rw [r2.len, r4.len]; exact sz_of hz, fun p hp => ?_⟩
  have s3 : Same H2 (upd H2 p (.lst (vs ++ us))) := same_upd hp
  exact k p _ _ (e1.trans (e2.trans s3)) (none_back (e1.trans e2) hp) upd_same (((r2.up (fz_same e2)).append r4).up (fz_cons s3 hp))
def xCatT (sq sq2 : State → Option (List D)) : State → Option D := fun α => bnd (sq α) fun xs => bnd (sq2 α) fun ys => if (xs ++ ys).length ≤ 100000 then some (.tup (xs ++ ys)) else none
theorem ev_catT (ha : EvqT e ta sq) (hb : EvqT e tb sq2) : Evp e (tOp (rCatA e.K) ta tb) (xCatT sq sq2) := fun c L S σ H α d R q Q k => by
  obtain ⟨xs, h1, q⟩ := bnd_some q
  obtain ⟨ys, h2, q⟩ := bnd_some q
  split at q
  · rename_i hz
    cases q
    refine ha c L S σ H α xs R h1 _ fun a vs H1 e1 r1 r2 => ?_
    refine hb c L S σ H1 α ys (R.up e1) h2 _ fun b us H2 e2 r3 r4 => ?_
    rw [List.length_append] at hz
    have r12 := r1
    have q1 : SqT e.K (fz L H2) a vs := same_t (fz_same e2) r1
    have rr := (r2.up (fz_same e2)).append r4
    refine ⟨a, b, vs, us, rfl, rfl, same_t fz_le q1, same_t fz_le r3, by rw [r2.len, r4.len]; exact sz_of hz, fun z => ?_, fun _ z => ?_, fun _ _ p hp => ?_⟩
    · refine k _ H2 (e1.trans e2) ⟨b, vs ++ us, rfl, ?_, rr⟩
      rw [z]; exact r3
    · refine k _ H2 (e1.trans e2) ⟨a, vs ++ us, rfl, ?_, rr⟩
      rw [z, List.append_nil]; exact q1
    · have s3 : Same H2 (upd H2 p (.tup (vs ++ us))) := same_upd hp
      exact k _ _ (e1.trans (e2.trans s3)) ⟨p, vs ++ us, rfl, .inl (.inl (fz_new (fresh_nL (dom_up (e1.trans e2) R.dom) hp) upd_same)), rr.up (fz_same s3)⟩
  · cases q
def xSlA (sq : State → Option (List D)) (sl sh : State → Option (Option Int)) : State → Option D := fun α => bnd (sq α) fun xs => bnd (sl α) fun lo => bnd (sh α) fun hi => some (.tup (cutD xs lo hi))
theorem cut_whole {β : Type} {xs : List β} {lo hi : Option Int} (h : HT.sIx xs.length 0 lo = 0 ∧ HT.sIx xs.length xs.length hi = xs.length) : (xs.drop (HT.sIx xs.length 0 lo)).take (HT.sIx xs.length xs.length hi - HT.sIx xs.length 0 lo) = xs := by
  rw [h.1, h.2]; simp
variable {tl th : TO} {sl sh : State → Option (Option Int)}
theorem ev_slA (h : EvqT e te sq) (hl : Evo e tl sl) (hh : Evo e th sh) : Evp e (tSl (rSlA e.K) te tl th) (xSlA sq sl sh) := fun c L S σ H α d R q Q k => by
  obtain ⟨xs, h1, q⟩ := bnd_some q
  obtain ⟨lo, h2, q⟩ := bnd_some q
  obtain ⟨hi, h3, q⟩ := bnd_some q
  cases q
  refine h c L S σ H α xs R h1 _ fun a vs H1 e1 r1 r2 => ?_
  refine hl c L S σ H1 α lo (R.up e1) h2 _ fun H2 e2 => ?_
  refine hh c L S σ H2 α hi (R.up (e1.trans e2)) h3 _ fun H3 e3 => ?_
  have q1 : SqT e.K (fz L H3) a vs := same_t (fz_same (e2.trans e3)) r1
  have rr := r2.up (fz_same (e2.trans e3))
  refine ⟨a, vs, rfl, same_t fz_le q1, fun hw => ?_, fun hw p hp => ?_⟩
  · refine k _ H3 (e1.trans (e2.trans e3)) ⟨a, cutV vs lo hi, rfl, ?_, cut_rep rr⟩
    unfold cutV
    rw [cut_whole hw]
    exact q1
  · have s4 : Same H3 (upd H3 p (.tup (cutV vs lo hi))) := same_upd hp
    exact k _ _ ((e1.trans (e2.trans e3)).trans s4) ⟨p, _, rfl, .inl (.inl (fz_new (fresh_nL (dom_up (e1.trans (e2.trans e3)) R.dom) hp) upd_same)), cut_rep (rr.up (fz_same s4))⟩
/-! ### texts -/
def fCatS : D → D → Option D := fun a b => match a, b with | .str i, .str j => if i.length + j.length ≤ 100000 then some (.str (i ++ j)) else none | _, _ => none
theorem rv_catS : RvD e (fun x y H Q => ∃ i j, x = .str i ∧ y = .str j ∧ i.length + j.length ≤ sizeLine ∧ Q (.str (i ++ j)) H) fCatS := fun L H dx dy x y d dm rx ry h Q q => by
  unfold fCatS at h
  split at h
  · split at h
    · cases h; cases rx; cases ry
      exact ⟨_, _, rfl, rfl, sz_of (by assumption), q _ H (Same.refl H) rfl⟩
    · cases h
  · cases h
def fIxS : D → D → Option D := fun a b => match a, b with | .str z, .int i => if z.length ≤ 100000 then (atI z.cps.toList i).map fun c => .str ⟨#[c]⟩ else none | _, _ => none
theorem rv_ixS : RvD e rIxS fIxS := fun L H dx dy x y d dm rx ry h Q q => by
  unfold fIxS at h
  split at h
  · rename_i z i
    split at h
    · cases hx : atI z.cps.toList i with
      | none => rw [hx] at h; cases h
      | some c =>
        rw [hx] at h
        cases h; cases rx; cases ry
        exact ⟨z, i, c, rfl, rfl, sz_of (by assumption), hx, q _ H (Same.refl H) rfl⟩
    · cases h
  · cases h
/-! ### chains of two comparisons; least and greatest of two -/
def xChain (f g : D → D → Option D) (sa sb sc : State → Option D) : State → Option D := fun α => bnd (sa α) fun a => bnd (sb α) fun b => match f a b with
  | some (.bl true) => (bnd (sc α) fun c => match g b c with | some (.bl k) => some (.bl k) | _ => none) | some (.bl false) => some (.bl false) | _ => none
theorem ev_chain {tc : TE} {sa sb sc : State → Option D} {r r' : R2} {f g : D → D → Option D} (hr : RvD e r f) (hr' : RvD e r' g) (ha : Evp e ta sa) (hb : Evp e tb sb) (hc : Evp e tc sc) : Evp e (tChain r r' ta tb tc) (xChain f g sa sb sc) := fun c L S σ H α d R q Q k => by
  obtain ⟨a, h1, q⟩ := bnd_some q
  obtain ⟨b, h2, q⟩ := bnd_some q
  refine ha c L S σ H α a R h1 _ fun v H1 e1 r1 => ?_
  refine hb c L S σ H1 α b (R.up e1) h2 _ fun u H2 e2 r2 => ?_
  have e12 := e1.trans e2
  split at q
  · rename_i hf
    refine hr L H2 a b v u _ (dom_up e12 R.dom) (r1.up (fz_same e2)) r2 hf _ fun z H3 e3 r3 => ?_
    cases r3
    refine ⟨true, rfl, ?_⟩
    obtain ⟨c', h3, q⟩ := bnd_some q
    split at q
    · rename_i kk hg
      cases q
      show tc σ H3 _
      refine hc c L S σ H3 α c' (R.up (e12.trans e3)) h3 _ fun w H4 e4 r4 => ?_
      exact hr' L H4 b c' u w _ (dom_up (e12.trans (e3.trans e4)) R.dom) (r2.up (fz_same (e3.trans e4))) r4 hg _ fun z5 H5 e5 r5 => by
        exact k z5 H5 ((e12.trans (e3.trans e4)).trans e5) r5
    · cases q
  · rename_i hf
    cases q
    refine hr L H2 a b v u _ (dom_up e12 R.dom) (r1.up (fz_same e2)) r2 hf _ fun z H3 e3 r3 => ?_
    cases r3
    refine ⟨false, rfl, ?_⟩
    exact k _ H3 (e12.trans e3) rfl
  · cases q
def fMax2 : List D → Option D := fun ds => match ds with | [.int i, .int j] => some (.int (if j > i then j else i)) | _ => none
theorem rc_max2 : RcD e (fun xs H Q => ∃ i j, xs = [.int i, .int j] ∧ Q (.int (if j > i then j else i)) H) fMax2 := fun L H ds vs d dm r q Q k => by
  unfold fMax2 at q
  split at q
  · cases q
    obtain ⟨v, _, rfl, r1, v2, _, rfl, r2, r3⟩ := r
    cases r1; cases r2; cases r3
    exact ⟨_, _, rfl, k _ H (Same.refl H) rfl⟩
  · cases q
def fMin2 : List D → Option D := fun ds => match ds with | [.int i, .int j] => some (.int (if j < i then j else i)) | _ => none
theorem rc_min2 : RcD e (fun xs H Q => ∃ i j, xs = [.int i, .int j] ∧ Q (.int (if j < i then j else i)) H) fMin2 := fun L H ds vs d dm r q Q k => by
  unfold fMin2 at q
  split at q
  · cases q
    obtain ⟨v, _, rfl, r1, v2, _, rfl, r2, r3⟩ := r
    cases r1; cases r2; cases r3
    exact ⟨_, _, rfl, k _ H (Same.refl H) rfl⟩
  · cases q
/-! ### tuple(reversed(list)); enumerate(list) -/
def xTupRev (sq : State → Option (List D)) : State → Option D := fun α => match sq α with | some xs => some (.tup xs.reverse) | none => none
theorem ev_tupRev (h : EvqL e te sq) : Evp e (RT.tTupRev e.K te) (xTupRev sq) := fun c L S σ H α d R q Q k => by
  unfold xTupRev at q
  cases hs : sq α with
  | none => rw [hs] at q; cases q
  | some xs =>
    rw [hs] at q; cases q
    refine h c L S σ H α xs R hs _ fun a vs H' e1 r1 r2 => ⟨a, vs, rfl, r1, fun l hl => ?_⟩
    have s4 : Same H' (upd H' l (.tup vs.reverse)) := same_upd hl
    exact k _ _ (e1.trans s4) ⟨l, _, rfl, .inl (.inl (fz_new (fresh_nL (dom_up e1 R.dom) hl) upd_same)), (r2.up (fz_same s4)).rev⟩
def enumL (n : Int) : List D → List D
  | [] => [] | d :: ds => .tup [.int n, d] :: enumL (n + 1) ds
theorem enumL_len : ∀ (xs : List D) (n : Int), (enumL n xs).length = xs.length
  | [], _ => rfl
  | d :: ds, n => by simp [enumL, enumL_len ds]
theorem enumL_get : ∀ (xs : List D) (n : Int) (i : Nat) (y : D), (enumL n xs)[i]? = some y → ∃ d, xs[i]? = some d ∧ y = .tup [.int (n + i), d]
  | [], _, _, _, h => by simp [enumL] at h
  | d :: ds, n, 0, y, h => by simp [enumL] at h; exact ⟨d, rfl, by rw [← h]; simp⟩
  | d :: ds, n, i + 1, y, h => by
    obtain ⟨d', h1, h2⟩ := enumL_get ds (n + 1) i y (by simpa [enumL] using h)
    exact ⟨d', by simpa using h1, by rw [h2]; congr 3; omega⟩
def xEnum (s : State → Option D) : State → Option (List D) := fun α => match s α with | some (.lst xs) => some (enumL 0 xs) | _ => none
theorem ei_enum {s : State → Option D} (h : Evp e te s) : Evi e (iEnum e.K (tCons te tNil)) (xEnum s) := fun c L S σ H α xs R q W k => by
  unfold xEnum at q
  split at q
  · rename_i ys hs
    cases q
    refine h c L S σ H α _ R hs _ fun v H' e1 ⟨a, vs, e2, r1, r2⟩ => ?_
    subst e2
    refine ⟨a, vs, rfl, fz_le.seq r1, k _ H' e1 fun L2 H2 s2 dm i => ?_⟩
    have t2 : SqL e.K H2 a vs := fz_le.seq (s2.seq r1)
    rw [enumL_len]
    refine ⟨fun hi => ⟨vs, vs[i]'(by rw [r2.len]; exact hi), t2, List.getElem?_eq_getElem _⟩, fun hi => ⟨vs, t2, by rw [r2.len]; exact hi⟩, fun x v H3 hx ⟨T, y, e3, n, e4, yy⟩ => ?_⟩
    subst e3 e4
    obtain ⟨d, h1, h2⟩ := enumL_get _ _ _ _ hx
    obtain ⟨v', h3, h4⟩ := r2.get h1
    have h5 := yy vs t2
    have h6 : v' = y := Option.some.inj (h3.symm.trans h5)
    subst h6
    have s3 : Same H2 (upd H2 T (.tup [.int (i : Nat), v'])) := same_upd n
    refine ⟨s3, ?_⟩
    subst h2
    refine ⟨T, _, rfl, .inl (.inl (fz_new (fresh_nL dm n) upd_same)), Reps.cons ?_ (Reps.cons (h4.up (s2.trans (fz_same s3))) Reps.nil)⟩
    show V.int _ = V.int _
    rw [Int.zero_add]
  · cases q
end
end Ab
end
section
set_option maxRecDepth 100000
set_option maxHeartbeats 1000000
namespace Ab
open PySem L2 PyProof.Rows PySem.Spec
/-- a def of the top, with its promise -/
structure Cal (P : Program) (w : World) (K : PySem.W.Frag) (mg : Str → Option Value) (base : Heap) (x : Str) (ps : List Str) (k : Nat) (sp : Sp) : Prop where
  ex : ∃ f fd, FnOk P w K mg base CX0 k f fd ps sp ∧ mg x = some (.ref f) ∧ PySem.W.keepIn K (.ref f) = true ∧ Binds K fd ps []
section
variable {X : Cx} {x : Str} {ps : List Str} {k j : Nat} {sp : Sp} {p pos : Pos} {e : Expr} {es : List Expr} {t : TA}
theorem pe_cal (C : Cal X.prog X.w X.K X.mg X.base x ps k sp) (hr : Room j X.A) (hkj : k ≤ j) (hg : Gl X x) (ha : PA X (e :: es) t) (hdb : (x == ("__debug__" : Str)) = false := by decide) (he : starEach (e :: es) X.env = (false, eval e X.env) :: starEach es X.env := by rfl) (hpl : (backTo pos (starEach es X.env)).any (·.1) = false := by rfl) :
    PE X (.Call (.Name x p) (e :: es) [] pos) (tCall sp [] E0 t) := by
  obtain ⟨f, fd, G, hm, hk, hb⟩ := C.ex
  exact pe_call G (hr.mono hkj) hg hm hk hb .nil pass0 ha hdb he hpl
theorem pe_cal0 (C : Cal X.prog X.w X.K X.mg X.base x ps k sp) (hr : Room j X.A) (hkj : k ≤ j) (hg : Gl X x) (hdb : (x == ("__debug__" : Str)) = false := by decide) : PE X (.Call (.Name x p) [] [] pos) (tCall sp [] E0 tNil) := by
  obtain ⟨f, fd, G, hm, hk, hb⟩ := C.ex
  exact pe_call0 G (hr.mono hkj) hg hm hk hb .nil pass0 hdb
end
section
variable {P : Program} {w : World} {K : PySem.W.Frag} {mg : Str → Option Value} {base : Heap} {x : Str} {ps : List Str} {k j : Nat} {sp : Sp}
theorem Cal.mono (C : Cal P w K mg base x ps k sp) (h : k ≤ j) : Cal P w K mg base x ps j sp := by
  obtain ⟨f, fd, G, r⟩ := C.ex
  exact ⟨f, fd, G.mono h, r⟩
theorem Cal.vacuous {f : Addr} {fd : FuncData} (hm : mg x = some (.ref f)) (hk : PySem.W.keepIn K (.ref f) = true) (hb : Binds K fd ps []) (no : ∀ vs H Q E, ¬ sp vs H Q E) : Cal P w K mg base x ps k sp :=
  ⟨f, fd, ⟨fun vs H Q E h => absurd h (no vs H Q E), fun A outer s H args us vs Q E _ _ _ _ h => absurd h (no vs H Q E)⟩, hm, hk, hb⟩
end
theorem no_P {e : En} {m : List D → Option D} (h : ∀ ds, m ds = none) : ∀ vs H Q E, ¬ spP e m vs H Q E := fun vs H Q E ⟨L, ds, d, _, _, hm, _⟩ => by rw [h] at hm; cases hm
theorem no_L {e : En} {m : List D → Option (List D)} (h : ∀ ds, m ds = none) : ∀ vs H Q E, ¬ spL e m vs H Q E := fun vs H Q E ⟨L, ds, d, _, _, hm, _⟩ => by rw [h] at hm; cases hm
/-- a law's end -/
def spLaw (K : PySem.W.Frag) : Sp := fun vs H Q _ => ∃ (a : Addr) (ns : List Int), vs = [.ref a] ∧ SqL K H a (ns.map V.int) ∧ ns.length ≤ 63 ∧ ∀ H', Q (.bl true) H'
theorem reps_ints {e : En} {F : Hp} : ∀ ns : List Int, Reps e F (ns.map D.int) (ns.map V.int)
  | [] => Reps.nil
  | a :: r => Reps.cons rfl (reps_ints r)
theorem law_of {P : Program} {w : World} {K : PySem.W.Frag} {mg : Str → Option Value} {base : Heap} {cls : String → Addr} {k : Nat} {f : Addr} {fd : FuncData} {ps : List Str} {m : List D → Option D} (F : FnOk P w K mg base CX0 k f fd ps (spP ⟨K, cls⟩ m))
    (h : ∀ ns : List Int, ns.length ≤ 63 → m [.lst (ns.map .int)] = some (.bl true)) : FnOk P w K mg base CX0 k f fd ps (spLaw K) :=
  F.imp fun vs H Q E ⟨a, ns, hv, hS, hl, q⟩ => by
    subst hv
    refine ⟨[], [.lst (ns.map .int)], .bl true, (fun _ z => nomatch z), Reps.cons ⟨a, ns.map V.int, rfl, ?_, reps_ints ns⟩ Reps.nil, h ns hl, fun v H' _ r => by cases r; exact q H'⟩
    have : fz [] H = H := by funext a; rfl
    rw [this]; exact hS
theorem runP_dat {n k : Nat} {s : State → Out} {ds : List D} {d : D} {β : State} (hk : ds.length = k) (h : s (inP n k ds) = .ret (.dat d) β) : runP n k s ds = some d := by
  unfold runP; rw [if_pos hk, h]
theorem runP_lst {n k : Nat} {s : State → Out} {ds : List D} {d : List D} {β : State} (hk : ds.length = k) (h : s (inP n k ds) = .ret (.lst d) β) : runP n k s ds = some (.lst d) := by
  unfold runP; rw [if_pos hk, h]
theorem runL_lst {n k : Nat} {s : State → Out} {ds : List D} {d : List D} {β : State} (hk : ds.length = k) (h : s (inP n k ds) = .ret (.lst d) β) : runL n k s ds = some d := by
  unfold runL; rw [if_pos hk, h]
end Ab
end
section
set_option maxRecDepth 100000
set_option maxHeartbeats 1000000
namespace Ab
open PySem L2 PyProof.Rows PySem.Spec
section
variable {e : En} {E : XK} {te ta tb : TE} {ts tu tw : TS} {t : TT}
def backA : List A → State → Option (List A)
  | [], _ => some []
  | .dat d :: r, _ :: β => (backA r β).map (.dat d :: ·)
  | .inn _ :: r, some (.inn ct) :: β => (backA r β).map (.inn ct :: ·)
  | _, _ => none
def inM (n k : Nat) (as : List A) : State := as.map some ++ List.replicate (n - k) none
def runM (n k : Nat) (s : State → Out) : List A → MRes := fun as => if as.length = k then (match s (inM n k as) with
  | .ret r β => (match backA as β with | some as' => .ok r as' | none => .bad)
  | .nxt β => (match backA as β with | some as' => .ok (.dat .non) as' | none => .bad)
  | .exc x => .exc x
  | _ => .bad) else .bad
theorem AsRep.len {L S : List Addr} {H : Hp} : ∀ {as : List A} {vs : List V}, AsRep e L S H as vs → vs.length = as.length
  | [], _, r => by cases r; rfl
  | a :: as, _, ⟨v, w, q, _, r⟩ => by subst q; simp [AsRep.len r]
theorem AsRep.get {L S : List Addr} {H : Hp} : ∀ {as : List A} {vs : List V} {i : Nat} {a : A}, AsRep e L S H as vs → as[i]? = some a → ∃ v, vs[i]? = some v ∧ (match a with
    | .dat d => Rep e (fz L H) d v
    | .inn ct => ∃ p o, v = .ref p ∧ p ∈ S ∧ H p = some o ∧ RepC e (fz L H) ct o
    | .own _ => False
    | .adr _ => False)
  | [], _, _, _, _, h => by simp at h
  | a :: as, _, 0, _, ⟨v, w, q, r1, _⟩, h => by subst q; simp at h; subst h; exact ⟨v, rfl, r1⟩
  | a :: as, _, i + 1, _, ⟨v, w, q, _, r⟩, h => by subst q; obtain ⟨v', h1, h2⟩ := AsRep.get (i := i) r (by simpa using h); exact ⟨v', by simpa using h1, h2⟩
theorem innCount_sep : ∀ {as : List A} {i j : Nat} {c d : Ct}, innCount as ≤ 1 → as[i]? = some (.inn c) → as[j]? = some (.inn d) → i = j := by
  have pos : ∀ {as : List A} {i : Nat} {c : Ct}, as[i]? = some (.inn c) → 1 ≤ innCount as := by
    intro as
    induction as with
    | nil => intro i c h; simp at h
    | cons a r ih =>
      intro i c h
      cases i with
      | zero => simp at h; subst h; simp [innCount]
      | succ i =>
        have := ih (i := i) (c := c) (by simpa using h)
        cases a <;> simp [innCount] <;> omega
  intro as
  induction as with
  | nil => intro i j c d _ h; simp at h
  | cons a r ih =>
    intro i j c d hc hi hj
    cases i with
    | zero =>
      cases j with
      | zero => rfl
      | succ j =>
        simp at hi; subst hi
        have := pos (i := j) (c := d) (as := r) (by simpa using hj)
        simp [innCount] at hc; omega
    | succ i =>
      cases j with
      | zero =>
        simp at hj; subst hj
        have := pos (i := i) (c := c) (as := r) (by simpa using hi)
        simp [innCount] at hc; omega
      | succ j =>
        have h2 : innCount r ≤ 1 := by cases a <;> simp [innCount] at hc <;> omega
        have := ih (i := i) (j := j) (c := c) (d := d) h2 (by simpa using hi) (by simpa using hj)
        omega
theorem inM_get {n k : Nat} {as : List A} {i : Nat} {a : A} (h : (inM n k as)[i]? = some (some a)) : as[i]? = some a := by
  unfold inM at h
  by_cases hi : i < as.length
  · rw [List.getElem?_append_left (by simpa using hi), List.getElem?_map, List.getElem?_eq_getElem hi] at h
    rw [List.getElem?_eq_getElem hi]
    have this : as[i]'hi = a := by simpa using h
    exact congrArg some this
  · rw [List.getElem?_append_right (by simp; omega), List.getElem?_replicate] at h
    split at h <;> cases h
theorem inM_rel {L S : List Addr} {H : Hp} {as : List A} {vs : List V} {N : List Str} (dm : Dom L H) (sub : ∀ p ∈ S, p ∈ L) (hc : innCount as ≤ 1) (r : AsRep e L S H as vs) (hk : vs.length ≤ N.length) :
    Rel e ⟨L, S, H, L2.start N vs⟩ L S (L2.start N vs) H (inM N.length vs.length as) where
  slot := fun i a q => by
    have ha := inM_get q
    obtain ⟨v, h1, h2⟩ := r.get ha
    have h3 : (L2.start N vs)[i]? = some (some v) := by
      unfold L2.start
      have : i < vs.length := (List.getElem?_eq_some_iff.mp h1).1
      rw [List.getElem?_append_left (by simp; exact this), List.getElem?_map, h1]; rfl
    refine ⟨v, h3, ?_⟩
    cases a with
    | dat d => exact h2
    | adr _ => exact h2.elim
    | inn ct => obtain ⟨p, o, q1, m, ho, rc⟩ := h2; exact ⟨p, o, q1, m, h3, ho, rc⟩
    | own ct => exact h2.elim
  sep := fun i j p hi hj _ _ => by
    have un : ∀ i : Nat, isOwn (inM N.length vs.length as)[i]? = true → ∃ c : Ct, as[i]? = some (A.inn c) := fun i hi => by
      cases hx : (inM N.length vs.length as)[i]? with
      | none => rw [hx] at hi; simp [isOwn] at hi
      | some x =>
        cases x with
        | none => rw [hx] at hi; simp [isOwn] at hi
        | some a =>
          have ha := inM_get hx
          obtain ⟨v, h1, h2⟩ := r.get ha
          cases a with
          | dat d => rw [hx] at hi; simp [isOwn] at hi
          | adr _ => rw [hx] at hi; simp [isOwn] at hi
          | inn c => exact ⟨c, ha⟩
          | own c => exact h2.elim
    obtain ⟨c, h1⟩ := un i hi
    obtain ⟨d, h2⟩ := un j hj
    exact innCount_sep hc h1 h2
  dom := dm
  sub := sub
  l0 := fun _ h => h
  l1 := fun _ h => .inl h
  s1 := fun _ h => .inl h
  md := Mod.refl
  s0 := sub
  d0 := dm
  len := by unfold L2.start inM; simp [r.len]
theorem start_get {N : List Str} {vs : List V} {i : Nat} {v : V} (h : vs[i]? = some v) : (L2.start N vs)[i]? = some (some v) := by
  unfold L2.start
  have : i < vs.length := (List.getElem?_eq_some_iff.mp h).1
  rw [List.getElem?_append_left (by simp; exact this), List.getElem?_map, h]; rfl
/-- what stands at the arguments behind the body -/
theorem back_rep {c : Cn} {L S L' S' : List Addr} {σ' : L2.St} {H H' : Hp} {β0 : State} (R : Rel e c L' S' σ' H' β0) (hL : ∀ p ∈ L, p ∈ L') (md : Mod S H H') (sub : ∀ p ∈ S, p ∈ L) :
    ∀ (as : List A) (β : State) (as' : List A) (vs : List V) (j : Nat), (∀ i, β[i]? = β0[j + i]?) → (∀ i v, vs[i]? = some v → c.σ0[j + i]? = some (some v)) → backA as β = some as' → AsRep e L S H as vs → AsRep e L S H' as' vs
  | [], _, as', vs, _, _, _, h, r => by cases h; exact r
  | .own _ :: _, _, _, _, _, _, _, h, _ => by simp [backA] at h
  | .adr _ :: _, _, _, _, _, _, _, h, _ => by simp [backA] at h
  | .dat d :: r, [], _, _, _, _, _, h, _ => by simp [backA] at h
  | .inn d :: r, [], _, _, _, _, _, h, _ => by simp [backA] at h
  | .dat d :: r, x :: β, as', vs, j, hb, hv, h, ⟨v, w, q, r1, r2⟩ => by
    unfold backA at h
    cases hr : backA r β with
    | none => rw [hr] at h; cases h
    | some as2 =>
      rw [hr] at h; cases h
      subst q
      refine ⟨v, w, rfl, Rep.up (d := d) r1 (fz_mod md sub), back_rep R hL md sub r β as2 w (j + 1) (fun i => ?_) (fun i u hu => ?_) hr r2⟩
      · have := hb (i + 1); simpa [Nat.add_assoc, Nat.add_comm 1 i] using this
      · have := hv (i + 1) u (by simpa using hu); simpa [Nat.add_assoc, Nat.add_comm 1 i] using this
  | .inn c0 :: r, x :: β, as', vs, j, hb, hv, h, ⟨v, w, q, r1, r2⟩ => by
    cases x with
    | none => simp [backA] at h
    | some a =>
      cases a with
      | dat d => simp [backA] at h
      | adr _ => simp [backA] at h
      | own ct => simp [backA] at h
      | inn ct =>
        unfold backA at h
        cases hr : backA r β with
        | none => rw [hr] at h; cases h
        | some as2 =>
          rw [hr] at h; cases h
          subst q
          obtain ⟨p, o, rfl, m, ho, rc⟩ := r1
          have h0 : β0[j]? = some (some (.inn ct)) := by have := hb 0; simpa using this.symm
          obtain ⟨v', k1, p', o', k2, m', k3, ho', rc'⟩ := R.slot j _ h0
          have k4 := hv 0 (.ref p) rfl
          rw [Nat.add_zero] at k4
          rw [k4] at k3
          cases k3
          cases k2
          refine ⟨_, w, rfl, ⟨p, o', rfl, m, ho', rc'.up (fz_anti hL)⟩, back_rep R hL md sub r β as2 w (j + 1) (fun i => ?_) (fun i u hu => ?_) hr r2⟩
          · have := hb (i + 1); simpa [Nat.add_assoc, Nat.add_comm 1 i] using this
          · have := hv (i + 1) u (by simpa using hu); simpa [Nat.add_assoc, Nat.add_comm 1 i] using this
theorem retrep_anti {L L' : List Addr} {H' H : Hp} {v : V} {c : Cn} {r : RetV} {S : List Addr} (hL : ∀ p ∈ L, p ∈ L') (h0 : c.H0 = H) (rr : RetRep e L' H' v c r) : RetRep e L H' v ⟨L, S, H, []⟩ r := by
  cases r with
  | dat d => exact Rep.up (d := d) rr (fz_anti hL)
  | lst xs =>
    obtain ⟨p, vs, q, n, hp, rs⟩ := rr
    refine ⟨p, vs, q, by rw [← h0]; exact n, hp, rs.up (fz_anti fun a m => ?_)⟩
    rcases List.mem_cons.mp m with rfl | m
    · exact List.mem_cons_self
    · exact List.mem_cons_of_mem _ (hL a m)
variable {P : Program} {w : World} {K : PySem.W.Frag} {mg : Str → Option Value} {base : Heap}
/-- the body meets the promise -/
theorem body_M {cls : String → Addr} {N : List Str} {n kk : Nat} {vs : List V} {H : Hp} {Q : VK} {E : XK} {t : TS} {s : State → Out} {m : List A → MRes} (hn : N.length = n) (hps : kk ≤ n) (hmm : m = runM n kk s) (h2 : Sts ⟨K, cls⟩ E t s) (h : spM ⟨K, cls⟩ m vs H Q E) :
    t { nx := fun _ H' => Q .non H', rt := Q } (L2.start N vs) H := by
  subst hn hmm
  obtain ⟨L, S, as, dm, sub, hc, r, hq, hx, hb⟩ := h
  have hl : as.length = kk := by
    unfold runM at hb
    split at hb
    · assumption
    · exact absurd rfl hb
  have hvl : vs.length = kk := by rw [r.len, hl]
  have R := inM_rel (N := N) dm sub hc r (by omega)
  rw [hvl] at R
  refine h2 _ _ _ _ _ _ _ R ?_
  unfold runM at hq hx hb
  simp only [if_pos hl] at hq hx hb
  cases hs : s (inM N.length kk as) with
  | nxt β =>
    rw [hs] at hq hb
    dsimp only at hq hb
    cases hba : backA as β with
    | none => rw [hba] at hb; exact absurd rfl hb
    | some as' =>
      rw [hba] at hq
      intro L' S' σ' H' _ R'
      have ar := back_rep R' R'.l0 R'.md sub as β as' vs 0 (fun i => by rw [Nat.zero_add]) (fun i v hv => by rw [Nat.zero_add]; exact start_get hv) hba r
      exact hq _ as' rfl _ H' R'.md ar rfl
  | ret rv β =>
    rw [hs] at hq hb
    dsimp only at hq hb
    cases hba : backA as β with
    | none => rw [hba] at hb; exact absurd rfl hb
    | some as' =>
      rw [hba] at hq
      intro v L' S' σ' H' R' rr
      have ar := back_rep R' R'.l0 R'.md sub as β as' vs 0 (fun i => by rw [Nat.zero_add]) (fun i v hv => by rw [Nat.zero_add]; exact start_get hv) hba r
      exact hq _ as' rfl v H' R'.md ar (retrep_anti R'.l0 rfl rr)
  | exc x =>
    rw [hs] at hx
    intro cls' dd H' md xr fr
    exact hx x rfl cls' dd H' md xr fr
  | brk β => rw [hs] at hb; exact absurd rfl hb
  | cnt β => rw [hs] at hb; exact absurd rfl hb
  | bad => rw [hs] at hb; exact absurd rfl hb
theorem spM_len {cls : String → Addr} {n kk : Nat} {vs : List V} {H : Hp} {Q : VK} {E : XK} {s : State → Out} {m : List A → MRes} (hmm : m = runM n kk s) (h : spM ⟨K, cls⟩ m vs H Q E) : vs.length = kk := by
  subst hmm
  obtain ⟨L, S, as, dm, sub, hc, r, hq, hx, hb⟩ := h
  rw [r.len]
  unfold runM at hb
  split at hb
  · assumption
  · exact absurd rfl hb
theorem spM_E {cls : String → Addr} {m : List A → MRes} {vs : List V} {H : Hp} {Q : VK} {E : XK} (hno : ∀ as x, m as ≠ .exc x) (h : spM ⟨K, cls⟩ m vs H Q E) : spM ⟨K, cls⟩ m vs H Q E0 := by
  obtain ⟨L, S, as, dm, sub, hc, r, hq, hx, hb⟩ := h
  exact ⟨L, S, as, dm, sub, hc, r, hq, fun x hm => absurd hm (hno as x), hb⟩
theorem fn_M {cls : String → Addr} {x qual : Str} {st : Stmt} {f : Addr} {fd : FuncData} {N ps : List Str} {k : Nat} (s : State → Out) (F : Fun K x qual st f fd) (S : FnScope N ps (defScope st)) {n kk : Nat} (hn : N.length = n) (hkk : ps.length = kk) (hps : kk ≤ n) {m : List A → MRes} (hmm : m = runM n kk s)
    (hbody : ∀ (cdv : Value) (A : Around) (outer : List Env) (s0 : Shared) (H : Hp) (E : XK), Room k (A.deeper (envOfC qual (defScope st) s0.heap.objs.size f cdv)) →
      ∃ t, PSs (cxOf CX0 P w K mg base N qual (defScope st) f cdv A outer s0 H E).nox (defBody st) t ∧ Sts ⟨K, cls⟩ E t s) : FnOk P w K mg base CX0 (k + 1) f fd ps (spM ⟨K, cls⟩ m) := by
  refine F.ok S (fun vs H Q E h => by rw [spM_len hmm h, hkk]) (fun cdv A outer s0 H vs Q E hr h => ?_)
  obtain ⟨t, h1, h2⟩ := hbody cdv A outer s0 H E hr
  exact ⟨t, h1, body_M hn hps hmm h2 h⟩

/-! ### a call that changes an own object -/
def toAs : List Arg → State → Option (List A)
  | [], _ => some []
  | .dat d :: r, α => (toAs r α).map (.dat d :: ·)
  | .slot i :: r, α => (match ctOf α[i]? with | some ct => (toAs r α).map (.inn ct :: ·) | none => none)
def putBack : List Arg → List A → State → State
  | .slot i :: r, .inn ct :: as, α => putBack r as (putC α i ct)
  | _ :: r, _ :: as, α => putBack r as α
  | _, _, α => α
def slots : List Arg → List Nat
  | [] => []
  | .slot i :: r => i :: slots r
  | .dat _ :: r => slots r
def rCallM (m : List A → MRes) (sr : State → Res (List Arg)) : State → Res D := fun α => match sr α with
  | .ok as α1 => (match slots as with
    | [i] => (match toAs as α1 with
      | some bs => (match m bs with
        | .ok (.dat d) bs' => (match bs'.find? (fun b => match b with | .inn _ => true | _ => false) with | some (.inn ct) => .ok d (putC α1 i ct) | _ => .bad)
        | .exc x => .exc x
        | _ => .bad)
      | none => .bad)
    | _ => .bad)
  | .exc x => .exc x
  | .bad => .bad
theorem toAs_rep {c : Cn} {L S : List Addr} {σ : L2.St} {H : Hp} {α : State} (R : Rel e c L S σ H α) {T : List Addr} : ∀ {as : List Arg} {vs : List V} {bs : List A}, (∀ i ∈ slots as, ∀ p, σ[i]? = some (some (V.ref p)) → p ∈ T) → toAs as α = some bs → ArgsRep e L σ H as vs → AsRep e L T H bs vs ∧ innCount bs = (slots as).length
  | [], _, _, _, h, r => by cases h; exact ⟨r, rfl⟩
  | .dat d :: as, _, _, ht, h, ⟨v, w, q, r1, r2⟩ => by
    unfold toAs at h
    cases hs : toAs as α with
    | none => rw [hs] at h; cases h
    | some bs =>
      rw [hs] at h; cases h; subst q
      obtain ⟨h1, h2⟩ := toAs_rep (as := as) R ht hs r2
      exact ⟨⟨v, w, rfl, r1, h1⟩, h2⟩
  | .slot i :: as, _, _, ht, h, ⟨v, w, q, r1, r2⟩ => by
    unfold toAs at h
    split at h
    · rename_i ct hct
      cases hs : toAs as α with
      | none => rw [hs] at h; cases h
      | some bs =>
        rw [hs] at h; cases h; subst q
        obtain ⟨h1, h2⟩ := toAs_rep (as := as) R (fun j hj => ht j (List.mem_cons_of_mem _ hj)) hs r2
        obtain ⟨p, o, k1, m, ho, rc⟩ := R.at hct
        have k2 : σ[i]? = some (some v) := r1
        rw [k1] at k2; cases k2
        exact ⟨⟨_, w, rfl, ⟨p, o, rfl, ht i List.mem_cons_self p k1, ho, rc⟩, h1⟩, by simp [innCount, slots, h2]⟩
    · cases h
theorem find_inn {L S : List Addr} {H : Hp} : ∀ {bs : List A} {vs : List V} {ct : Ct}, AsRep e L S H bs vs → bs.find? (fun b => match b with | .inn _ => true | _ => false) = some (.inn ct) → ∃ p o, p ∈ S ∧ H p = some o ∧ RepC e (fz L H) ct o
  | [], _, _, _, h => by cases h
  | .dat d :: bs, _, _, ⟨v, w, q, r1, r2⟩, h => find_inn r2 (by simpa using h)
  | .inn c :: bs, _, _, ⟨v, w, q, r1, r2⟩, h => by
    simp at h
    subst h
    obtain ⟨p, o, _, m, ho, rc⟩ := r1
    exact ⟨p, o, m, ho, rc⟩
  | .own c :: bs, _, _, ⟨v, w, q, r1, r2⟩, h => r1.elim
theorem slots_own {c : Cn} {L S : List Addr} {σ : L2.St} {H : Hp} {α : State} (R : Rel e c L S σ H α) : ∀ {as : List Arg} {bs : List A}, toAs as α = some bs → ∀ i ∈ slots as, ∃ ct, ctOf α[i]? = some ct
  | [], _, _, i, m => nomatch m
  | .dat d :: as, _, h, i, m => by
    unfold toAs at h
    cases hs : toAs as α with
    | none => rw [hs] at h; cases h
    | some bs => exact slots_own R hs i m
  | .slot j :: as, _, h, i, m => by
    unfold toAs at h
    split at h
    · rename_i ct hct
      cases hs : toAs as α with
      | none => rw [hs] at h; cases h
      | some bs =>
        rcases List.mem_cons.mp m with rfl | m
        · exact ⟨ct, hct⟩
        · exact slots_own R hs i m
    · cases h
theorem ee_callM {m : List A → MRes} {tr : TA} {sr : State → Res (List Arg)} (h : EvaE e E tr sr) : Eve e E (tCall (spM e m) [] E tr) (rCallM m sr) := fun c L S σ H α R Q k kx nb => by
  unfold rCallM at k kx nb
  refine h c L S σ H α R _ (fun as α1 hs vs H1 m1 R1 r1 => ?_) (fun x hx => kx x (by rw [hx])) (fun hb => nb (by rw [hb]))
  rw [hs] at k kx nb
  dsimp only at k kx nb
  split at nb
  · rename_i i hi
    simp only [hi] at k kx
    split at nb
    · rename_i bs hbs
      simp only [hbs] at k kx
      obtain ⟨ct, hct⟩ := slots_own R1 hbs i (by rw [hi]; exact List.mem_cons_self)
      obtain ⟨p, o, hp, mS, ho, rc⟩ := R1.at hct
      obtain ⟨ar, hcount⟩ := toAs_rep (T := [p]) R1 (fun j hj q hq => by
        rw [hi] at hj
        have : j = i := by simpa using hj
        subst this
        rw [hp] at hq; cases hq; simp) hbs r1
      rw [hi] at hcount
      show spM e m (vs ++ []) H1 Q E
      rw [List.append_nil]
      refine ⟨L, [p], bs, R1.dom, fun q hq => by have : q = p := by simpa using hq
                                                 subst this; exact R1.sub _ mS, by rw [hcount]; exact Nat.le_refl _, ar, fun r as' hm v H' md ar' rr => ?_, fun x hm cls' dd H' md xr fr => ?_, fun hb => nb (by rw [hb])⟩
      · rw [hm] at k nb
        cases r with
        | lst xs => exact absurd rfl nb
        | dat d =>
          dsimp only at k nb
          split at nb
          · rename_i ct' hf
            simp only [hf] at k
            obtain ⟨p', o', mp, ho', rc'⟩ := find_inn ar' hf
            have : p' = p := by simpa using mp
            subst this
            obtain ⟨R2, m2⟩ := R1.mutM hct hp md ho' rc'
            exact k d _ rfl v H' (m1.trans m2) R2 rr
          · exact absurd rfl nb
      · rw [hm] at kx
        refine kx x rfl cls' dd H' ?_ ⟨xr.1, xr.2.elim .inl fun ⟨q, gs, a1, a2, a3⟩ => .inr ⟨q, gs, a1, a2, RepF.mono (fz_anti R1.l0) _ _ a3⟩⟩ (fun p hp => R1.h0 (fr p hp))
        intro a u q n
        refine md a u (R1.md a u q n) fun z => ?_
        have : a = p := by simpa using z
        subst this
        rcases R1.s1 a mS with z | z
        · exact n z
        · rw [q] at z; cases z
    · exact absurd rfl nb
  · exact absurd rfl nb

/-! ### comprehensions whose element has side effects -/
theorem Rel.unwipe {c : Cn} {L S : List Addr} {σ : L2.St} {H : Hp} {α : State} {vs : List Nat} (r : Rel e c L S (L2.wipe σ vs) H α) : Rel e c L S σ H α where
  slot := fun i a q => by
    obtain ⟨v, h1, h2⟩ := r.slot i a q
    exact ⟨v, (wipe_some h1).1, h2⟩
  sep := fun i j p hi hj si sj => by
    have un : ∀ i : Nat, isOwn α[i]? = true → ∀ p : Addr, σ[i]? = some (some (V.ref p)) → (L2.wipe σ vs)[i]? = some (some (V.ref p)) := fun i hi p hp => by
      cases ha : α[i]? with
      | none => rw [ha] at hi; simp [isOwn] at hi
      | some x =>
        cases x with
        | none => rw [ha] at hi; simp [isOwn] at hi
        | some a =>
          obtain ⟨v, h1, _⟩ := r.slot i a ha
          have := (wipe_some h1).1
          rw [hp] at this
          rw [h1, this]
    exact r.sep i j p hi hj (un i hi p si) (un j hj p sj)
  dom := r.dom
  sub := r.sub
  l0 := r.l0
  l1 := r.l1
  s1 := r.s1
  md := r.md
  s0 := r.s0
  d0 := r.d0
  len := by rw [← r.len, wipe_length]
theorem Rel.mutL {c : Cn} {L S : List Addr} {σ : L2.St} {H : Hp} {α : State} {D0 : Addr} {o o' : HO} (r : Rel e c L S σ H α) (nS : D0 ∉ S) (mL : D0 ∈ L) (h0 : H D0 = some o) (n0 : c.H0 D0 = none) : Rel e c L S σ (upd H D0 o') α := by
  have fzs : Same (fz L H) (fz L (upd H D0 o')) := fz_mut fun a u z n => by rw [upd_ne (fun z' => n (by rw [z']; exact mL))]; exact z
  refine ⟨fun i a q => ?_, r.sep, fun p m z => ?_, r.sub, r.l0, r.l1, r.s1, fun a u q n => ?_, r.s0, r.d0, r.len⟩
  · obtain ⟨v, h1, h2⟩ := r.slot i a q
    refine ⟨v, h1, ?_⟩
    cases a with
    | dat d => exact Rep.up (d := d) h2 fzs
    | adr _ => exact h2
    | own ct => obtain ⟨p', o2, q', m, n', ho', rc⟩ := h2; exact ⟨p', o2, q', m, n', by rw [upd_ne (fun z => nS (by rw [← z]; exact m))]; exact ho', rc.up fzs⟩
    | inn ct => obtain ⟨p', o2, q', m, n', ho', rc⟩ := h2; exact ⟨p', o2, q', m, n', by rw [upd_ne (fun z => nS (by rw [← z]; exact m))]; exact ho', rc.up fzs⟩
  · by_cases hp : p = D0
    · rw [hp, upd_same] at z; cases z
    · rw [upd_ne hp] at z; exact r.dom p m z
  · rw [upd_ne (ne_of_none q n0)]; exact r.md a u q n
def lcE (gt : D → State → Option State) (se : State → Res D) (vs : List Nat) : List D → State → Res (List D)
  | [], α => .ok [] α
  | x :: xs, α => match gt x α with
    | none => .bad
    | some β => match se β with
      | .ok d β' => (match lcE gt se vs xs (wipeA vs β') with | .ok ds γ => .ok (d :: ds) γ | .exc x => .exc x | .bad => .bad)
      | _ => .bad
theorem lcE_cons {gt : D → State → Option State} {se : State → Res D} {vs : List Nat} {x : D} {xs : List D} {α : State} : lcE gt se vs (x :: xs) α = match gt x α with
    | none => .bad
    | some β => match se β with
      | .ok d β' => (match lcE gt se vs xs (wipeA vs β') with | .ok ds γ => .ok (d :: ds) γ | .exc x => .exc x | .bad => .bad)
      | _ => .bad := rfl
def rLc (vs : List Nat) (sx : State → Option (List D)) (gt : D → State → Option State) (se : State → Res D) : State → Res (List D) := fun α => match sx α with
  | some xs => if xs.length ≤ 100000 then lcE gt se vs xs (wipeA vs α) else .bad
  | none => .bad
theorem ele_lc {wi : TI} {g : TG} {vs js : List Nat} {sx : State → Option (List D)} {gt : D → State → Option State} {se : State → Res D} (hi : Evi e wi sx) (hg : Etg e g gt js) (hj : ∀ j ∈ js, j ∈ vs) (he : Eve e E te se) :
    EvlE e E (tLc wi g tYes te vs) (rLc vs sx gt se) := fun c L S σ H α R Q k kx nb => by
  unfold rLc at k kx nb
  cases hx : sx α with
  | none => rw [hx] at nb; exact absurd rfl nb
  | some xs =>
    rw [hx] at k kx nb
    dsimp only at k kx nb
    split at nb
    · rename_i hz
      rw [if_pos hz] at k kx
      refine hi c L S σ H α xs R hx _ fun J H1 e1 wk => ?_
      intro D0 hD
      have hn : H D0 = none := none_back e1 hD
      have R1 := R.up e1
      have hDS : D0 ∉ S := fun m => R1.dom D0 (R1.sub D0 m) hD
      -- the outcome of what is left, from a state
      refine ⟨fun i m H' => m = xs.length - i ∧ i ≤ xs.length ∧ Mod S H1 H' ∧ ∃ acc ds αi, H' D0 = some (.lst acc) ∧ acc.length ≤ i ∧ Reps e (fz (D0 :: L) H') ds acc ∧ Rel e c (D0 :: L) S (L2.wipe σ vs) H' αi ∧ Same (fz (D0 :: L) (upd H1 D0 (.lst []))) (fz (D0 :: L) H') ∧
          lcE gt se vs (xs.drop i) αi ≠ .bad ∧ (∀ x, lcE gt se vs (xs.drop i) αi ≠ .exc x) ∧ (∀ rest γ, lcE gt se vs (xs.drop i) αi = .ok rest γ → lcE gt se vs xs (wipeA vs α) = .ok (ds ++ rest) γ),
        ⟨xs.length, by simp, Nat.zero_le _, fun a o z _ => by rw [upd_ne (ne_of_none z hD)]; exact z, [], [], wipeA vs α, upd_same, Nat.le_refl _, Reps.nil, (R1.more (same_upd hD) hD upd_same).wipe vs, Same.refl _, nb, ?_, fun rest γ h => h⟩, ?_⟩
      · -- no exception can leave a comprehension here
        have noexc : ∀ (ys : List D) (a : State) (x : Exn), lcE gt se vs ys a ≠ .exc x := by
          intro ys
          induction ys with
          | nil => intro a x h; cases h
          | cons y ys ih =>
            intro a x h
            unfold lcE at h
            split at h
            · cases h
            · split at h
              · split at h
                · cases h
                · rename_i hh; exact ih _ _ hh
                · cases h
              · cases h
        exact fun x => noexc _ _ x
      rintro i m H2 ⟨rfl, hi2, s2, acc, ds, αi, h2, hal, hr, R2, f2, hnb, hnx, hout⟩
      have w2' : Same (fz L H1) (fz (D0 :: L) H2) := (fz_cons (same_upd hD) hD).trans f2
      obtain ⟨w1, w2, w3⟩ := wk (D0 :: L) H2 w2' R2.dom i
      by_cases hlt : i < xs.length
      · rw [List.drop_eq_getElem_cons hlt] at hnb hnx hout
        simp only [lcE_cons] at hnb hnx hout
        cases hgt : gt xs[i] αi with
        | none => rw [hgt] at hnb; exact absurd rfl hnb
        | some β =>
          rw [hgt] at hnb hnx hout
          dsimp only at hnb hnx hout
          refine .inr ⟨w1 hlt, fun H' => Mod S H1 H' ∧ ∃ acc ds αi, H' D0 = some (.lst acc) ∧ acc.length ≤ i + 1 ∧ Reps e (fz (D0 :: L) H') ds acc ∧ Rel e c (D0 :: L) S (L2.wipe σ vs) H' αi ∧ Same (fz (D0 :: L) (upd H1 D0 (.lst []))) (fz (D0 :: L) H') ∧
              lcE gt se vs (xs.drop (i + 1)) αi ≠ .bad ∧ (∀ x, lcE gt se vs (xs.drop (i + 1)) αi ≠ .exc x) ∧ (∀ rest γ, lcE gt se vs (xs.drop (i + 1)) αi = .ok rest γ → lcE gt se vs xs (wipeA vs α) = .ok (ds ++ rest) γ),
            fun H' ⟨h', h''⟩ => ⟨xs.length - (i + 1), by omega, rfl, hlt, h', h''⟩, fun v H3 y => ?_⟩
          obtain ⟨e3, r3⟩ := w3 xs[i] v H3 (List.getElem?_eq_getElem hlt) y
          refine hg c _ S _ H3 _ xs[i] v β (R2.up e3) r3 hgt _ fun σ4 hl4 hj4 R4 => ⟨?_, ?_⟩
          · rw [wipe_ext hl4 fun j hn => hj4 j fun m => hn (hj j m), wipe_idem]
          · show te σ4 H3 _
            refine he c _ S σ4 H3 β R4 _ (fun d β' hse v5 H5 m5 R5 r5 => ?_) (fun x hse => ?_) (fun hse => ?_)
            · rw [hse] at hnb hnx hout
              dsimp only at hnb hnx hout
              have h5 : H5 D0 = some (.lst acc) := m5 _ _ (e3 _ _ h2) hDS
              have fzs : Same (fz (D0 :: L) H5) (fz (D0 :: L) (upd H5 D0 (.lst (acc ++ [v5])))) := fz_mut fun a o z n => by
                rw [upd_ne (fun z' => n (by rw [z']; exact List.mem_cons_self))]; exact z
              have f35 : Same (fz (D0 :: L) H2) (fz (D0 :: L) H5) := (fz_same e3).trans (fz_mod m5 R4.sub)
              have wq : L2.wipe σ4 vs = L2.wipe σ vs := by rw [wipe_ext hl4 fun j hn => hj4 j fun m => hn (hj j m), wipe_idem]
              have R6 : Rel e c (D0 :: L) S (L2.wipe σ vs) (upd H5 D0 (.lst (acc ++ [v5]))) (wipeA vs β') := by
                have q := R5.wipe vs
                rw [wq] at q
                exact q.mutL hDS (List.mem_cons_self) h5 (R1.h0 hD)
              refine ⟨acc, h5, sz_lt (by omega), fun a o z n => ?_, acc ++ [v5], ds ++ [d], wipeA vs β', upd_same, by simp; omega, ((hr.up f35).append (Reps.cons r5 Reps.nil)).up fzs, R6, f2.trans (f35.trans fzs), ?_, ?_, ?_⟩
              · rw [upd_ne (ne_of_none z hD)]
                exact m5 _ _ (e3 _ _ (s2 _ _ z n)) n
              · intro hb; rw [hb] at hnb; exact hnb rfl
              · intro x hb; rw [hb] at hnx; exact hnx x rfl
              · intro rest γ hb
                rw [hb] at hout
                have := hout (d :: rest) γ rfl
                rw [this, List.append_assoc]; rfl
            · rw [hse] at hnb; exact absurd rfl hnb
            · rw [hse] at hnb; exact absurd rfl hnb
      · have e2 : i = xs.length := by omega
        subst e2
        rw [List.drop_length] at hout
        have ho := hout [] αi rfl
        rw [List.append_nil] at ho
        refine .inl ⟨w2 (Nat.le_refl _), k ds αi ho D0 acc H2 ?_ hn R2.unwipe h2 hr⟩
        intro a o z n
        exact s2 a o (e1 _ _ z) n
    · exact absurd rfl nb
end
end Ab
end
section
set_option maxRecDepth 100000
set_option maxHeartbeats 1000000
namespace Ab
open PySem L2 PyProof.Rows PySem.Spec
open Builtin Builtin.SmallTypes
set_option maxHeartbeats 2000000 in
theorem meets_enum1B {v : Value} {o : Obj} {H : Heap → Prop} (B : Begins v o H) :
    Meets (Builtin.«enumerate.__new__» ⟨[.type "enumerate", v], []⟩) (fun _ R s => H s.heap ∧
      R (.ok (.ret (.ref (s.heap.push o).objs.size))) { s with heap := (s.heap.push o).push { cls := .type "enumerate", data := .fields #[.none, .bool false, .ref s.heap.objs.size, rawInt 0, .none, .none] } }) :=
  .of_wp fun prog w A R s h => by
    obtain ⟨hp, g, d, tk, os⟩ := s; obtain ⟨h1, h⟩ := h
    have hsub := sub_enumerate
    have q1 : ∀ {A' : Around} {E : Value → Shared → Prop} {Q : Value → Shared → Prop}, Q (.ref hp.objs.size) ⟨hp.push o, g, d, tk, os⟩ → wpAny (model prog w) A' (pyIter v) Q E ⟨hp, g, d, tk, os⟩ :=
      fun q => B.iter prog w _ _ ⟨hp, g, d, tk, os⟩ _ h1 q
    wp_walk using q1
    refine wpAny_stack_any fun st => wpAny_pure ?_
    split
    · rename_i c _ _ _ _ _
      cases (c == Value.type "enumerate")
      · wp_walk using q1
        exact ⟨_, rfl, h⟩
      · wp_walk using q1
        exact ⟨_, rfl, h⟩
    · wp_walk using q1
      exact ⟨_, rfl, h⟩
section
variable {prog : Program} {w : World} {A : Around} {E : Value → Shared → Prop} {s : Shared}
theorem enum1_begins {v : Value} {o : Obj} {H : Heap → Prop} {Q : Value → Shared → Prop} (B : Begins v o H) (h1 : H s.heap)
    (h : ∀ h', IsEnum h' (s.heap.objs.size + 1) s.heap.objs.size 0 .none → h'.get? s.heap.objs.size = some o → h'.objs.size = s.heap.objs.size + 2 →
      (∀ b o, s.heap.get? b = some o → h'.get? b = some o) → Q (.ref (s.heap.objs.size + 1)) { s with heap := h' }) :
    wpAny (model prog w) A (call (.type "enumerate") [v]) Q E s := by
  refine callType_new F.called_enumerate (by decide) (F.typeCall_enumerate_1 _) (F.newCall_enumerate_1 _) (fun obj => F.args_object_init_2 obj _) F.entry_enumerate_new
    (meets_enum1B B) ⟨h1, ?_⟩
  have hz : (s.heap.push o).objs.size = s.heap.objs.size + 1 := Heap.size_push ..
  show _ ∧ _
  rw [hz]
  have he : IsEnum ((s.heap.push o).push { cls := .type "enumerate", data := .fields #[.none, .bool false, .ref s.heap.objs.size, rawInt 0, .none, .none] }) (s.heap.objs.size + 1) s.heap.objs.size 0 .none := by
    have := Heap.get?_push_size (s.heap.push o) (o := { cls := .type "enumerate", data := .fields #[.none, .bool false, .ref s.heap.objs.size, rawInt 0, .none, .none] }) rfl
    rw [hz] at this; exact this
  refine ⟨⟨_, he, rfl⟩, h _ he (Heap.get?_push_of_some _ (Heap.get?_push_size _ B.free)) (by rw [Heap.size_push, hz]) fun b o x => Heap.get?_push_of_some _ (Heap.get?_push_of_some _ x)⟩
end
def IteT (K : PySem.W.Frag) (a : Addr) : It :=
  ⟨fun i H => ∃ (xs : List V) (x : V), SqT K H a xs ∧ xs[i]? = some x, fun i H v H' => ∃ T x, v = .ref T ∧ H T = none ∧ H' = upd H T (.tup [.int (i : Nat), x]) ∧ ∀ xs, SqT K H a xs → xs[i]? = some x, fun i H => ∃ xs : List V, SqT K H a xs ∧ xs.length ≤ i⟩
theorem turn_enumT {P : Program} {w : World} {K : PySem.W.Frag} {elts : List Expr} {kk : Nat} {tpos : Pos} (a e it : Addr) :
    Turn P w K (.Tuple elts kk tpos) (IteT K a) [e, it] e (fun i h => (∃ old, IsEnum h e it ((i : Nat) : Int) old) ∧ h.IsTupleIter it a i ∧ e ≠ it) where
  mem := by simp
  obj := fun i h st b hb => by
    obtain ⟨⟨old, he⟩, ⟨o, ho, hc, hd⟩, _⟩ := st
    have e' : b = e ∨ b = it := by simpa using hb
    rcases e' with z | z
    · rw [z]; exact ⟨_, he, fun v q => nomatch q⟩
    · rw [z]; exact ⟨o, ho, fun v q => by rw [hd] at q; cases q⟩
  keep := fun i h h' st k => let ⟨⟨old, he⟩, hi, hne⟩ := st; ⟨⟨old, k e (by simp) _ he⟩, hi.at fun o q => k it (by simp) o q, hne⟩
  item := by
    intro X hP hw hK hc i pins s σ H E I hf st hg
    subst hP hw hK
    obtain ⟨⟨old, he⟩, hit, hne⟩ := st
    obtain ⟨xs, x, hq, hx⟩ := hg
    obtain ⟨its, rv, p, hz⟩ := I.tuple hq
    obtain ⟨u, hu, ru⟩ := rv.get hx
    have hel : e < s.heap.objs.size := Heap.lt_size he
    have hil : it < s.heap.objs.size := by obtain ⟨_, q, _⟩ := hit; exact Heap.lt_size q
    have hat : a ≠ it := by
      rintro rfl
      obtain ⟨o, ho, hc2, hd⟩ := hit
      obtain ⟨o2, ho2, hc3, _⟩ := p
      rw [ho] at ho2; cases ho2
      rw [hc2] at hc3; exact absurd hc3 (by simp)
    have hae : e ∉ [it, a] := by
      intro m
      rcases List.mem_cons.mp m with z | m
      · exact hne z
      · have z : e = a := by simpa using m
        subst z
        obtain ⟨o2, ho2, hc3, _⟩ := p
        have he2 : s.heap.get? e = _ := he
        rw [ho2] at he2; cases he2; exact absurd hc3 (by simp)
    have hlt : i < its.length := (List.getElem?_eq_some_iff.mp hu).1
    have D := Draws.tuple (prog := X.prog) (w := X.w) (A := X.A.in1) (I.ok.hd hc) it a hat its.toArray
    refine wpAny_pyNext_enum_itemD D he ⟨hit, p⟩ (by simpa using hlt) hne hae fun x' h' tk hx' ho hst hT hsz hk => ?_
    have hxu : x' = u := by
      have h1 : its[i]? = some x' := by simpa using hx'
      rw [hu] at h1
      exact (Option.some.inj h1).symm
    subst hxu
    refine ⟨_, rfl, wpAny_letOwnedTupleGo_enum (s := { s with heap := h', toks := tk + 1 }) ho fun h'' he' sb => ?_⟩
    have hT2 : h''.get? s.heap.objs.size = some { cls := .type "tuple", data := .seq #[.int i tk, x'] } := (sb.2 _ (Nat.ne_of_gt hel)).trans hT
    have new : ObjOk X.prog X.w (upd H s.heap.objs.size (.tup [.int (i : Nat), x])) h'' s.heap.objs.size (.tup [.int (i : Nat), x]) :=
      ⟨by show 2 ≤ sizeLine; decide, [.int i tk, x'], .cons ⟨_, rfl⟩ (.cons ru .nil), ⟨_, hT2, rfl, _, rfl⟩⟩
    have I1 : Inv X pins σ (upd H s.heap.objs.size (.tup [.int (i : Nat), x])) { s with heap := h'', toks := tk + 1 } :=
      I.turnedNew (ch := [e, it]) (fun b ob hb q => (sb.2 b (fun z => hb (by simp [z]))).trans (hk b ob (fun z => hb (by simp [z])) (fun z => hb (by simp [z])) q)) hf (Nat.le_refl _) new
    refine ⟨.ref s.heap.objs.size, _, I1, rfl, ⟨_, x, rfl, I.hok.fresh (Nat.le_refl _), rfl, fun ys hy => by rw [I.tuple_inj hy hq]; exact hx⟩, ⟨⟨x', ?_⟩, hst.1.at fun o q => (sb.2 it (Ne.symm hne)).trans q, hne⟩, fun b hb => ?_⟩
    · have e1 : ((i + 1 : Nat) : Int) = (i : Int) + 1 := by omega
      rw [e1]; exact he'
    · have hb' : b < s.heap.objs.size := by
        have e' : b = e ∨ b = it := by simpa using hb
        rcases e' with z | z
        · rw [z]; exact hel
        · rw [z]; exact hil
      rw [upd_ne (Nat.ne_of_lt hb')]
      exact (hf b hb).1
  done := by
    intro X hP hw hK hc i pins s σ H E I hf st hg
    subst hP hw hK
    obtain ⟨⟨old, he⟩, hit, hne⟩ := st
    obtain ⟨xs, hq, hx⟩ := hg
    obtain ⟨its, rv, p, hz⟩ := I.tuple hq
    obtain ⟨f0, f1, f2, f3, f4, f5⟩ := hf it (by simp)
    have hl := rv.length
    have hat : a ≠ it := by
      rintro rfl
      obtain ⟨o, ho, hc2, hd⟩ := hit
      obtain ⟨o2, ho2, hc3, _⟩ := p
      rw [ho] at ho2; cases ho2
      rw [hc2] at hc3; exact absurd hc3 (by simp)
    have D : Draws X.prog X.w X.A.in1 it [it, a] i (fun i v => its.toArray[i]? = some v) (fun j h => j = i ∧ h.IsTuple a its.toArray ∧ h.IsTupleIter it a j) :=
      { live := fun _ _ st => let ⟨o, ho, _⟩ := st.2.2; ⟨o, ho⟩
        frame := fun _ _ _ st hk => ⟨st.1, st.2.1.at fun o e => hk a (by simp) o e, st.2.2.at fun o e => hk it (by simp) o e⟩
        item := fun j s Q E hj st hQ => absurd st.1 (Nat.ne_of_lt hj)
        done := fun s Q E st hE => wpAny_nextOf_tuple_end (I.ok.hd hc) st.2.2 st.2.1 (by simp; omega) hE }
    exact wpAny_pyNext_enum_endD D he ⟨rfl, p, hit⟩ fun h' eb => ⟨rfl, I.turned (t' := s.toks) (fun b o hb q => eb b o hb q) f0 f1 f3 f4 f5⟩
  self := fun A i s Q E st h => let ⟨⟨_, he⟩, _⟩ := st; wpAny_pyIter_enum he h
def iEnumT (K : PySem.W.Frag) (ta : TA) : TI := fun σ H R => ta σ H fun vs H1 => ∃ a xs, vs = [.ref a] ∧ SqT K H1 a xs ∧ R (IteT K a) H1
theorem pi_enumT {X : Cx} {e : Expr} {ta : TA} {p pos tpos : Pos} {elts : List Expr} {kk : Nat} (hg : Gl X "enumerate") (hm : X.mg "enumerate" = none) (ha : PA X [e] ta) (hs : starEach [e] X.env = [(false, eval e X.env)] := by rfl) :
    PI X (.Tuple elts kk tpos) (.Call (.Name "enumerate" p) [e] [] pos) (iEnumT X.K ta) := by
  refine ⟨fun pins s σ H R I h => ?_⟩
  refine Call_ (ld_blt I hg hm boot_enumerate (PyProof.Rows.callWith_type1 (thn (ha.run pos pins s σ H _ I h) fun us s1 ⟨vs, H1, I1, r1, q1⟩ => ?_) hs rfl))
  obtain ⟨a, xs, ex, hq, q⟩ := q1
  subst ex
  cases r1 with
  | cons r rr =>
    cases rr
    cases r
    obtain ⟨its, rv, p', hz⟩ := I1.tuple hq
    refine enum1_begins (begins_tuple a its.toArray) (show s1.heap.IsTuple a its.toArray from p') fun h' he hit hsz hk => wpAny_pyIter_enum he ?_
    have I2 : Inv X pins σ H1 { s1 with heap := h' } := I1.kept (t' := s1.toks) hk
    refine ⟨s1.heap.objs.size + 1, [s1.heap.objs.size + 1, s1.heap.objs.size], _, _, H1, rfl, I2, turn_enumT a (s1.heap.objs.size + 1) s1.heap.objs.size, ⟨⟨.none, he⟩, ⟨_, hit, rfl, rfl⟩, Nat.succ_ne_self _⟩, fun b hb => ?_, q⟩
    have e' : b = s1.heap.objs.size + 1 ∨ b = s1.heap.objs.size := by simpa using hb
    have hle : s1.heap.objs.size ≤ b := by
      rcases e' with z | z
      · rw [z]; exact Nat.le_add_right _ _
      · rw [z]; exact Nat.le_refl _
    exact I1.fpOk hle (I1.hok.fresh hle)
section
variable {e : En} {te : TE}
def xEnumT (s : State → Option D) : State → Option (List D) := fun α => match s α with | some (.tup xs) => some (enumL 0 xs) | _ => none
theorem ei_enumT {s : State → Option D} (h : Evp e te s) : Evi e (iEnumT e.K (tCons te tNil)) (xEnumT s) := fun c L S σ H α xs R q W k => by
  unfold xEnumT at q
  split at q
  · rename_i ys hs
    cases q
    refine h c L S σ H α _ R hs _ fun v H' e1 ⟨a, vs, e2, r1, r2⟩ => ?_
    subst e2
    refine ⟨a, vs, rfl, same_t fz_le r1, k _ H' e1 fun L2 H2 s2 dm i => ?_⟩
    have t2 : SqT e.K H2 a vs := same_t fz_le (same_t s2 r1)
    rw [enumL_len]
    refine ⟨fun hi => ⟨vs, vs[i]'(by rw [r2.len]; exact hi), t2, List.getElem?_eq_getElem _⟩, fun hi => ⟨vs, t2, by rw [r2.len]; exact hi⟩, fun x v H3 hx ⟨T, y, e3, n, e4, yy⟩ => ?_⟩
    subst e3 e4
    obtain ⟨d, h1, h2⟩ := enumL_get _ _ _ _ hx
    obtain ⟨v', h3, h4⟩ := r2.get h1
    have h5 := yy vs t2
    have h6 : v' = y := Option.some.inj (h3.symm.trans h5)
    subst h6
    have s3 : Same H2 (upd H2 T (.tup [.int (i : Nat), v'])) := same_upd n
    refine ⟨s3, ?_⟩
    subst h2
    refine ⟨T, _, rfl, .inl (.inl (fz_new (fresh_nL dm n) upd_same)), Reps.cons ?_ (Reps.cons (h4.up (s2.trans (fz_same s3))) Reps.nil)⟩
    show V.int _ = V.int _
    rw [Int.zero_add]
  · cases q
end
end Ab
end
section
set_option maxRecDepth 100000
set_option maxHeartbeats 1000000
namespace Ab
open PySem L2 PyProof.Rows PySem.Spec
/-- a tuple of flat things at the module's top -/
def isTup (ds : List D) (o : Obj) : Prop := ∃ (its : Array Value) (n : Nat), o.cls = .type "tuple" ∧ o.data = .seq its n ∧ its.size ≤ sizeLine ∧ Vals (ds.map dv) its.toList ∧ ds.all flat = true ∧ o.dict = none
theorem reps_dv {e : En} {F : Hp} : ∀ {ds : List D}, ds.all flat = true → Reps e F ds (ds.map dv)
  | [], _ => Reps.nil
  | d :: ds, h => by
    simp only [List.all_cons, Bool.and_eq_true] at h
    exact Reps.cons (rep_of_flat h.1) (reps_dv h.2)
theorem top_tup {K : PySem.W.Frag} {cls : String → Addr} {q : Addr} {o : Obj} {ds : List D} (h : K.lookup q = some o) (r : isTup ds o) : ∀ F, Rep ⟨K, cls⟩ F (.tup ds) (.ref q) := fun F => by
  obtain ⟨its, n, h1, h2, h3, h4, h5, _⟩ := r
  exact ⟨q, _, rfl, .inr ⟨o, its, n, h, h1, h2, h3, h4⟩, reps_dv h5⟩
theorem top_ty {K : PySem.W.Frag} {q : Addr} {o : Obj} {ds : List D} (h : K.lookup q = some o) (r : isTup ds o) : ∀ H, tyV K "tuple" (.ref q) H := fun H => by
  obtain ⟨its, n, h1, h2, h3, h4, h5, h6⟩ := r
  exact .inr (.inl ⟨rfl, o, h, h1, h6⟩)
/-! ### the rules with the written part told by itself (within a comprehension's block) -/
section
variable {X : Cx} {K : PySem.W.Frag}
theorem ixl (h : X.K = K) : IxR X (rIxL K) := h ▸ ix_list
theorem ixt (h : X.K = K) : IxR X (rIxT K) := h ▸ ix_tup
theorem sll (h : X.K = K) : SlR X (rSlL K) := h ▸ sl_list
theorem sla (h : X.K = K) : SlR X (rSlA K) := h ▸ sl_tupA
theorem in_q (h : X.K = K) : OpR X (compareOp .In) (rIn K false) := h ▸ op_in_seq
theorem nin_q (h : X.K = K) : OpR X (compareOp .NotIn) (rIn K true) := h ▸ op_notIn_seq
theorem eq_q (h : X.K = K) (hu : X.A.units + 200 < cLine) : OpR X (compareOp .Eq) (rEqQ K) := h ▸ op_eqQ hu
theorem ne_q (h : X.K = K) (hu : X.A.units + 200 < cLine) : OpR X (compareOp .NotEq) (rNeQ K) := h ▸ op_neQ hu
theorem cat_q (h : X.K = K) : OpR X (binaryOp .Add) (rCatQ K) := h ▸ op_catQ
theorem cat_a (h : X.K = K) : OpR X (binaryOp .Add) (rCatA K) := h ▸ op_catA
theorem isi_q (h : X.K = K) : CallR X (.builtin "isinstance") (rIsi K) := h ▸ call_isi
theorem len_q (h : X.K = K) : CallR X (.builtin "len") (fun xs H Q => ∃ p ys, xs = [.ref p] ∧ (SqL K H p ys ∨ SqT K H p ys) ∧ Q (.int ys.length) H) := h ▸ call_len_seq
theorem list_q (h : X.K = K) : CallR X (.type "list") (fun xs H Q => ∃ p ys, xs = [.ref p] ∧ (SqL K H p ys ∨ SqT K H p ys) ∧ ∀ l, H l = none → Q (.ref l) (upd H l (.lst ys))) := h ▸ call_list_of
theorem tuple_q (h : X.K = K) : CallR X (.type "tuple") (fun xs H Q => ∃ p ys, xs = [.ref p] ∧ ((SqL K H p ys ∧ ∀ l, H l = none → Q (.ref l) (upd H l (.tup ys))) ∨ (SqT K H p ys ∧ Q (.ref p) H))) := h ▸ call_tuple_of
theorem sum_q (h : X.K = K) (hc : X.calm = true) : CallR X (.builtin "sum") (rSum K) := h ▸ cr_sum hc
theorem pil (h : X.K = K) {tg l : Expr} {tl : TE} (hl : PE X l tl) : PI X tg l (iList K tl) := h ▸ pi_list hl
theorem pit (h : X.K = K) {tg l : Expr} {tl : TE} (hl : PE X l tl) : PI X tg l (iTup K tl) := h ▸ pi_tup hl
theorem pienum (h : X.K = K) {e : Expr} {ta : TA} {p pos tpos : Pos} {elts : List Expr} {kk : Nat} (hg : Gl X "enumerate") (hm : X.mg "enumerate" = none) (ha : PA X [e] ta) (hs : starEach [e] X.env = [(false, eval e X.env)] := by rfl) :
    PI X (.Tuple elts kk tpos) (.Call (.Name "enumerate" p) [e] [] pos) (iEnum K ta) := h ▸ pi_enum hg hm ha hs
theorem pienumT (h : X.K = K) {e : Expr} {ta : TA} {p pos tpos : Pos} {elts : List Expr} {kk : Nat} (hg : Gl X "enumerate") (hm : X.mg "enumerate" = none) (ha : PA X [e] ta) (hs : starEach [e] X.env = [(false, eval e X.env)] := by rfl) :
    PI X (.Tuple elts kk tpos) (.Call (.Name "enumerate" p) [e] [] pos) (iEnumT K ta) := h ▸ pi_enumT hg hm ha hs
theorem pe_pop (h : X.K = K) {o : Expr} {to : TE} {apos cpos : Pos} (ho : PE X o to) (hbase : attributeBase o "pop" X.env (eval o X.env) = eval o X.env := by rfl) (hline : (apos.endLine == cpos.line) = true := by rfl) :
    PE X (.Call (.Attribute o "pop" apos) [] [] cpos) (tBM0 K "list" rPop to) := h ▸ pe_bm0 PySem.F.plainAttrs_list PySem.F.slot_list_pop PySem.F.type_list_pop mt_pop ho hbase hline
theorem pe_tuprev (h : X.K = K) {e : Expr} {te : TE} {p p2 pos pos2 : Pos} (hc : X.calm = true) (hg : Gl X "tuple") (hm : X.mg "tuple" = none) (hg2 : Gl X "reversed") (hm2 : X.mg "reversed" = none) (he : PE X e te)
    (q : PE X (.Call (.Name "tuple" p) [.Call (.Name "reversed" p2) [e] [] pos2] [] pos) (RT.tTupRev X.K te)) : PE X (.Call (.Name "tuple" p) [.Call (.Name "reversed" p2) [e] [] pos2] [] pos) (RT.tTupRev K te) := h ▸ q
end
end Ab
end
section
set_option maxRecDepth 100000
set_option maxHeartbeats 1000000
namespace Ab
open PySem L2 PyProof.Rows PySem.Spec
section
variable {α β : State} {i j : Nat} {d : D} {sa sb s s' : State → Option D} {f : D → D → Option D} {sq sq2 sr : State → Option (List D)} {st su : State → Option Bool}
@[simp] theorem a_xVar : xVar i α = (match α[i]? with | some (some (.dat d)) => some d | _ => none) := (rfl)
@[simp] theorem a_xC : xC d α = some d := (rfl)
@[simp] theorem a_x2 : x2 f sa sb α = bnd (sa α) fun a => bnd (sb α) fun b => f a b := (rfl)
@[simp] theorem a_x1 {g : D → Option D} : x1 g sa α = bnd (sa α) g := (rfl)
@[simp] theorem a_asB : asB s α = (match s α with | some (.bl b) => some b | _ => none) := (rfl)
@[simp] theorem a_tbNot : tbNot st α = (st α).map (!·) := (rfl)
@[simp] theorem a_tbAnd : tbAnd st su α = (match st α with | some true => su α | o => o) := (rfl)
@[simp] theorem a_tbOr : tbOr st su α = (match st α with | some false => su α | o => o) := (rfl)
@[simp] theorem a_xIf : xIf st sa sb α = (match st α with | some true => sa α | some false => sb α | none => none) := (rfl)
@[simp] theorem a_xB : xB st α = (st α).map .bl := (rfl)
@[simp] theorem a_aNil : aNil α = some [] := (rfl)
@[simp] theorem a_aCons : aCons s sr α = bnd (s α) fun d => bnd (sr α) fun ds => some (d :: ds) := (rfl)
@[simp] theorem a_xTup : xTup sr α = bnd (sr α) fun ds => if ds.length ≤ 100000 then some (.tup ds) else none := (rfl)
@[simp] theorem a_xL : xL sr α = (sr α).map .lst := (rfl)
@[simp] theorem a_qL : qL s α = (match s α with | some (.lst xs) => some xs | _ => none) := (rfl)
@[simp] theorem a_qT : qT s α = (match s α with | some (.tup xs) => some xs | _ => none) := (rfl)
@[simp] theorem a_qO : qO i α = (match ctOf α[i]? with | some (.lst xs) => some xs | _ => none) := (rfl)
@[simp] theorem a_xCall {m : List D → Option D} : xCall m sr α = bnd (sr α) m := (rfl)
@[simp] theorem a_xLen : xLen sq α = (match sq α with | some xs => some (.int xs.length) | none => none) := (rfl)
@[simp] theorem a_xIx : xIx sq sb α = bnd (sq α) fun xs => match sb α with | some (.int i) => atI xs i | _ => none := (rfl)
@[simp] theorem a_xSlL {sl sh : State → Option (Option Int)} : xSlL sq sl sh α = bnd (sq α) fun xs => bnd (sl α) fun lo => bnd (sh α) fun hi => some (cutD xs lo hi) := (rfl)
@[simp] theorem a_xSlA {sl sh : State → Option (Option Int)} : xSlA sq sl sh α = bnd (sq α) fun xs => bnd (sl α) fun lo => bnd (sh α) fun hi => some (.tup (cutD xs lo hi)) := (rfl)
@[simp] theorem a_oNone : oNone α = some none := (rfl)
@[simp] theorem a_oSome : oSome s α = (match s α with | some (.int i) => some (some i) | _ => none) := (rfl)
@[simp] theorem a_xTupL : xTupL sq α = (match sq α with | some xs => some (.tup xs) | none => none) := (rfl)
@[simp] theorem a_xSum : xSum sq α = bnd (sq α) fSum := (rfl)
@[simp] theorem a_xLend : xLend i s α = bnd (lendD i α) fun β => match s β with | some d => if flat d = true then some d else none | none => none := (rfl)
@[simp] theorem a_tLend : tLend i st α = bnd (lendD i α) st := (rfl)
@[simp] theorem a_xChain {g : D → D → Option D} : xChain f g sa sb s α = bnd (sa α) fun a => bnd (sb α) fun b => match f a b with
  | some (.bl true) => (bnd (s α) fun c => match g b c with | some (.bl k) => some (.bl k) | _ => none) | some (.bl false) => some (.bl false) | _ => none := (rfl)
@[simp] theorem a_xTupRev : xTupRev sq α = (match sq α with | some xs => some (.tup xs.reverse) | none => none) := (rfl)
@[simp] theorem a_xEnum : xEnum s α = (match s α with | some (.lst xs) => some (enumL 0 xs) | _ => none) := (rfl)
@[simp] theorem a_xEnumT : xEnumT s α = (match s α with | some (.tup xs) => some (enumL 0 xs) | _ => none) := (rfl)
@[simp] theorem a_xCat : xCat sq sq2 α = bnd (sq α) fun xs => bnd (sq2 α) fun ys => lenOk (xs ++ ys) := (rfl)
@[simp] theorem a_xCatT : xCatT sq sq2 α = bnd (sq α) fun xs => bnd (sq2 α) fun ys => if (xs ++ ys).length ≤ 100000 then some (.tup (xs ++ ys)) else none := (rfl)
@[simp] theorem a_xLc {vs : List Nat} {gt : D → State → Option State} : xLc vs sq gt st s α = bnd (sq α) fun xs => if xs.length ≤ 100000 then lcF gt st s xs (wipeA vs α) else none := (rfl)
@[simp] theorem a_tbYes : tbYes α = some true := (rfl)
theorem rngOk_of {n : Int} (h0 : -1000000 ≤ n) (h1 : n ≤ 1000000) : rngOk n = true := by
  unfold rngOk
  exact decide_eq_true ⟨Int.le_trans (by decide) h0, Int.lt_of_le_of_lt h1 (by decide)⟩
theorem rngOk_nat {n : Nat} (h1 : n ≤ 1000000) : rngOk (n : Int) = true := rngOk_of (by omega) (by omega)
@[simp] theorem rngOk_0 : rngOk 0 = true := rngOk_of (by omega) (by omega)
@[simp] theorem rngOk_1 : rngOk 1 = true := rngOk_of (by omega) (by omega)
@[simp] theorem rngOk_2 : rngOk 2 = true := rngOk_of (by omega) (by omega)
@[simp] theorem a_xRng1 : xRng1 sr α = (match sr α with | some [.int n] => if rngOk n = true then some (rngD 0 n.toNat) else none | _ => none) := (rfl)
@[simp] theorem a_xRng2 : xRng2 sr α = (match sr α with | some [.int a, .int n] => if rngOk a = true ∧ rngOk n = true then some (rngD a (n - a).toNat) else none | _ => none) := (rfl)
@[simp] theorem a_lift : lift s α = (match s α with | some d => .ok d α | none => .bad) := (rfl)
@[simp] theorem a_liftL : liftL sq α = (match sq α with | some d => .ok d α | none => .bad) := (rfl)
@[simp] theorem a_liftB : liftB st α = (match st α with | some d => .ok d α | none => .bad) := (rfl)
section
variable {r : State → Res D} {rl : State → Res (List D)} {rb : State → Res Bool} {u v : State → Out} {ra : State → Res (List Arg)} {gt : D → State → Option State} {gs : List D → State → Option State}
@[simp] theorem a_sSeq : sSeq u v α = (match u α with | .nxt β => v β | o => o) := (rfl)
@[simp] theorem a_sNext : sNext α = .nxt α := (rfl)
@[simp] theorem a_sBrk : sBrk α = .brk α := (rfl)
@[simp] theorem a_sCnt : sCnt α = .cnt α := (rfl)
@[simp] theorem a_sSet : sSet i r α = (match r α with | .ok d α' => .nxt (α'.set i (some (.dat d))) | .exc x => .exc x | .bad => .bad) := (rfl)
@[simp] theorem a_sSetL : sSetL i rl α = (match rl α with | .ok xs α' => .nxt (α'.set i (some (.own (.lst xs)))) | .exc x => .exc x | .bad => .bad) := (rfl)
@[simp] theorem a_sIf : sIf rb u v α = (match rb α with | .ok true α' => u α' | .ok false α' => v α' | .exc x => .exc x | .bad => .bad) := (rfl)
@[simp] theorem a_sDrop : sDrop r α = (match r α with | .ok _ α' => .nxt α' | .exc x => .exc x | .bad => .bad) := (rfl)
@[simp] theorem a_sRet : sRet r α = (match r α with | .ok d α' => .ret (.dat d) α' | .exc x => .exc x | .bad => .bad) := (rfl)
@[simp] theorem a_sRetN : sRetN α = .ret (.dat .non) α := (rfl)
@[simp] theorem a_sRetL : sRetL rl α = (match rl α with | .ok xs α' => .ret (.lst xs) α' | .exc x => .exc x | .bad => .bad) := (rfl)
@[simp] theorem a_sRetO : sRetO i α = (match α[i]? with | some (some (.own (.lst xs))) => .ret (.lst xs) α | _ => .bad) := (rfl)
@[simp] theorem a_sFrz : sFrz i u α = u (frzD i α) := (rfl)
@[simp] theorem a_gN {x : D} : gN i x α = some (α.set i (some (.dat x))) := (rfl)
@[simp] theorem a_gsN : gsN [] α = some α := (rfl)
@[simp] theorem a_gsC {x : D} {xs : List D} : gsC gt gs (x :: xs) α = bnd (gt x α) (gs xs) := (rfl)
@[simp] theorem a_gT {n : Nat} {xs : List D} : gT n gs (.tup xs) α = if xs.length = n then gs xs α else none := (rfl)
@[simp] theorem a_sFor {sx : State → Option (List D)} : sFor sx gt u α = (match sx α with | some xs => loopF gt u xs α | none => .bad) := (rfl)
@[simp] theorem a_sApp : sApp i r α = if isL α[i]? = true then (match r α with
  | .ok d α' => (match ctOf α'[i]? with | some (.lst xs) => if xs.length < 100000 then .nxt (putC α' i (.lst (xs ++ [d]))) else .bad | _ => .bad)
  | .exc x => .exc x | .bad => .bad) else .bad := (rfl)
@[simp] theorem a_xPop : xPop i α = (match ctOf α[i]? with | some (.lst xs) => (match xs.getLast? with | some d => .ok d (putC α i (.lst xs.dropLast)) | none => .bad) | _ => .bad) := (rfl)
@[simp] theorem a_sSetI : sSetI i r s α = (match r α with
  | .ok d α' => (match s α', ctOf α'[i]? with | some (.int z), some (.lst xs) => (match ixN xs.length z with | some j => .nxt (putC α' i (.lst (xs.set j d))) | none => .bad) | _, _ => .bad)
  | .exc x => .exc x | .bad => .bad) := (rfl)
@[simp] theorem a_anil : anil α = .ok [] α := (rfl)
@[simp] theorem a_acons : acons r ra α = (match r α with
  | .ok d α1 => (match ra α1 with | .ok as α2 => .ok (.dat d :: as) α2 | .exc x => .exc x | .bad => .bad)
  | .exc x => .exc x | .bad => .bad) := (rfl)
@[simp] theorem a_aslot : aslot i ra α = if (ctOf α[i]?).isSome = true then (match ra α with | .ok as α2 => .ok (.slot i :: as) α2 | .exc x => .exc x | .bad => .bad) else .bad := (rfl)
@[simp] theorem a_rCall {m : List D → Option D} : rCall m ra α = (match ra α with
  | .ok as α1 => (match bnd (datas as) m with | some d => .ok d α1 | none => .bad)
  | .exc x => .exc x | .bad => .bad) := (rfl)
@[simp] theorem a_rTup : rTup ra α = (match ra α with
  | .ok as α1 => (match datas as with | some ds => if ds.length ≤ 100000 then .ok (.tup ds) α1 else .bad | none => .bad)
  | .exc x => .exc x | .bad => .bad) := (rfl)
@[simp] theorem a_datN : datas [] = some [] := (rfl)
@[simp] theorem a_datC {d : D} {as : List Arg} : datas (.dat d :: as) = (datas as).map (d :: ·) := (rfl)
@[simp] theorem a_rCallM {m : List A → MRes} : rCallM m ra α = (match ra α with
  | .ok as α1 => (match slots as with
    | [i] => (match toAs as α1 with
      | some bs => (match m bs with
        | .ok (.dat d) bs' => (match bs'.find? (fun b => match b with | .inn _ => true | _ => false) with | some (.inn ct) => .ok d (putC α1 i ct) | _ => .bad)
        | .exc x => .exc x
        | _ => .bad)
      | none => .bad)
    | _ => .bad)
  | .exc x => .exc x
  | .bad => .bad) := (rfl)
@[simp] theorem a_slN : slots [] = [] := (rfl)
@[simp] theorem a_slS {as : List Arg} : slots (.slot i :: as) = i :: slots as := (rfl)
@[simp] theorem a_slD {d : D} {as : List Arg} : slots (.dat d :: as) = slots as := (rfl)
@[simp] theorem a_toN : toAs [] α = some [] := (rfl)
@[simp] theorem a_toD {d : D} {as : List Arg} : toAs (.dat d :: as) α = (toAs as α).map (.dat d :: ·) := (rfl)
@[simp] theorem a_toS {as : List Arg} : toAs (.slot i :: as) α = (match ctOf α[i]? with | some ct => (toAs as α).map (.inn ct :: ·) | none => none) := (rfl)
@[simp] theorem a_rLc {vs : List Nat} : rLc vs sq gt r α = (match sq α with
  | some xs => if xs.length ≤ 100000 then lcE gt r vs xs (wipeA vs α) else .bad
  | none => .bad) := (rfl)
end
@[simp] theorem a_ctD : ctOf (some (some (.dat d))) = none := (rfl)
@[simp] theorem a_ctO {c : Ct} : ctOf (some (some (.own c))) = some c := (rfl)
@[simp] theorem a_ctI {c : Ct} : ctOf (some (some (.inn c))) = some c := (rfl)
@[simp] theorem a_isLO {xs : List D} : isL (some (some (.own (.lst xs)))) = true := (rfl)
@[simp] theorem a_isLI {xs : List D} : isL (some (some (.inn (.lst xs)))) = true := (rfl)
@[simp] theorem a_wN : wipeA [] α = α := (rfl)
@[simp] theorem a_wC {v : Nat} {vs : List Nat} : wipeA (v :: vs) α = (wipeA vs α).set v none := (rfl)
@[simp] theorem a_add {i j : Int} : ii (fun i j => some (.int (i + j))) (.int i) (.int j) = some (.int (i + j)) := (rfl)
@[simp] theorem a_ii {g : Int → Int → Option D} {i j : Int} : ii g (.int i) (.int j) = g i j := (rfl)
@[simp] theorem a_eqI {i j : Int} : fEq (.int i) (.int j) = some (.bl (decide (i = j))) := by
  simp [fEq, flat, scal, dv]
@[simp] theorem a_neI {i j : Int} : fNe (.int i) (.int j) = some (.bl (!decide (i = j))) := by
  simp [fNe, flat, scal, dv]
@[simp] theorem a_eqS {i j : Str} : fEq (.str i) (.str j) = some (.bl (decide (i = j))) := by
  simp [fEq, flat, scal, dv]
@[simp] theorem a_neS {i j : Str} : fNe (.str i) (.str j) = some (.bl (!decide (i = j))) := by
  simp [fNe, flat, scal, dv]
@[simp] theorem a_eqB {i j : Bool} : fEq (.bl i) (.bl j) = some (.bl (decide (i = j))) := by
  simp [fEq, flat, scal, dv]
@[simp] theorem a_neB {i j : Bool} : fNe (.bl i) (.bl j) = some (.bl (!decide (i = j))) := by
  simp [fNe, flat, scal, dv]
@[simp] theorem a_min2 {i j : Int} : fMin2 [.int i, .int j] = some (.int (if j < i then j else i)) := (rfl)
@[simp] theorem a_max2 {i j : Int} : fMax2 [.int i, .int j] = some (.int (if j > i then j else i)) := (rfl)
@[simp] theorem a_neg {i : Int} : fNeg (.int i) = some (.int (-i)) := (rfl)
@[simp] theorem a_lenOk {β : Type} {xs : List β} : lenOk xs = if xs.length ≤ 100000 then some xs else none := (rfl)
theorem atI_zero {β : Type} {x : β} {xs : List β} : atI (x :: xs) 0 = some x := by
  unfold atI ixN
  rw [if_pos (by decide), if_pos (by simp only [List.length_cons]; omega)]; rfl
theorem atI_nat' {β : Type} {xs : List β} {i : Nat} (h : i < xs.length) : atI xs (i : Int) = some xs[i] := by
  unfold atI ixN
  rw [if_pos (by omega), if_pos (by omega)]
  show xs[((i : Nat) : Int).toNat]? = _
  rw [Int.toNat_natCast, List.getElem?_eq_getElem h]
@[simp] theorem atI0 {β : Type} {x : β} {xs : List β} : atI (x :: xs) 0 = some x := atI_zero
@[simp] theorem atI1 {β : Type} {x y : β} {xs : List β} : atI (x :: y :: xs) 1 = some y := by
  unfold atI ixN
  rw [if_pos (by decide), if_pos (by simp only [List.length_cons]; omega)]; rfl
@[simp] theorem atI2 {β : Type} {x y z : β} {xs : List β} : atI (x :: y :: z :: xs) 2 = some z := by
  unfold atI ixN
  rw [if_pos (by decide), if_pos (by simp only [List.length_cons]; omega)]; rfl
theorem cutD_from {xs : List D} {k : Nat} : cutD xs (some (k : Int)) none = xs.drop k := by
  unfold cutD
  rw [HT.sIx_nat, HT.sIx_none]
  rw [List.take_of_length_le (by rw [List.length_drop]; omega)]
  by_cases h : k ≤ xs.length
  · rw [Nat.min_eq_left h]
  · rw [Nat.min_eq_right (by omega), List.drop_of_length_le (Nat.le_refl _), List.drop_of_length_le (by omega)]
theorem cutD_to {xs : List D} {k : Nat} : cutD xs none (some (k : Int)) = xs.take k := by
  unfold cutD
  rw [HT.sIx_nat, HT.sIx_none]
  rw [List.drop_zero, Nat.sub_zero]
  by_cases h : k ≤ xs.length
  · rw [Nat.min_eq_left h]
  · rw [Nat.min_eq_right (by omega), List.take_of_length_le (Nat.le_refl _), List.take_of_length_le (by omega)]
theorem cutD_mid {xs : List D} {i j : Nat} (h : i ≤ j) : cutD xs (some (i : Int)) (some (j : Int)) = (xs.drop i).take (j - i) := by
  unfold cutD
  rw [HT.sIx_nat, HT.sIx_nat]
  by_cases h1 : i ≤ xs.length
  · rw [Nat.min_eq_left h1]
    by_cases h2 : j ≤ xs.length
    · rw [Nat.min_eq_left h2]
    · rw [Nat.min_eq_right (by omega), List.take_of_length_le (by rw [List.length_drop]; omega), List.take_of_length_le (by rw [List.length_drop]; omega)]
  · rw [Nat.min_eq_right (show xs.length ≤ i by omega), Nat.min_eq_right (show xs.length ≤ j by omega), List.drop_of_length_le (Nat.le_refl _), List.drop_of_length_le (show xs.length ≤ i by omega)]; simp
@[simp] theorem cutD1 {xs : List D} : cutD xs (some 1) none = xs.drop 1 := cutD_from (k := 1)
/-! ### == -/
mutual
theorem eqv_refl : ∀ d : D, PyData.eqv (py d) (py d) = true
  | .non => rfl
  | .bl b => by show (b == b) = true; simp
  | .int b => by show (b == b) = true; simp
  | .str b => by show (b == b) = true; simp
  | .tup xs => by show PyData.eqvAll (pys xs) (pys xs) = true; exact eqvs_refl xs
  | .lst xs => by show PyData.eqvAll (pys xs) (pys xs) = true; exact eqvs_refl xs
  | .ins _ _ => rfl
  | .ty _ => rfl
  | .cls _ => rfl
  | .dic _ => rfl
theorem eqvs_refl : ∀ ds : List D, PyData.eqvAll (pys ds) (pys ds) = true
  | [] => rfl
  | d :: ds => by
    show (PyData.eqv (py d) (py d) && PyData.eqvAll (pys ds) (pys ds)) = true
    rw [eqv_refl d, eqvs_refl ds]; rfl
end
/-! data without truths: == tells it apart -/
mutual
def noBl : D → Bool
  | .bl _ => false | .ins _ _ => false | .ty _ => false | .cls _ => false | .dic _ => false
  | .tup xs => noBls xs | .lst xs => noBls xs
  | _ => true
def noBls : List D → Bool
  | [] => true | d :: ds => noBl d && noBls ds
end
mutual
theorem eqv_eq : ∀ (a b : D), noBl a = true → noBl b = true → PyData.eqv (py a) (py b) = true → a = b
  | .non, b, _, hb, h => by cases b <;> first | rfl | (simp [noBl] at hb; done) | (simp [py, PyData.eqv] at h; done)
  | .int i, b, _, hb, h => by cases b <;> first | (simp [noBl] at hb; done) | (simp [py, PyData.eqv] at h; done) | (simp [py, PyData.eqv] at h; rw [h])
  | .str i, b, _, hb, h => by cases b <;> first | (simp [noBl] at hb; done) | (simp [py, PyData.eqv] at h; done) | (simp [py, PyData.eqv] at h; rw [h])
  | .tup xs, b, ha, hb, h => by
    cases b with
    | tup ys => rw [eqvs_eq xs ys (by simpa [noBl] using ha) (by simpa [noBl] using hb) (by simpa [py, PyData.eqv] using h)]
    | _ => first | (simp [noBl] at hb; done) | (simp [py, PyData.eqv] at h; done)
  | .lst xs, b, ha, hb, h => by
    cases b with
    | lst ys => rw [eqvs_eq xs ys (by simpa [noBl] using ha) (by simpa [noBl] using hb) (by simpa [py, PyData.eqv] using h)]
    | _ => first | (simp [noBl] at hb; done) | (simp [py, PyData.eqv] at h; done)
  | .bl _, _, ha, _, _ => by simp [noBl] at ha
  | .ins _ _, _, ha, _, _ => by simp [noBl] at ha
  | .ty _, _, ha, _, _ => by simp [noBl] at ha
  | .cls _, _, ha, _, _ => by simp [noBl] at ha
  | .dic _, _, ha, _, _ => by simp [noBl] at ha
theorem eqvs_eq : ∀ (a b : List D), noBls a = true → noBls b = true → PyData.eqvAll (pys a) (pys b) = true → a = b
  | [], [], _, _, _ => rfl
  | [], _ :: _, _, _, h => by simp [pys, PyData.eqvAll] at h
  | _ :: _, [], _, _, h => by simp [pys, PyData.eqvAll] at h
  | a :: as, b :: bs, ha, hb, h => by
    simp only [noBls, Bool.and_eq_true] at ha hb
    simp only [pys, PyData.eqvAll, Bool.and_eq_true] at h
    rw [eqv_eq a b ha.1 hb.1 h.1, eqvs_eq as bs ha.2 hb.2 h.2]
end
end
end Ab
end
section
set_option maxRecDepth 100000
set_option maxHeartbeats 1000000
namespace Ab
open PySem L2 PyProof.Rows PySem.Spec
theorem loop_cons' {gt : D → State → Option State} {bl : State → Out} {x : D} {xs : List D} {α α' β : State} (h1 : gt x α = some α') (h2 : bl α' = .nxt β) : loopF gt bl (x :: xs) α = loopF gt bl xs β := by
  conv => lhs; unfold loopF
  simp [h1, h2]
/-- a loop that goes through to its end; P i: what stands when i turns are done -/
theorem loop_all {gt : D → State → Option State} {bl : State → Out} (P : Nat → State → Prop) : ∀ (xs : List D) (i : Nat) (α : State), P i α → (∀ (j : Nat) (x : D) (β : State), xs[j]? = some x → P (i + j) β → ∃ γ δ, gt x β = some γ ∧ bl γ = .nxt δ ∧ P (i + j + 1) δ) → ∃ δ, loopF gt bl xs α = .nxt δ ∧ P (i + xs.length) δ
  | [], i, α, h, _ => ⟨α, rfl, h⟩
  | x :: xs, i, α, h, hs => by
    obtain ⟨γ, δ, h1, h2, h3⟩ := hs 0 x α rfl h
    obtain ⟨ε, h4, h5⟩ := loop_all P xs (i + 1) δ h3 fun j y β hj hp => by
      have := hs (j + 1) y β (by simpa using hj) (by rw [show i + (j + 1) = i + 1 + j by omega]; exact hp)
      obtain ⟨γ, δ, a, b, c⟩ := this
      exact ⟨γ, δ, a, b, by rw [show i + 1 + j + 1 = i + (j + 1) + 1 by omega]; exact c⟩
    exact ⟨ε, (loop_cons' h1 h2).trans h4, by rw [show i + (x :: xs).length = i + 1 + xs.length by simp; omega]; exact h5⟩
/-- the same over a mapped list -/
theorem loop_map {ι : Type} {gt : D → State → Option State} {bl : State → Out} (E : ι → D) (P : Nat → State → Prop) (xs : List ι) (α : State) (h0 : P 0 α) (hs : ∀ (j : Nat) (hj : j < xs.length) (β : State), P j β → ∃ γ δ, gt (E xs[j]) β = some γ ∧ bl γ = .nxt δ ∧ P (j + 1) δ) : ∃ δ, loopF gt bl (xs.map E) α = .nxt δ ∧ P xs.length δ := by
  have := loop_all (gt := gt) (bl := bl) P (xs.map E) 0 α h0 fun j x β hj hp => by
    rw [List.getElem?_map] at hj
    by_cases hl : j < xs.length
    · rw [List.getElem?_eq_getElem hl] at hj
      cases hj
      rw [Nat.zero_add] at hp ⊢
      exact hs j hl β hp
    · rw [List.getElem?_eq_none (by omega)] at hj; cases hj
  simpa using this
/-- range(n) -/
theorem loop_rng {gt : D → State → Option State} {bl : State → Out} (lo : Int) (n : Nat) (P : Nat → State → Prop) (α : State) (h0 : P 0 α) (hs : ∀ (j : Nat), j < n → ∀ (β : State), P j β → ∃ γ δ, gt (.int (lo + (j : Int))) β = some γ ∧ bl γ = .nxt δ ∧ P (j + 1) δ) : ∃ δ, loopF gt bl (rngD lo n) α = .nxt δ ∧ P n δ := by
  have := loop_map (gt := gt) (bl := bl) (fun (k : Nat) => D.int (lo + (k : Int))) P (List.range n) α h0 fun j hj β hp => by
    rw [List.getElem_range]
    exact hs j (by simpa using hj) β hp
  simpa [rngD] using this
theorem lcF_maps {gt : D → State → Option State} {st : State → Option Bool} {se : State → Option D} {α : State} {ι : Type} {E F : ι → D} : ∀ {xs : List ι}, (∀ x ∈ xs, ∃ β, gt (E x) α = some β ∧ st β = some true ∧ se β = some (F x)) → lcF gt st se (xs.map E) α = some (xs.map F)
  | [], _ => rfl
  | x :: xs, h => by
    obtain ⟨β, h1, h0, h2⟩ := h x List.mem_cons_self
    show lcF gt st se (E x :: xs.map E) α = _
    unfold lcF
    rw [h1]
    simp [h0, h2, lcF_maps (xs := xs) fun y m => h y (List.mem_cons_of_mem _ m)]
theorem lcF_filter {gt : D → State → Option State} {st : State → Option Bool} {se : State → Option D} {α : State} {ι : Type} {E F : ι → D} {p : ι → Bool} : ∀ {xs : List ι}, (∀ x ∈ xs, ∃ β, gt (E x) α = some β ∧ st β = some (p x) ∧ (p x = true → se β = some (F x))) → lcF gt st se (xs.map E) α = some ((xs.filter p).map F)
  | [], _ => rfl
  | x :: xs, h => by
    obtain ⟨β, h1, h2, h3⟩ := h x List.mem_cons_self
    show lcF gt st se (E x :: xs.map E) α = _
    unfold lcF
    have ih := lcF_filter (xs := xs) fun y m => h y (List.mem_cons_of_mem _ m)
    rw [h1]
    cases hp : p x
    · rw [hp] at h2
      simp [h2, ih, hp]
    · rw [hp] at h2
      simp [h2, ih, hp, h3 hp]
/-! lists of whole numbers given by a function -/
def df (f : Nat → Int) (n : Nat) : List D := (List.range n).map fun i => .int (f i)
@[simp] theorem df_len {f : Nat → Int} {n : Nat} : (df f n).length = n := by simp [df]
theorem df_get {f : Nat → Int} {n i : Nat} (h : i < n) : (df f n)[i]? = some (.int (f i)) := by
  unfold df; rw [List.getElem?_map, List.getElem?_eq_getElem (by simpa using h)]; simp
theorem df_at {f : Nat → Int} {n j : Nat} {i : Int} (hj : i = j) (h : j < n) : atI (df f n) i = some (.int (f j)) := by
  subst hj
  rw [atI_nat' (by simpa using h)]
  have := df_get (f := f) h
  rw [List.getElem?_eq_getElem (by simpa using h)] at this
  exact this
theorem df_ext {f g : Nat → Int} {n : Nat} (h : ∀ i, i < n → f i = g i) : df f n = df g n := List.map_congr_left fun i hi => by rw [h i (List.mem_range.mp hi)]
theorem df_set {f : Nat → Int} {n i : Nat} {v : Int} : (df f n).set i (.int v) = df (fun x => if x = i then v else f x) n := by
  apply List.ext_getElem?
  intro j
  rw [List.getElem?_set]
  by_cases h : j < n
  · rw [df_get h, df_get h]
    by_cases e : i = j
    · subst e; rw [if_pos rfl, if_pos (by simpa using h), if_pos rfl]
    · rw [if_neg e, if_neg fun z => e z.symm]
  · rw [List.getElem?_eq_none (by simpa using h), List.getElem?_eq_none (by simpa using h)]
    split
    · rw [if_neg (by simpa using (by omega : ¬ i < n))]
    · rfl
theorem df_snoc {f : Nat → Int} {n : Nat} : df f n ++ [.int (f n)] = df f (n + 1) := by
  unfold df; rw [List.range_succ, List.map_append]; rfl
theorem df_ints {f : Nat → Int} {n : Nat} : df f n = ((List.range n).map f).map .int := by
  unfold df; rw [List.map_map]; rfl
theorem ints_df (ns : List Int) : ns.map D.int = df (fun i => ns.getD i 0) ns.length := by
  apply List.ext_getElem?
  intro j
  by_cases h : j < ns.length
  · rw [df_get h, List.getElem?_map, List.getElem?_eq_getElem h, List.getD_eq_getElem?_getD, List.getElem?_eq_getElem h]; rfl
  · rw [List.getElem?_eq_none (by simpa using h), List.getElem?_eq_none (by simpa using h)]
theorem fSum_intsL (ns : List Int) : fSum (ns.map .int) = some (.int ns.sum) := by
  unfold fSum; rw [dints_of]; rfl
theorem ixN_nat {n i : Nat} (h : i < n) : ixN n (i : Int) = some i := by
  unfold ixN
  rw [if_pos (by omega), if_pos (by omega)]
  rfl
theorem toNat_sub' (a b : Nat) : ((a : Int) - (b : Int)).toNat = a - b := by omega
end Ab
end
section
set_option maxRecDepth 100000
set_option maxHeartbeats 1000000
namespace Ab
open PySem L2 PyProof.Rows PySem.Spec
section
variable {e : En} {te : TE} {s : State → Option D}
/-! ### a field of an object that stands still -/
def xFld (c : String) (f : Str) (s : State → Option D) : State → Option D := fun α => match s α with | some (.ins c' fs) => if c' = c then fs.lookup f else none | _ => none
theorem repF_lookup {F : Hp} {f : Str} {d : D} : ∀ {fs : List (Str × D)} {gs : List (Str × V)}, RepF e F fs gs → fs.lookup f = some d → ∃ v, gs.lookup f = some v ∧ Rep e F d v
  | [], _, _, h => by cases h
  | (x, y) :: fs, _, ⟨v, r, q, r1, r2⟩, h => by
    subst q
    rw [List.lookup_cons] at h ⊢
    cases hx : f == x with
    | true => rw [hx] at h; cases h; exact ⟨v, rfl, r1⟩
    | false => rw [hx] at h; exact repF_lookup r2 h
theorem ev_fld {c : String} {f : Str} (hc : Cls e.K (e.cls c)) (hn : NoAttr e.K (e.cls c) f) (h : Evp e te s) : Evp e (tFld e.K te f) (xFld c f s) := fun cn L S σ H α d R q Q k => by
  unfold xFld at q
  split at q
  · rename_i c' fs hs
    split at q
    · rename_i hcc
      subst hcc
      refine h cn L S σ H α _ R hs _ fun v H1 e1 r1 => ?_
      obtain ⟨a, dx, gs, rfl, h2, h3⟩ := r1
      obtain ⟨v, h4, h5⟩ := repF_lookup h3 q
      exact ⟨a, _, dx, gs, v, rfl, fz_le _ _ h2, hc, hn, h4, k v H1 e1 h5⟩
    · cases q
  · cases q
theorem pe_fldK {X : Cx} {K : PySem.W.Frag} (hK : X.K = K) {o : Expr} {f : Str} {pos : Pos} {ta : TE} (he : PE X o ta) (hb : attributeBase o f X.env (eval o X.env) = eval o X.env := by rfl) : PE X (.Attribute o f pos) (tFld K ta f) := hK ▸ pe_fld he hb
/-! ### wide products -/
instance (i j : Int) : Decidable (CMulW i j) := by unfold CMulW; infer_instance
instance (i j : Int) : Decidable (CDivW i j) := by unfold CDivW; infer_instance
abbrev fMulW : D → D → Option D := ii fun i j => if CMulW i j then some (.int (i * j)) else none
abbrev fDivW : D → D → Option D := ii fun i j => if CDivW i j then some (.int (i / j)) else none
theorem rv_mulW : RvD e (rI CMulW fun i j => .int (i * j)) fMulW := rv_I fun _ _ _ => rfl
theorem rv_divW : RvD e (rI CDivW fun i j => .int (i / j)) fDivW := rv_I fun _ _ _ => rfl
@[simp] theorem a_xFld {c : String} {f : Str} {α : State} : xFld c f s α = (match s α with | some (.ins c' fs) => if c' = c then fs.lookup f else none | _ => none) := (rfl)
end
end Ab
end
section
set_option maxRecDepth 100000
set_option maxHeartbeats 1000000
namespace Ab
open PySem L2 PyProof.Rows PySem.Spec
/-- a method with its promise -/
structure CalM (P : Program) (w : World) (K : PySem.W.Frag) (mg : Str → Option Value) (base : Heap) (C : Addr) (m : Str) (ps : List Str) (k : Nat) (sp : Sp) : Prop where
  ex : ∃ f fd, FnOk P w K mg base CX0 k f fd ps sp ∧ Meth K C m f ∧ Binds K fd ps []
section
variable {P : Program} {w : World} {K : PySem.W.Frag} {mg : Str → Option Value} {base : Heap} {C : Addr} {m : Str} {ps : List Str} {k j : Nat} {sp : Sp}
theorem CalM.mono (M : CalM P w K mg base C m ps k sp) (h : k ≤ j) : CalM P w K mg base C m ps j sp := by
  obtain ⟨f, fd, G, r⟩ := M.ex
  exact ⟨f, fd, G.mono h, r⟩
theorem CalM.vacuous {f : Addr} {fd : FuncData} (hm : Meth K C m f) (hb : Binds K fd ps []) (no : ∀ vs H Q E, ¬ sp vs H Q E) : CalM P w K mg base C m ps k sp :=
  ⟨f, fd, ⟨fun vs H Q E h => absurd h (no vs H Q E), fun A outer s H args us vs Q E _ _ _ _ h => absurd h (no vs H Q E)⟩, hm, hb⟩
end
/-- a class that is called: with the promise of its __init__ -/
structure CalI (P : Program) (w : World) (K : PySem.W.Frag) (mg : Str → Option Value) (base : Heap) (x : Str) (C : Addr) (ps : List Str) (k : Nat) (sp : Sp) : Prop where
  ex : ∃ f fd, FnOk P w K mg base CX0 k f fd ps sp ∧ Mk K C f ∧ Binds K fd ps [] ∧ mg x = some (.ref C)
/-- the methods of one name by the classes -/
def tMethV (tbl : List (Addr × Sp)) (mn : Str) (ta : TE) (t : TA) : TE := fun σ H Q => ∃ p ∈ tbl, tMeth p.1 mn p.2 [] E0 ta t σ H Q
section
variable {X : Cx} {C : Addr} {mn x : Str} {ps : List Str} {k j : Nat} {sp : Sp} {ta : TE} {o e : Expr} {es : List Expr} {t : TA} {apos pos p : Pos}
theorem pe_calm {pl : Sem Bool} (he : PE X o ta) (c : Cls X.K C) (M : CalM X.prog X.w X.K X.mg X.base C mn ps k sp) (hr : Room j X.A) (hkj : k ≤ j) (ha : PA X (e :: es) t)
    (hst : starEach (e :: es) X.env = (false, eval e X.env) :: starEach es X.env := by rfl) (hpl : (backTo pos (starEach es X.env)).any (·.1) = false := by rfl)
    (ht : eval (.Call (.Attribute o mn apos) (e :: es) [] pos) X.env = (do
      let ov ← eval o X.env
      standAt apos.atName
      let (f, first) ← holding [ov] (getMethod ov mn pl)
      callWith pos f first (backTo pos (starEach (e :: es) X.env)) (backToKw pos (keywordEach [] X.env))) := by rfl) : PE X (.Call (.Attribute o mn apos) (e :: es) [] pos) (tMeth C mn sp [] E0 ta t) := by
  obtain ⟨f, fd, G, hm, hb⟩ := M.ex
  exact pe_meth (pl := pl) he c hm G (hr.mono hkj) hb .nil pass0 ha hst hpl ht
theorem pe_calm0 {pl : Sem Bool} (he : PE X o ta) (c : Cls X.K C) (M : CalM X.prog X.w X.K X.mg X.base C mn ps k sp) (hr : Room j X.A) (hkj : k ≤ j)
    (ht : eval (.Call (.Attribute o mn apos) [] [] pos) X.env = (do
      let ov ← eval o X.env
      standAt apos.atName
      let (f, first) ← holding [ov] (getMethod ov mn pl)
      callWith pos f first (backTo pos (starEach [] X.env)) (backToKw pos (keywordEach [] X.env))) := by rfl) : PE X (.Call (.Attribute o mn apos) [] [] pos) (tMeth C mn sp [] E0 ta tNil) := by
  obtain ⟨f, fd, G, hm, hb⟩ := M.ex
  exact pe_meth0 (pl := pl) he c hm G (hr.mono hkj) hb .nil pass0 ht
theorem pe_methV {tbl : List (Addr × Sp)} {e0 : Expr} (h : ∀ p ∈ tbl, PE X e0 (tMeth p.1 mn p.2 [] E0 ta t)) : PE X e0 (tMethV tbl mn ta t) := by
  refine ⟨fun pins s σ H Q I ⟨p, hp, q⟩ => ?_⟩
  exact (h p hp).run pins s σ H Q I q
theorem pe_cali (M : CalI X.prog X.w X.K X.mg X.base x C ps k sp) (hr : Room j X.A) (hkj : k + 1 ≤ j) (hg : Gl X x) (ha : PA X (e :: es) t) (hdb : (x == ("__debug__" : Str)) = false := by decide) (he : starEach (e :: es) X.env = (false, eval e X.env) :: starEach es X.env := by rfl) (hpl : (backTo pos (starEach es X.env)).any (·.1) = false := by rfl) :
    PE X (.Call (.Name x p) (e :: es) [] pos) (tMake C sp [] E0 t) := by
  obtain ⟨f, fd, G, M, hb, hm⟩ := M.ex
  exact pe_make M G (hr.mono hkj) hg hm hb .nil pass0 ha hdb he hpl
theorem pe_cali0 (M : CalI X.prog X.w X.K X.mg X.base x C ps k sp) (hr : Room j X.A) (hkj : k + 1 ≤ j) (hg : Gl X x) (hdb : (x == ("__debug__" : Str)) = false := by decide) : PE X (.Call (.Name x p) [] [] pos) (tMake C sp [] E0 tNil) := by
  obtain ⟨f, fd, G, M, hb, hm⟩ := M.ex
  exact pe_make0 M G (hr.mono hkj) hg hm hb .nil pass0 hdb
end
section
variable {e : En} {E : XK} {te to ta tb : TE} {tr : TA} {s so : State → Option D} {sr : State → Option (List D)}
/-! ### methods of objects that stand still -/
def xMeth (tbl : List (String × (List D → Option D))) (mn : Str) (so : State → Option D) (sr : State → Option (List D)) : State → Option D := fun α => bnd (so α) fun o => match o with
  | .ins c fs => (match fs.lookup mn with | none => bnd (tbl.lookup c) fun m => bnd (sr α) fun ds => m (o :: ds) | some _ => none)
  | _ => none
theorem repF_none {F : Hp} {f : Str} : ∀ {fs : List (Str × D)} {gs : List (Str × V)}, RepF e F fs gs → fs.lookup f = none → gs.lookup f = none
  | [], _, r, _ => by cases r; rfl
  | (x, y) :: fs, _, ⟨v, r, q, r1, r2⟩, h => by
    subst q
    rw [List.lookup_cons] at h ⊢
    cases hx : f == x with
    | true => rw [hx] at h; cases h
    | false => rw [hx] at h; exact repF_none r2 h
theorem mem_of_lookup {β : Type} {c : String} {m : β} : ∀ {tbl : List (String × β)}, tbl.lookup c = some m → (c, m) ∈ tbl
  | [], h => by cases h
  | (x, y) :: r, h => by
    rw [List.lookup_cons] at h
    cases hx : c == x with
    | true => rw [hx] at h; cases h; rw [beq_iff_eq.mp hx]; exact List.mem_cons_self
    | false => rw [hx] at h; exact List.mem_cons_of_mem _ (mem_of_lookup h)
def tblT (e : En) (tbl : List (String × (List D → Option D))) : List (Addr × Sp) := tbl.map fun p => (e.cls p.1, spP e p.2)
theorem ev_meth {tbl : List (String × (List D → Option D))} {mn : Str} (ho : Evp e to so) (hr : Eva e tr sr) : Evp e (tMethV (tblT e tbl) mn to tr) (xMeth tbl mn so sr) := fun c L S σ H α d R h Q q => by
  obtain ⟨o, h1, h⟩ := bnd_some h
  split at h
  · rename_i cn fs
    split at h
    · rename_i hn
      obtain ⟨m, h2, h⟩ := bnd_some h
      obtain ⟨ds, h3, h⟩ := bnd_some h
      refine ⟨(e.cls cn, spP e m), List.mem_map.mpr ⟨_, mem_of_lookup h2, rfl⟩, ?_⟩
      refine ho c L S σ H α _ R h1 _ fun v H1 e1 r1 => ?_
      obtain ⟨a, dx, gs, rfl, r2, r3⟩ := id r1
      refine ⟨a, dx, gs, rfl, fz_le _ _ r2, repF_none r3 hn, ?_⟩
      refine hr c L S σ H1 α ds (R.up e1) h3 _ fun vs H2 e2 r4 => ?_
      refine ⟨L, .ins cn fs :: ds, d, dom_up (e1.trans e2) R.dom, by rw [List.append_nil]; exact Reps.cons (Rep.up r1 (fz_same e2)) r4, h, fun v H3 e3 r5 => q v H3 ((e1.trans e2).trans e3) r5⟩
    · cases h
  · cases h
/-! ### a new object -/
def Evb (e : En) (te : TE) (s : State → Option (String × List (Str × D))) : Prop := ∀ c L S σ H α x, Rel e c L S σ H α → s α = some x → ∀ Q : VK, (∀ p dx gs H', Same H H' → H p = none → H' p = some (.ins (e.cls x.1) dx gs) → RepF e (fz (p :: L) H') x.2 gs → Q (.ref p) H') → te σ H Q
def xMake (c : String) (m : List A → MRes) (sr : State → Option (List D)) : State → Option (String × List (Str × D)) := fun α => bnd (sr α) fun ds => match m (.inn (.obj c []) :: ds.map .dat) with
  | .ok (.dat .non) (.inn (.obj c' fs) :: _) => if c' = c then some (c, fs) else none
  | _ => none
theorem asrep_dats {L S : List Addr} {H : Hp} : ∀ {ds : List D} {vs : List V}, Reps e (fz L H) ds vs → AsRep e L S H (ds.map A.dat) vs
  | [], _, r => r
  | d :: ds, _, ⟨v, w, q, r1, r2⟩ => ⟨v, w, q, r1, asrep_dats r2⟩
theorem count_dats : ∀ ds : List D, innCount (ds.map A.dat) = 0
  | [] => rfl
  | d :: ds => count_dats ds
theorem eb_make {c : String} {m : List A → MRes} (hr : Eva e tr sr) : Evb e (tMake (e.cls c) (spM e m) [] E tr) (xMake c m sr) := fun cn L S σ H α x R h Q q => by
  obtain ⟨ds, h1, h⟩ := bnd_some h
  refine hr cn L S σ H α ds R h1 _ fun vs H1 e1 r1 => fun p dx hp hdx hne => ?_
  have R1 := R.up e1
  have hpL : p ∉ L := fresh_nL R1.dom hp
  have hdL : dx ∉ L := fresh_nL R1.dom hdx
  have sN : Same H1 (upd (upd H1 dx (.own p)) p (.ins (e.cls c) dx [])) := fun b o z => by rw [upd_ne (ne_of_none z hp), upd_ne (ne_of_none z hdx)]; exact z
  refine ⟨p :: L, [p], .inn (.obj c []) :: ds.map .dat, fun b hb => ?_, fun b hb => by simp at hb; subst hb; simp, by simp only [innCount, count_dats]; omega, ⟨.ref p, vs ++ [], rfl, ⟨p, _, rfl, by simp, upd_same, ⟨dx, [], rfl, rfl⟩⟩, by rw [List.append_nil]; exact asrep_dats (r1.up (fz_cons sN hp))⟩, ?_, ?_, ?_⟩
  · rcases List.mem_cons.mp hb with rfl | hb
    · rw [upd_same]; simp
    · exact (dom_up sN R1.dom) b hb
  · intro r as' hm v H' md ar rr
    rw [hm] at h
    split at h
    · rename_i c' fs rest heq
      split at h
      · rename_i hcc
        cases h
        cases heq
        obtain ⟨v0, w0, q0, ⟨p0, o0, q1, m0, ho, rc⟩, _⟩ := ar
        cases q0
        cases q1
        obtain ⟨dx', gs, rfl, rF⟩ := rc
        have hpH : H p = none := none_back e1 hp
        refine ⟨rr, q p dx' gs H' (fun b o z => ?_) hpH (by rw [ho, hcc]) rF⟩
        have z1 := e1 b o z
        exact md b o (sN b o z1) (by simp only [List.mem_singleton]; exact ne_of_none z1 hp)
      · cases h
    · cases h
  · intro x' hm
    rw [hm] at h
    cases h
  · intro hm
    rw [hm] at h
    cases h
def xIns (s : State → Option (String × List (Str × D))) : State → Option D := fun α => (s α).map fun x => .ins x.1 x.2
theorem eb_x {s : State → Option (String × List (Str × D))} (h : Evb e te s) : Evp e te (xIns s) := fun c L S σ H α d R q Q k => by
  unfold xIns at q
  cases hs : s α with
  | none => rw [hs] at q; cases q
  | some x =>
    rw [hs] at q; cases q
    refine h c L S σ H α x R hs _ fun p dx gs H' e1 n hp r => k _ H' e1 ⟨p, dx, gs, rfl, fz_new (fresh_nL R.dom n) hp, RepF.mono (fz_anti fun a m => List.mem_cons_of_mem _ m) _ _ r⟩
/-- x = C(..), the object x's own -/
def sSetB (i : Nat) (s : State → Option (String × List (Str × D))) : State → Out := fun α => match s α with | some x => .nxt (α.set i (some (.own (.obj x.1 x.2)))) | none => .bad
theorem st_setB {i : Nat} {s : State → Option (String × List (Str × D))} (h : Evb e te s) : Sts e E (tAsg te (gName i)) (sSetB i s) := fun c L S σ H α D R k => by
  unfold sSetB at k
  cases hs : s α with
  | none => rw [hs] at k; exact k.elim
  | some x =>
    rw [hs] at k
    refine h c L S σ H α x R hs _ fun p dx gs H' e1 n hp r => ?_
    exact k (p :: L) (p :: S) _ H' (fz_cons e1 n) (R.setO e1 n hp ⟨dx, gs, rfl, r⟩)
/-! ### an own object's fields -/
def xFldO (i : Nat) (c : String) (f : Str) : State → Option D := fun α => match ctOf α[i]? with | some (.obj c' fs) => if c' = c then fs.lookup f else none | _ => none
theorem ev_fldO (i : Nat) {c : String} {f : Str} (hc : Cls e.K (e.cls c)) (hn : NoAttr e.K (e.cls c) f) : Evp e (tFld e.K (tVar i) f) (xFldO i c f) := fun cn L S σ H α d R h Q q => by
  unfold xFldO at h
  split at h
  · rename_i c' fs hs
    split at h
    · rename_i hcc
      subst hcc
      obtain ⟨p, o, h1, _, h3, dx, gs, rfl, h4⟩ := R.at hs
      obtain ⟨v, h5, h6⟩ := repF_lookup h4 h
      exact ⟨_, h1, p, _, dx, gs, v, rfl, h3, hc, hn, h5, q v H (Same.refl H) h6⟩
    · cases h
  · cases h
def putD (f : Str) (d : D) : List (Str × D) → List (Str × D)
  | [] => [(f, d)]
  | (g, x) :: r => if g = f then (g, d) :: r else (g, x) :: putD f d r
theorem repF_put {F : Hp} {f : Str} {d : D} {v : V} (r : Rep e F d v) : ∀ {fs : List (Str × D)} {gs : List (Str × V)}, RepF e F fs gs → RepF e F (putD f d fs) (putF f v gs)
  | [], _, q => by cases q; exact ⟨v, [], rfl, r, rfl⟩
  | (x, y) :: fs, _, ⟨u, w, q, r1, r2⟩ => by
    subst q
    unfold putD putF
    by_cases h : x = f
    · rw [if_pos h, if_pos h]; exact ⟨v, w, rfl, r, r2⟩
    · rw [if_neg h, if_neg h]; exact ⟨u, _, rfl, r1, repF_put r r2⟩
theorem repF_len {F : Hp} : ∀ {fs : List (Str × D)} {gs : List (Str × V)}, RepF e F fs gs → gs.length = fs.length
  | [], _, r => by cases r; rfl
  | (x, y) :: fs, _, ⟨u, w, q, r1, r2⟩ => by subst q; simp [repF_len r2]
/-- x.f = e, x's own object -/
def sFldO (i : Nat) (c : String) (f : Str) (s : State → Res D) : State → Out := fun α => match s α with
  | .ok d α' => (match ctOf α'[i]? with | some (.obj c' fs) => if c' = c ∧ fs.length < 1000 then .nxt (putC α' i (.obj c (putD f d fs))) else .bad | _ => .bad)
  | .exc x => .exc x | .bad => .bad
theorem st_fldO {i : Nat} {c : String} {f : Str} {s : State → Res D} (hc : Cls e.K (e.cls c)) (hn : NoAttr e.K (e.cls c) f) (h : Eve e E te s) : Sts e E (sFld e.K (tVar i) te f) (sFldO i c f s) := fun cn L S σ H α D R k => by
  unfold sFldO at k
  refine h cn L S σ H α R _ (fun d α' hs v H' m R' rv => ?_) (fun x hx => by rw [hx] at k; exact k) (fun hb => by rw [hb] at k; exact k)
  rw [hs] at k
  dsimp only at k
  split at k
  · rename_i c' fs hx
    split at k
    · rename_i hcc
      obtain ⟨hcc, hl⟩ := hcc
      subst hcc
      obtain ⟨p, o, h1, mS, ho, dx, gs, rfl, rF⟩ := R'.at hx
      refine ⟨_, h1, p, _, dx, gs, rfl, ho, hc, hn, by rw [repF_len rF]; exact hl, ?_⟩
      obtain ⟨R2, m2⟩ := R'.mut hx h1 (o := .ins (e.cls c') dx (putF f v gs)) (ct' := .obj c' (putD f d fs)) ⟨dx, _, rfl, repF_put rv rF⟩
      exact k L S σ _ ((fz_mod m R.sub).trans (fz_mod m2 R'.sub)) R2
    · exact k.elim
  · exact k.elim
/-- the same for an object of one of several classes -/
def xFldOV (i : Nat) (cs : List String) (f : Str) : State → Option D := fun α => match ctOf α[i]? with | some (.obj c' fs) => if c' ∈ cs then fs.lookup f else none | _ => none
theorem ev_fldOV (i : Nat) {cs : List String} {f : Str} (hc : ∀ c ∈ cs, Cls e.K (e.cls c) ∧ NoAttr e.K (e.cls c) f) : Evp e (tFld e.K (tVar i) f) (xFldOV i cs f) := fun cn L S σ H α d R h Q q => by
  unfold xFldOV at h
  split at h
  · rename_i c' fs hs
    split at h
    · rename_i hcc
      obtain ⟨p, o, h1, _, h3, dx, gs, rfl, h4⟩ := R.at hs
      obtain ⟨v, h5, h6⟩ := repF_lookup h4 h
      exact ⟨_, h1, p, _, dx, gs, v, rfl, h3, (hc _ hcc).1, (hc _ hcc).2, h5, q v H (Same.refl H) h6⟩
    · cases h
  · cases h
def sFldOV (i : Nat) (cs : List String) (f : Str) (s : State → Res D) : State → Out := fun α => match s α with
  | .ok d α' => (match ctOf α'[i]? with | some (.obj c' fs) => if c' ∈ cs ∧ fs.length < 1000 then .nxt (putC α' i (.obj c' (putD f d fs))) else .bad | _ => .bad)
  | .exc x => .exc x | .bad => .bad
theorem st_fldOV {i : Nat} {cs : List String} {f : Str} {s : State → Res D} (hc : ∀ c ∈ cs, Cls e.K (e.cls c) ∧ NoAttr e.K (e.cls c) f) (h : Eve e E te s) : Sts e E (sFld e.K (tVar i) te f) (sFldOV i cs f s) := fun cn L S σ H α D R k => by
  unfold sFldOV at k
  refine h cn L S σ H α R _ (fun d α' hs v H' m R' rv => ?_) (fun x hx => by rw [hx] at k; exact k) (fun hb => by rw [hb] at k; exact k)
  rw [hs] at k
  dsimp only at k
  split at k
  · rename_i c' fs hx
    split at k
    · rename_i hcc
      obtain ⟨hcc, hl⟩ := hcc
      obtain ⟨p, o, h1, mS, ho, dx, gs, rfl, rF⟩ := R'.at hx
      refine ⟨_, h1, p, _, dx, gs, rfl, ho, (hc _ hcc).1, (hc _ hcc).2, by rw [repF_len rF]; exact hl, ?_⟩
      obtain ⟨R2, m2⟩ := R'.mut hx h1 (o := .ins (e.cls c') dx (putF f v gs)) (ct' := .obj c' (putD f d fs)) ⟨dx, _, rfl, repF_put rv rF⟩
      exact k L S σ _ ((fz_mod m R.sub).trans (fz_mod m2 R'.sub)) R2
    · exact k.elim
  · exact k.elim
/-- the same where the value is a new list, which becomes data -/
theorem pe_ps_fldK {X : Cx} {K : PySem.W.Frag} (hK : X.K = K) {o value : Expr} {f : Str} {pos pos' : Pos} {to tv : TE} (ho : PE X o to) (hv : PE X value tv) (hs : swapsWith value (some (.Attribute o f pos')) pos.line X.env = pure false := by rfl) : PS X (.Assign [.Attribute o f pos'] value pos) (sFld K to tv f) := hK ▸ ps_fld ho hv hs
/-! ### a method of an own object, that may change it -/
def rMethM (i : Nat) (c : String) (mn : Str) (m : List A → MRes) (sr : State → Res (List Arg)) : State → Res D := fun α => match ctOf α[i]? with
  | some (.obj c' fs) => if c' = c ∧ fs.lookup mn = none then rCallM m (aslot i sr) α else .bad
  | _ => .bad
theorem ee_methM {i : Nat} {c : String} {mn : Str} {m : List A → MRes} {sr : State → Res (List Arg)} (h : EvaE e E tr sr) : Eve e E (tMeth (e.cls c) mn (spM e m) [] E (tVar i) tr) (rMethM i c mn m sr) := fun cn L S σ H α R Q k kx nb => by
  unfold rMethM at k kx nb
  split at nb
  · rename_i c' fs hs
    split at nb
    · rename_i hcc
      simp only [hs, if_pos hcc] at k kx
      obtain ⟨hcc, hnone⟩ := hcc
      subst hcc
      obtain ⟨p, o, h1, mS, ho, dx, gs, rfl, rF⟩ := R.at hs
      have hmain := ee_callM (m := m) (eae_slot i h) cn L S σ H α R Q k kx nb
      obtain ⟨v, hv, hmain⟩ := hmain
      rw [h1] at hv
      cases hv
      exact ⟨_, h1, p, dx, gs, rfl, ho, repF_none rF hnone, hmain⟩
    · exact absurd rfl nb
  · exact absurd rfl nb
/-! ### the same where nothing is let out -/
def noExcM (m : List A → MRes) : List A → MRes := fun as => match m as with | .exc _ => .bad | o => o
theorem spM_noExc {m : List A → MRes} {vs : List V} {H : Hp} {Q : VK} {E E' : XK} (h : spM e (noExcM m) vs H Q E) : spM e m vs H Q E' := by
  obtain ⟨L, S, as, dm, sub, hc, r, hq, hx, hb⟩ := h
  unfold noExcM at hq hx hb
  refine ⟨L, S, as, dm, sub, hc, r, fun r' as' hm => hq r' as' (by rw [hm]), fun x hm => ?_, fun hm => hb (by rw [hm])⟩
  rw [hm] at hb
  exact absurd rfl hb
def stepM (m : List A → MRes) (as : List Arg) (α1 : State) : Res D := match slots as with
    | [i] => (match toAs as α1 with
      | some bs => (match m bs with
        | .ok (.dat d) bs' => (match bs'.find? (fun b => match b with | .inn _ => true | _ => false) with | some (.inn ct) => .ok d (putC α1 i ct) | _ => .bad)
        | .exc x => .exc x
        | _ => .bad)
      | none => .bad)
    | _ => .bad
theorem callM_step {m : List A → MRes} {c : Cn} {L S : List Addr} {σ : L2.St} {H1 : Hp} {α1 : State} {as : List Arg} {vs : List V} {Q : VK} (R1 : Rel e c L S σ H1 α1) (r1 : ArgsRep e L σ H1 as vs)
    (k : ∀ d α', stepM m as α1 = .ok d α' → ∀ v H', Mod S H1 H' → Rel e c L S σ H' α' → Rep e (fz L H') d v → Q v H') (kx : ∀ x, stepM m as α1 = .exc x → XOk e c E x) (nb : stepM m as α1 ≠ .bad) : spM e m vs H1 Q E := by
  unfold stepM at k kx nb
  split at nb
  · rename_i i hi
    simp only [hi] at k kx
    split at nb
    · rename_i bs hbs
      simp only [hbs] at k kx
      obtain ⟨ct, hct⟩ := slots_own R1 hbs i (by rw [hi]; exact List.mem_cons_self)
      obtain ⟨p, o, hp, mS, ho, rc⟩ := R1.at hct
      obtain ⟨ar, hcount⟩ := toAs_rep (T := [p]) R1 (fun j hj q hq => by
        rw [hi] at hj
        have : j = i := by simpa using hj
        subst this
        rw [hp] at hq; cases hq; simp) hbs r1
      rw [hi] at hcount
      refine ⟨L, [p], bs, R1.dom, fun q hq => by have : q = p := by simpa using hq
                                                 subst this; exact R1.sub _ mS, by rw [hcount]; exact Nat.le_refl _, ar, fun r as' hm v H' md ar' rr => ?_, fun x hm cls' dd H' md xr fr => ?_, fun hb => nb (by rw [hb])⟩
      · rw [hm] at k nb
        cases r with
        | lst xs => exact absurd rfl nb
        | dat d =>
          dsimp only at k nb
          split at nb
          · rename_i ct' hf
            simp only [hf] at k
            obtain ⟨p', o', mp, ho', rc'⟩ := find_inn ar' hf
            have : p' = p := by simpa using mp
            subst this
            obtain ⟨R2, m2⟩ := R1.mutM hct hp md ho' rc'
            exact k d _ rfl v H' m2 R2 rr
          · exact absurd rfl nb
      · rw [hm] at kx
        refine kx x rfl cls' dd H' ?_ ⟨xr.1, xr.2.elim .inl fun ⟨q, gs, a1, a2, a3⟩ => .inr ⟨q, gs, a1, a2, RepF.mono (fz_anti R1.l0) _ _ a3⟩⟩ (fun p hp => R1.h0 (fr p hp))
        intro a u q n
        refine md a u (R1.md a u q n) fun z => ?_
        have : a = p := by simpa using z
        subst this
        rcases R1.s1 a mS with z | z
        · exact n z
        · rw [q] at z; cases z
    · exact absurd rfl nb
  · exact absurd rfl nb
theorem rCallM_step {m : List A → MRes} {sr : State → Res (List Arg)} {α : State} : rCallM m sr α = (match sr α with | .ok as α1 => stepM m as α1 | .exc x => .exc x | .bad => .bad) := rfl
theorem ee_callM0 {m : List A → MRes} {sr : State → Res (List Arg)} (h : EvaE e E tr sr) : Eve e E (tCall (spM e m) [] E0 tr) (rCallM (noExcM m) sr) := fun c L S σ H α R Q k kx nb => by
  simp only [rCallM_step] at k kx nb
  refine h c L S σ H α R _ (fun as α1 hs vs H1 m1 R1 r1 => ?_) (fun x hx => kx x (by rw [hx])) (fun hb => nb (by rw [hb]))
  rw [hs] at k kx nb
  dsimp only at k kx nb
  show spM e m (vs ++ []) H1 Q E0
  rw [List.append_nil]
  exact spM_noExc (E := E) (callM_step R1 r1 (fun d α' hd v H' md R' rv => k d α' hd v H' (m1.trans md) R' rv) kx nb)
theorem ee_methM0 {i : Nat} {c : String} {mn : Str} {m : List A → MRes} {sr : State → Res (List Arg)} (h : EvaE e E tr sr) : Eve e E (tMeth (e.cls c) mn (spM e m) [] E0 (tVar i) tr) (rMethM i c mn (noExcM m) sr) := fun cn L S σ H α R Q k kx nb => by
  unfold rMethM at k kx nb
  split at nb
  · rename_i c' fs hs
    split at nb
    · rename_i hcc
      simp only [hs, if_pos hcc] at k kx
      obtain ⟨hcc, hnone⟩ := hcc
      subst hcc
      obtain ⟨p, o, h1, mS, ho, dx, gs, rfl, rF⟩ := R.at hs
      simp only [rCallM_step] at k kx nb
      refine ⟨_, h1, p, dx, gs, rfl, ho, repF_none rF hnone, ?_⟩
      have hmain := eae_slot i h cn L S σ H α R (fun vs H1 => spM e m vs H1 Q E0) (fun as α1 hs vs H1 m1 R1 r1 => by
        rw [hs] at k kx nb
        dsimp only at k kx nb
        exact spM_noExc (E := E) (callM_step R1 r1 (fun d α' hd v H' md R' rv => k d α' hd v H' (m1.trans md) R' rv) kx nb)) (fun x hx => kx x (by rw [hx])) (fun hb => nb (by rw [hb]))
      obtain ⟨v, hv, hmain⟩ := hmain
      rw [h1] at hv
      cases hv
      show tr σ H fun vs H2 => spM e m (V.ref p :: (vs ++ [])) H2 Q E0
      simpa using hmain
    · exact absurd rfl nb
  · exact absurd rfl nb
theorem no_M {m : List A → MRes} (h : ∀ as, m as = .bad) : ∀ vs H Q E, ¬ spM e m vs H Q E := fun vs H Q E ⟨_, _, as, _, _, _, _, _, _, hb⟩ => hb (h as)
/-- a field of one of several classes -/
def xFldV (cs : List String) (f : Str) (s : State → Option D) : State → Option D := fun α => match s α with | some (.ins c' fs) => if c' ∈ cs then fs.lookup f else none | _ => none
theorem ev_fldV {cs : List String} {f : Str} (hc : ∀ c ∈ cs, Cls e.K (e.cls c) ∧ NoAttr e.K (e.cls c) f) (h : Evp e te s) : Evp e (tFld e.K te f) (xFldV cs f s) := fun cn L S σ H α d R q Q k => by
  unfold xFldV at q
  split at q
  · rename_i c' fs hs
    split at q
    · rename_i hcc
      refine h cn L S σ H α _ R hs _ fun v H1 e1 r1 => ?_
      obtain ⟨a, dx, gs, rfl, h2, h3⟩ := r1
      obtain ⟨v, h4, h5⟩ := repF_lookup h3 q
      exact ⟨a, _, dx, gs, v, rfl, fz_le _ _ h2, (hc _ hcc).1, (hc _ hcc).2, h4, k v H1 e1 h5⟩
    · cases q
  · cases q
theorem isiT_q {X : Cx} {K : PySem.W.Frag} (h : X.K = K) : CallR X (.builtin "isinstance") (rIsiT K) := h ▸ call_isiT
@[simp] theorem a_xFldV {cs : List String} {f : Str} {α : State} : xFldV cs f s α = (match s α with | some (.ins c' fs) => if c' ∈ cs then fs.lookup f else none | _ => none) := (rfl)
/-! ### isinstance of own classes -/
structure InsK (K : PySem.W.Frag) (C : Addr) : Prop where
  cl : Cls K C
  ha : PySem.W.findIn K (.ref C) "__class__" = some (some (.builtin "object.__class__"))
  hm : PySem.W.mroIn K C (.type "object") = some true
structure InsB (K : PySem.W.Frag) : Prop where
  hn : PySem.W.specialIn K (.builtin "object.__class__") "__get__" = some (some (.builtin "getset_descriptor.__get__"))
  htk : PySem.W.takesIn K (.builtin "object.__class__") = some true
def fIsC (c0 : String) (tbl : List (String × Bool)) : List D → Option D := fun ds => match ds with | [.ins c fs, .cls c1] => if c1 = c0 then (tbl.lookup c).map .bl else none | _ => none
theorem rc_isC {c0 : String} {tbl : List (String × Bool)} (B : InsB e.K) (h : ∀ p ∈ tbl, InsK e.K (e.cls p.1) ∧ PySem.W.kitOne e.K (.ref (e.cls p.1)) (.ref (e.cls c0)) = some p.2) : RcD e (rIsi e.K) (fIsC c0 tbl) := fun L H ds vs d dm r q Q k => by
  unfold fIsC at q
  split at q
  · rename_i c fs c1
    split at q
    · rename_i hcc
      subst hcc
      cases hl : tbl.lookup c with
      | none => rw [hl] at q; cases q
      | some b =>
        rw [hl] at q; cases q
        obtain ⟨v, w, rfl, r1, v2, w2, rfl, r2, rfl⟩ := r
        obtain ⟨a, dx, gs, rfl, h1, h2⟩ := r1
        cases r2
        obtain ⟨I, hk⟩ := h _ (mem_of_lookup hl)
        exact ⟨.ref a, .ref _, .ref _, .ref _, b, rfl, .own _, .base (.ins (fz_le _ _ h1) I.cl I.ha B.hn B.htk I.hm), hk, k _ H (Same.refl H) rfl⟩
    · cases q
  · cases q
theorem ev_cls {c : String} : Evp e (tC (.ref (e.cls c))) (xC (.cls c)) := ev_c fun _ => rfl
/-- isinstance(x, (C, ..)) -/
def xIsT (cs : List String) (tbl : List (String × Bool)) (s : State → Option D) : State → Option D := fun α => match s α with | some (.ins c fs) => (tbl.lookup c).map .bl | _ => none
theorem ev_isT {cs : List String} {tbl : List (String × Bool)} (hc : cs.length ≤ 1000) (B : InsB e.K) (h : ∀ p ∈ tbl, InsK e.K (e.cls p.1) ∧ PySem.W.kitAny e.K (.ref (e.cls p.1)) (cs.map fun c => .ref (e.cls c)) = some p.2) (hs : Evp e te s) {tcs : TA} (ht : Eva e tcs (fun _ => some (cs.map .cls))) :
    Evp e (tCB (rIsiT e.K) (tCons te (tCons (tTup tcs) tNil))) (xIsT cs tbl s) := fun cn L S σ H α d R q Q k => by
  unfold xIsT at q
  split at q
  · rename_i c fs hx
    cases hl : tbl.lookup c with
    | none => rw [hl] at q; cases q
    | some b =>
      rw [hl] at q; cases q
      refine hs cn L S σ H α _ R hx _ fun v H1 e1 r1 => ?_
      refine ht cn L S σ H1 α _ (R.up e1) rfl _ fun vs H2 e2 r2 => ⟨by rw [r2.len, List.length_map]; exact Nat.le_trans hc (by decide), fun p hp => ?_⟩
      have s2 : Same H2 (upd H2 p (.tup vs)) := same_upd hp
      obtain ⟨a, dx, gs, rfl, h1, h2⟩ := r1
      obtain ⟨I, hk⟩ := h _ (mem_of_lookup hl)
      have hpr : ∀ (cs : List String) (vs : List V), Reps e (fz L H2) (cs.map .cls) vs → Paired ClsV vs (cs.map fun c => .ref (e.cls c)) := by
        intro cs
        induction cs with
        | nil => intro vs r; cases r; exact .nil
        | cons c cs ih =>
          intro vs r
          obtain ⟨v, w, rfl, r3, r4⟩ := r
          cases r3
          exact .cons (.own _) (ih w r4)
      exact ⟨.ref a, p, vs, .ref _, _, b, rfl, upd_same, hpr cs vs r2, .base (.ins (s2 _ _ (e2 _ _ (fz_le _ _ h1))) I.cl I.ha B.hn B.htk I.hm), hk, k _ _ ((e1.trans e2).trans s2) rfl⟩
  · cases q
/-- a statement that is never reached -/
def sBad : State → Out := fun _ => .bad
theorem ps_bad {X : Cx} {st : Stmt} : PS X st (fun _ _ _ => False) := ⟨fun _ _ _ _ _ _ h => h.elim⟩
theorem st_bad : Sts e E (fun _ _ _ => False) sBad := fun c L S σ H α D R k => k
end
section
variable {α : State} {i : Nat} {so : State → Option D} {sr : State → Option (List D)} {s : State → Option (String × List (Str × D))} {r : State → Res D} {ra : State → Res (List Arg)}
@[simp] theorem a_xMeth {tbl : List (String × (List D → Option D))} {mn : Str} : xMeth tbl mn so sr α = bnd (so α) fun o => match o with
  | .ins c fs => (match fs.lookup mn with | none => bnd (tbl.lookup c) fun m => bnd (sr α) fun ds => m (o :: ds) | some _ => none)
  | _ => none := (rfl)
@[simp] theorem a_xMake {c : String} {m : List A → MRes} : xMake c m sr α = bnd (sr α) fun ds => match m (.inn (.obj c []) :: ds.map .dat) with
  | .ok (.dat .non) (.inn (.obj c' fs) :: _) => if c' = c then some (c, fs) else none
  | _ => none := (rfl)
@[simp] theorem a_xIns : xIns s α = (s α).map fun x => .ins x.1 x.2 := (rfl)
@[simp] theorem a_sSetB : sSetB i s α = (match s α with | some x => .nxt (α.set i (some (.own (.obj x.1 x.2)))) | none => .bad) := (rfl)
@[simp] theorem a_xFldO {c : String} {f : Str} : xFldO i c f α = (match ctOf α[i]? with | some (.obj c' fs) => if c' = c then fs.lookup f else none | _ => none) := (rfl)
@[simp] theorem a_sFldO {c : String} {f : Str} : sFldO i c f r α = (match r α with
  | .ok d α' => (match ctOf α'[i]? with | some (.obj c' fs) => if c' = c ∧ fs.length < 1000 then .nxt (putC α' i (.obj c (putD f d fs))) else .bad | _ => .bad)
  | .exc x => .exc x | .bad => .bad) := (rfl)
@[simp] theorem a_xFldOV {cs : List String} {f : Str} : xFldOV i cs f α = (match ctOf α[i]? with | some (.obj c' fs) => if c' ∈ cs then fs.lookup f else none | _ => none) := (rfl)
@[simp] theorem a_sFldOV {cs : List String} {f : Str} : sFldOV i cs f r α = (match r α with
  | .ok d α' => (match ctOf α'[i]? with | some (.obj c' fs) => if c' ∈ cs ∧ fs.length < 1000 then .nxt (putC α' i (.obj c' (putD f d fs))) else .bad | _ => .bad)
  | .exc x => .exc x | .bad => .bad) := (rfl)
@[simp] theorem a_rMethM {c : String} {mn : Str} {m : List A → MRes} : rMethM i c mn m ra α = (match ctOf α[i]? with
  | some (.obj c' fs) => if c' = c ∧ fs.lookup mn = none then rCallM m (aslot i ra) α else .bad
  | _ => .bad) := (rfl)
@[simp] theorem a_xIsT {cs : List String} {tbl : List (String × Bool)} : xIsT cs tbl so α = (match so α with | some (.ins c fs) => (tbl.lookup c).map .bl | _ => none) := (rfl)
@[simp] theorem a_sBad : sBad α = .bad := (rfl)
end
theorem runM_ret {n k : Nat} {s : State → Out} {as as' : List A} {r : RetV} {β : State} (hk : as.length = k) (h : s (inM n k as) = .ret r β) (hb : backA as β = some as') : runM n k s as = .ok r as' := by
  unfold runM; rw [if_pos hk, h]; dsimp only; rw [hb]
theorem runM_nxt {n k : Nat} {s : State → Out} {as as' : List A} {β : State} (hk : as.length = k) (h : s (inM n k as) = .nxt β) (hb : backA as β = some as') : runM n k s as = .ok (.dat .non) as' := by
  unfold runM; rw [if_pos hk, h]; dsimp only; rw [hb]
theorem noExc_ok {m : List A → MRes} {as as' : List A} {r : RetV} (h : m as = .ok r as') : noExcM m as = .ok r as' := by unfold noExcM; rw [h]
end Ab
end
section
set_option maxRecDepth 100000
set_option maxHeartbeats 1000000
namespace Ab
open PySem L2 PyProof.Rows PySem.Spec
section
variable {e : En} {te : TE} {s : State → Option D} {tl th : TO} {sl sh : State → Option (Option Int)}
/-! ### texts -/
def Str.l (z : Str) : List Nat := z.cps.toList
def fInS (neg : Bool) : D → D → Option D := fun a b => match a, b with
  | .str z, .str y => (match z.cps.toList with | [c] => some (.bl (if neg then !decide (c ∈ y.cps.toList) else decide (c ∈ y.cps.toList))) | _ => none)
  | _, _ => none
theorem one_of {z : Str} {c : Nat} (h : z.cps.toList = [c]) : z = ⟨#[c]⟩ := by
  cases z with
  | mk cps => congr 1; exact Array.toList_inj.mp h
theorem rv_ins : RvD e (fun x y H Q => ∃ (c : Nat) (z : Str), x = .str ⟨#[c]⟩ ∧ y = .str z ∧ Q (.bl (decide (c ∈ z.cps.toList))) H) (fInS false) := fun L H dx dy x y d dm rx ry h Q q => by
  unfold fInS at h
  split at h
  · split at h
    · rename_i hz
      cases h; cases rx; cases ry
      exact ⟨_, _, by rw [one_of hz], rfl, q _ H (Same.refl H) rfl⟩
    · cases h
  · cases h
theorem rv_nis : RvD e (fun x y H Q => ∃ (c : Nat) (z : Str), x = .str ⟨#[c]⟩ ∧ y = .str z ∧ Q (.bl (!decide (c ∈ z.cps.toList))) H) (fInS true) := fun L H dx dy x y d dm rx ry h Q q => by
  unfold fInS at h
  split at h
  · split at h
    · rename_i hz
      cases h; cases rx; cases ry
      exact ⟨_, _, by rw [one_of hz], rfl, q _ H (Same.refl H) rfl⟩
    · cases h
  · cases h
def xSlS (s : State → Option D) (sl sh : State → Option (Option Int)) : State → Option D := fun α => bnd (s α) fun d => bnd (sl α) fun lo => bnd (sh α) fun hi => match d with
  | .str z => if z.length ≤ 100000 then some (.str (cutS z lo hi)) else none
  | _ => none
theorem ev_slS (h : Evp e te s) (hl : Evo e tl sl) (hh : Evo e th sh) : Evp e (L2.tSl rSlS te tl th) (xSlS s sl sh) := fun c L S σ H α d R q Q k => by
  obtain ⟨x, h1, q⟩ := bnd_some q
  obtain ⟨lo, h2, q⟩ := bnd_some q
  obtain ⟨hi, h3, q⟩ := bnd_some q
  refine h c L S σ H α x R h1 _ fun v H1 e1 r1 => ?_
  refine hl c L S σ H1 α lo (R.up e1) h2 _ fun H2 e2 => ?_
  refine hh c L S σ H2 α hi (R.up (e1.trans e2)) h3 _ fun H3 e3 => ?_
  split at q
  · split at q
    · rename_i hz
      cases q; cases r1
      exact ⟨_, rfl, sz_of hz, k _ H3 (e1.trans (e2.trans e3)) rfl⟩
    · cases q
  · cases q
def signs (z : Str) : List D := z.cps.toList.map fun c => .str ⟨#[c]⟩
def xSigns (s : State → Option D) : State → Option (List D) := fun α => match s α with | some (.str z) => some (signs z) | _ => none
theorem ei_str (h : Evp e te s) : Evi e (iStr te) (xSigns s) := fun c L S σ H α xs R q W k => by
  unfold xSigns at q
  split at q
  · rename_i z hs
    cases q
    refine h c L S σ H α _ R hs _ fun v H' e1 r => ?_
    cases r
    refine ⟨z, rfl, k _ H' e1 fun L2 H2 s2 _ i => ⟨fun hi => ?_, fun hi => ?_, fun x v H3 hx ⟨e3, c, hc, ev⟩ => ?_⟩⟩
    · show i < z.cps.size
      simpa [signs] using hi
    · show z.cps.size ≤ i
      simpa [signs] using hi
    · subst e3 ev
      refine ⟨Same.refl _, ?_⟩
      unfold signs at hx
      rw [List.getElem?_map, Array.getElem?_toList, hc] at hx
      cases hx
      rfl
  · cases q
def fUp : D → Option D := fun d => match d with | .str a => if a.length ≤ 100000 then some (.str (Txt.upper a)) else none | _ => none
theorem ev_upper (h : Evp e te s) : Evp e (tM0 (fun x xs H Q => ∃ a, x = .str a ∧ xs = [] ∧ a.length ≤ 5592405 ∧ Q (.str (Txt.upper a)) H) te) (x1 fUp s) := fun c L S σ H α d R q Q k => by
  obtain ⟨a, h1, q⟩ := bnd_some q
  refine h c L S σ H α a R h1 _ fun v H1 e1 r1 => ?_
  unfold fUp at q
  split at q
  · split at q
    · cases q; cases r1
      exact ⟨⟨_, rfl⟩, _, rfl, rfl, Nat.le_trans (by assumption) (by decide), k _ H1 e1 rfl⟩
    · cases q
  · cases q
def fInt1 : List D → Option D := fun ds => match ds with | [.int i] => some (.int i) | [.bl k] => some (.int (if k then 1 else 0)) | _ => none
theorem rc_int1 : RcD e (fun xs H Q => (∃ i, xs = [.int i] ∧ Q (.int i) H) ∨ ∃ k, xs = [.bl k] ∧ Q (.int (if k then 1 else 0)) H) fInt1 := fun L H ds vs d dm r q Q k => by
  unfold fInt1 at q
  split at q
  · cases q
    obtain ⟨v, _, rfl, r1, r2⟩ := r
    cases r1; cases r2
    exact .inl ⟨_, rfl, k _ H (Same.refl H) rfl⟩
  · cases q
    obtain ⟨v, _, rfl, r1, r2⟩ := r
    cases r1; cases r2
    exact .inr ⟨_, rfl, k _ H (Same.refl H) rfl⟩
  · cases q
end
theorem pe_gs {X : Cx} {x : Str} {v : V} {pos : Pos} (hg : Gl X x) (h : ∃ u, X.mg x = some u ∧ RelV v u) (hd : (x == ("__debug__" : Str)) = false := by decide) : PE X (.Name x pos) (tC v) := by
  obtain ⟨u, hm, r⟩ := h
  exact pe_glob hg hm r hd
section
variable {s : State → Option D} {sl sh : State → Option (Option Int)} {α : State}
@[simp] theorem a_xSlS : xSlS s sl sh α = bnd (s α) fun d => bnd (sl α) fun lo => bnd (sh α) fun hi => (match d with
  | .str z => if z.length ≤ 100000 then some (.str (cutS z lo hi)) else none
  | _ => none) := (rfl)
@[simp] theorem a_xSigns : xSigns s α = (match s α with | some (.str z) => some (signs z) | _ => none) := (rfl)
@[simp] theorem a_lenS {z : Str} : fLenS [.str z] = if z.length ≤ 100000 then some (.int z.length) else none := (rfl)
@[simp] theorem a_catS {a b : Str} : fCatS (.str a) (.str b) = if a.length + b.length ≤ 100000 then some (.str (a ++ b)) else none := (rfl)
@[simp] theorem a_up {a : Str} : fUp (.str a) = if a.length ≤ 100000 then some (.str (Txt.upper a)) else none := (rfl)
@[simp] theorem a_inS {neg : Bool} {c : Nat} {y : Str} : fInS neg (.str ⟨#[c]⟩) (.str y) = some (.bl (if neg then !decide (c ∈ y.cps.toList) else decide (c ∈ y.cps.toList))) := (rfl)
@[simp] theorem a_int1I {i : Int} : fInt1 [.int i] = some (.int i) := (rfl)
@[simp] theorem a_int1B {i : Bool} : fInt1 [.bl i] = some (.int (if i then 1 else 0)) := (rfl)
@[simp] theorem a_isiBB {b : Bool} : fIsi [.bl b, .ty "bool"] = some (.bl true) := (rfl)
theorem cutS_len (z : Str) (lo hi : Option Int) : (cutS z lo hi).length ≤ z.length := by
  unfold cutS Str.length
  simp
  omega
theorem ixS_at {z : Str} {i : Int} (h : z.length ≤ 100000) (h0 : 0 ≤ i) (h1 : i < (z.length : Int)) : ∃ c, fIxS (.str z) (.int i) = some (.str ⟨#[c]⟩) := by
  obtain ⟨j, rfl⟩ : ∃ j : Nat, i = j := ⟨i.toNat, by omega⟩
  have hl : j < z.cps.toList.length := by simpa [Str.length] using h1
  refine ⟨z.cps.toList[j], ?_⟩
  unfold fIxS
  show (if z.length ≤ 100000 then (atI z.cps.toList (j : Int)).map fun c => D.str ⟨#[c]⟩ else none) = _
  rw [if_pos h, atI_nat' hl]
  rfl
@[simp] theorem len_one {c : Nat} : (⟨#[c]⟩ : Str).length = 1 := rfl
end
end Ab
end
section
set_option maxRecDepth 100000
set_option maxHeartbeats 1000000
namespace Ab
open PySem L2 PyProof.Rows PySem.Spec
section
variable {e : En} {te to : TE} {s so : State → Option D} {sq : State → Option (List D)}
/-! ### s.split(t), t.join(xs) -/
def xSplit (so s : State → Option D) : State → Option (List D) := fun α => match so α, s α with
  | some (.str a), some (.str b) => if (b.length == 0) = false ∧ a.length + 2 ≤ 100000 then some ((Txt.split a b).map .str) else none
  | _, _ => none
theorem reps_strs {F : Hp} : ∀ ys : List Str, Reps e F (ys.map D.str) (ys.map V.str)
  | [] => Reps.nil
  | a :: r => Reps.cons rfl (reps_strs r)
theorem el_split (ho : Evp e to so) (h : Evp e te s) : Evl e (tM1 (fun x xs H Q => ∃ a b, x = .str a ∧ xs = [.str b] ∧ (b.length == 0) = false ∧ a.length + 2 ≤ sizeLine ∧ rNewStrs (Txt.split a b) H Q) to te) (xSplit so s) := fun c L S σ H α xs R q Q k => by
  unfold xSplit at q
  split at q
  · rename_i a b h1 h2
    split at q
    · rename_i hc
      cases q
      refine ho c L S σ H α _ R h1 _ fun v H1 e1 r1 => ?_
      cases r1
      refine ⟨⟨_, rfl⟩, h c L S σ H1 α _ (R.up e1) h2 _ fun u H2 e2 r2 => ?_⟩
      cases r2
      refine ⟨a, b, rfl, rfl, hc.1, sz_of hc.2, fun p hp => ?_⟩
      have s4 : Same H2 (upd H2 p (.lst ((Txt.split a b).map V.str))) := same_upd hp
      have e12 := e1.trans e2
      exact k p _ _ (e12.trans s4) (none_back e12 hp) upd_same (reps_strs _)
    · cases q
  · cases q
def djstrs : List D → Option (List Str)
  | [] => some []
  | .str i :: r => (djstrs r).map (i :: ·)
  | _ => none
theorem djstrs_of (ns : List Str) : djstrs (ns.map D.str) = some ns := by
  induction ns with
  | nil => rfl
  | cons a r ih => simp [djstrs, ih]
theorem djstrs_eq : ∀ {ds : List D} {ns : List Str}, djstrs ds = some ns → ds = ns.map .str
  | [], _, h => by cases h; rfl
  | .str i :: ds, _, h => by
    cases hs : djstrs ds with
    | none => simp [djstrs, hs] at h
    | some ns => simp [djstrs, hs] at h; subst h; rw [djstrs_eq hs]; rfl
  | .int _ :: _, _, h => by simp [djstrs] at h
  | .non :: _, _, h => by simp [djstrs] at h
  | .bl _ :: _, _, h => by simp [djstrs] at h
  | .tup _ :: _, _, h => by simp [djstrs] at h
  | .lst _ :: _, _, h => by simp [djstrs] at h
  | .ins _ _ :: _, _, h => by simp [djstrs] at h
  | .ty _ :: _, _, h => by simp [djstrs] at h
  | .cls _ :: _, _, h => by simp [djstrs] at h
theorem reps_strs_eq {F : Hp} : ∀ {ys : List Str} {vs : List V}, Reps e F (ys.map D.str) vs → vs = ys.map V.str
  | [], _, r => by cases r; rfl
  | y :: ys, _, ⟨v, w, q, r1, r2⟩ => by subst q; cases r1; rw [reps_strs_eq r2]; rfl
def fJoin (a : Str) (xs : List D) : Option D := bnd (djstrs xs) fun ys => if (ys.map (·.length)).sum + ys.length * a.length ≤ 100000 then some (.str (Txt.join a ys)) else none
def xJoin (so : State → Option D) (sq : State → Option (List D)) : State → Option D := fun α => match so α with | some (.str a) => bnd (sq α) (fJoin a) | _ => none
theorem ev_joinL {K : PySem.W.Frag} (hK : K = e.K) (ho : Evp e to so) (h : EvqL e te sq) : Evp e (tM1 (fun x xs H Q => ∃ a p, ∃ ys : List Str, x = .str a ∧ xs = [.ref p] ∧ (SqL K H p (ys.map V.str) ∨ SqT K H p (ys.map V.str)) ∧
      (ys.map (·.length)).sum + ys.length * a.length ≤ 16777216 ∧ Q (.str (Txt.join a ys)) H) to te) (xJoin so sq) := fun c L S σ H α d R q Q k => by
  subst hK
  unfold xJoin at q
  split at q
  · rename_i a h1
    obtain ⟨xs, h2, q⟩ := bnd_some q
    obtain ⟨ys, h3, q⟩ := bnd_some q
    split at q
    · rename_i hc
      cases q
      refine ho c L S σ H α _ R h1 _ fun v H1 e1 r1 => ?_
      cases r1
      refine ⟨⟨_, rfl⟩, h c L S σ H1 α _ (R.up e1) h2 _ fun p vs H2 e2 r2 r3 => ?_⟩
      rw [djstrs_eq h3] at r3
      rw [reps_strs_eq r3] at r2
      exact ⟨a, p, ys, rfl, rfl, .inl r2, Nat.le_trans hc (by decide), k _ H2 (e1.trans e2) rfl⟩
    · cases q
  · cases q
theorem pe_joinK {X : Cx} {K : PySem.W.Frag} (hK : X.K = K) {o e : Expr} {apos pos : Pos} {to te : TE} (ho : PE X o to) (he : PE X e te) (hs : starEach [e] X.env = [(false, eval e X.env)] := by rfl) (hbase : attributeBase o "join" X.env (eval o X.env) = eval o X.env := by rfl) (hline : (apos.endLine == pos.line) = true := by rfl) :
    PE X (.Call (.Attribute o "join" apos) [e] [] pos) (tM1 (fun x xs H Q => ∃ a p, ∃ ys : List Str, x = .str a ∧ xs = [.ref p] ∧ (SqL K H p (ys.map V.str) ∨ SqT K H p (ys.map V.str)) ∧
      (ys.map (·.length)).sum + ys.length * a.length ≤ 16777216 ∧ Q (.str (Txt.join a ys)) H) to te) := hK ▸ pe_join ho he hs hbase hline
/-! ### a written dict of texts -/
def fIxC (kvs : List (Str × D)) : D → Option D := fun d => match d with | .str t => kvs.lookup t | _ => none
theorem ev_ixC {w : World} {q : Addr} {kvs : List (Str × D)} (h : ∀ p ∈ kvs, flat p.2 = true ∧ KDct e.K w q p.1 (dv p.2)) (hs : Evp e te s) : Evp e (tOp (rIxD e.K w) (tC (.ref q)) te) (x1 (fIxC kvs) s) := fun c L S σ H α d R hq Q k => by
  obtain ⟨a, h1, hq⟩ := bnd_some hq
  unfold fIxC at hq
  split at hq
  · rename_i t
    have hm : (t, d) ∈ kvs := by
      have go : ∀ kvs : List (Str × D), kvs.lookup t = some d → (t, d) ∈ kvs := by
        intro kvs
        induction kvs with
        | nil => intro h; cases h
        | cons p r ih =>
          intro h
          obtain ⟨x, y⟩ := p
          rw [List.lookup_cons] at h
          cases hx : t == x with
          | true => rw [hx] at h; cases h; rw [beq_iff_eq.mp hx]; exact List.mem_cons_self
          | false => rw [hx] at h; exact List.mem_cons_of_mem _ (ih h)
      exact go kvs hq
    obtain ⟨f1, f2⟩ := h _ hm
    refine hs c L S σ H α _ R h1 _ fun v H1 e1 r1 => ?_
    cases r1
    exact ⟨q, t, dv d, rfl, rfl, f2, k _ H1 e1 (rep_of_flat f1)⟩
  · cases hq
theorem ixd {X : Cx} {K : PySem.W.Frag} {w : World} (h : X.K = K) (h' : X.w = w) : IxR X (rIxD K w) := h ▸ h' ▸ ix_kdict
/-- a dict of the module's top -/
def isDic (w : World) (o : Obj) : Prop := ∃ (es : Array DictEntry) (n : Nat), o = ⟨.type "dict", none, .dict es n, #[]⟩ ∧ PySem.W.KeysLit w.params es.toList
theorem kdct_mk {K : PySem.W.Frag} {w : World} {a : Addr} {o : Obj} {x : Str} {v : V} {u : Value} (h : K.lookup a = some o) (d : isDic w o) (hn : PySem.W.nsIn K a x = some (some u)) (r : RelV v u) : KDct K w a x v := by
  obtain ⟨es, n, rfl, hk⟩ := d
  exact ⟨es, n, u, h, hk, hn, r⟩
end
section
variable {α : State} {so s : State → Option D} {sq : State → Option (List D)}
@[simp] theorem a_xSplit : xSplit so s α = (match so α, s α with
  | some (.str a), some (.str b) => if (b.length == 0) = false ∧ a.length + 2 ≤ 100000 then some ((Txt.split a b).map .str) else none
  | _, _ => none) := (rfl)
@[simp] theorem a_xJoin : xJoin so sq α = (match so α with | some (.str a) => bnd (sq α) (fJoin a) | _ => none) := (rfl)
@[simp] theorem a_fIxC {kvs : List (Str × D)} {t : Str} : fIxC kvs (.str t) = kvs.lookup t := (rfl)
end
end Ab
end
section
set_option maxRecDepth 100000
set_option maxHeartbeats 1000000
namespace Ab
open PySem L2 PyProof.Rows PySem.Spec
/-! ### zip of two tuples -/
def ItzT (K : PySem.W.Frag) (a b : Addr) : It :=
  ⟨fun i H => ∃ (xs ys : List V) (x y : V), SqT K H a xs ∧ SqT K H b ys ∧ xs[i]? = some x ∧ ys[i]? = some y,
    fun i H v H' => ∃ T x y, v = .ref T ∧ H T = none ∧ H' = upd H T (.tup [x, y]) ∧ (∀ xs, SqT K H a xs → xs[i]? = some x) ∧ ∀ ys, SqT K H b ys → ys[i]? = some y,
    fun i H => ∃ xs ys : List V, SqT K H a xs ∧ SqT K H b ys ∧ (xs.length ≤ i ∨ ys.length ≤ i)⟩
theorem turn_zipT {P : Program} {w : World} {K : PySem.W.Frag} {elts : List Expr} {kk : Nat} {tpos : Pos} {a b z TI TO i1 i2 : Addr} (D : ZipApart z TI TO i1 i2 a b) :
    Turn P w K (.Tuple elts kk tpos) (ItzT K a b) [z, TI, TO, i1, i2] z (fun i h => IsZip h z TI TO .none ∧ IsPair h TI (.ref i1) (.ref i2) ∧ (∃ x y, IsPair h TO x y) ∧ h.IsTupleIter i1 a i ∧ h.IsTupleIter i2 b i) where
  mem := by simp
  obj := fun i h st c hc => by
    obtain ⟨hz, hTI, ⟨x, y, hTO⟩, ⟨o1, e1, _, d1⟩, ⟨o2, e2, _, d2⟩⟩ := st
    have e' : c = z ∨ c = TI ∨ c = TO ∨ c = i1 ∨ c = i2 := by simpa using hc
    rcases e' with q | q | q | q | q
    · rw [q]; exact ⟨_, hz, fun v q => nomatch q⟩
    · rw [q]; exact ⟨_, hTI, fun v q => nomatch q⟩
    · rw [q]; exact ⟨_, hTO, fun v q => nomatch q⟩
    · rw [q]; exact ⟨o1, e1, fun v q => by rw [d1] at q; cases q⟩
    · rw [q]; exact ⟨o2, e2, fun v q => by rw [d2] at q; cases q⟩
  keep := fun i h h' st k => by
    obtain ⟨hz, hTI, ⟨x, y, hTO⟩, h1, h2⟩ := st
    exact ⟨k z (by simp) _ hz, k TI (by simp) _ hTI, ⟨x, y, k TO (by simp) _ hTO⟩, h1.at fun o q => k i1 (by simp) o q, h2.at fun o q => k i2 (by simp) o q⟩
  item := by
    intro X hP hw hK hc i pins s σ H E I hf st hg
    subst hP hw hK
    obtain ⟨hz, hTI, ⟨x0, y0, hTO⟩, h1, h2⟩ := st
    obtain ⟨xs, ys, x, y, hqx, hqy, hx, hy⟩ := hg
    obtain ⟨its, rv, p, _⟩ := I.tuple hqx
    obtain ⟨its2, rv2, p2, _⟩ := I.tuple hqy
    obtain ⟨u, hu, ru⟩ := rv.get hx
    obtain ⟨u2, hu2, ru2⟩ := rv2.get hy
    have hzl : z < s.heap.objs.size := Heap.lt_size hz
    refine RZ.pyNext_zipT_item D hz hTI hTO h1 h2 p p2 (x := u) (y := u2) (by simpa using hu) (by simpa using hu2) fun h' z' TO' h1' h2' hT hsz hk => ?_
    refine ⟨_, rfl, wpAny_letOwnedTupleGo_zip (s := { s with heap := h' }) z' fun h'' z'' sb => ?_⟩
    have hT2 : h''.get? s.heap.objs.size = some { cls := .type "tuple", data := .seq #[u, u2] } := (sb.2 _ (Nat.ne_of_gt hzl)).trans hT
    have new : ObjOk X.prog X.w (upd H s.heap.objs.size (.tup [x, y])) h'' s.heap.objs.size (.tup [x, y]) :=
      ⟨by show 2 ≤ sizeLine; decide, [u, u2], .cons ru (.cons ru2 .nil), ⟨_, hT2, rfl, _, rfl⟩⟩
    have I1 : Inv X pins σ (upd H s.heap.objs.size (.tup [x, y])) { s with heap := h'' } :=
      I.turnedNew (t' := s.toks) (ch := [z, TI, TO, i1, i2]) (fun c o hb q => (sb.2 c (fun q' => hb (by simp [q']))).trans (hk c o (fun q' => hb (by simp [q'])) (fun q' => hb (by simp [q'])) (fun q' => hb (by simp [q'])) (fun q' => hb (by simp [q'])) q)) hf (Nat.le_refl _) new
    refine ⟨.ref s.heap.objs.size, _, I1, rfl, ⟨_, x, y, rfl, I.hok.fresh (Nat.le_refl _), rfl, fun l hl => by rw [I.tuple_inj hl hqx]; exact hx, fun l hl => by rw [I.tuple_inj hl hqy]; exact hy⟩, ⟨z'', ?_, ⟨u, u2, ?_⟩, ?_, ?_⟩, fun c hcm => ?_⟩
    · exact (sb.2 _ D.TIz).trans (hk _ _ D.TIz D.TITO D.TIi1 D.TIi2 hTI)
    · exact (sb.2 _ D.TOz).trans TO'
    · exact h1'.at fun o q => (sb.2 _ D.i1z).trans q
    · exact h2'.at fun o q => (sb.2 _ D.i2z).trans q
    · have hlt : c < s.heap.objs.size := by
        have e' : c = z ∨ c = TI ∨ c = TO ∨ c = i1 ∨ c = i2 := by simpa using hcm
        rcases e' with q | q | q | q | q
        · rw [q]; exact hzl
        · rw [q]; exact Heap.lt_size hTI
        · rw [q]; exact Heap.lt_size hTO
        · rw [q]; obtain ⟨_, e1, _⟩ := h1; exact Heap.lt_size e1
        · rw [q]; obtain ⟨_, e2, _⟩ := h2; exact Heap.lt_size e2
      rw [upd_ne (Nat.ne_of_lt hlt)]
      exact (hf c hcm).1
  done := by
    intro X hP hw hK hc i pins s σ H E I hf st hg
    subst hP hw hK
    obtain ⟨hz, hTI, ⟨x0, y0, hTO⟩, h1, h2⟩ := st
    obtain ⟨xs, ys, hqx, hqy, hend⟩ := hg
    obtain ⟨its, rv, p, _⟩ := I.tuple hqx
    obtain ⟨its2, rv2, p2, _⟩ := I.tuple hqy
    have l1 := rv.length
    have l2 := rv2.length
    have he : its.toArray[i]? = none ∨ its2.toArray[i]? = none := by
      rcases hend with q | q
      · exact .inl (by simp; omega)
      · exact .inr (by simp; omega)
    exact RZ.pyNext_zipT_end (I.ok.hd hc) D hz hTI hTO h1 h2 p p2 he fun h' hk => ⟨rfl, I.turnedL (t' := s.toks) (ch := [z, TI, TO, i1, i2]) (fun c o hb q =>
      hk c o (fun q' => hb (by simp [q'])) (fun q' => hb (by simp [q'])) (fun q' => hb (by simp [q'])) (fun q' => hb (by simp [q'])) q) hf⟩
  self := fun A i s Q E st h => wpAny_pyIter_zip st.1 h
def iZipT (K : PySem.W.Frag) (ta : TA) : TI := fun σ H R => ta σ H fun vs H1 => ∃ a b xs ys, vs = [.ref a, .ref b] ∧ SqT K H1 a xs ∧ SqT K H1 b ys ∧ R (ItzT K a b) H1
theorem pi_zipT {X : Cx} {K : PySem.W.Frag} (hK : X.K = K) {e e2 : Expr} {ta : TA} {p pos tpos : Pos} {elts : List Expr} {kk : Nat} (hg : Gl X "zip") (hm : X.mg "zip" = none) (ha : PA X [e, e2] ta)
    (hs : starEach [e, e2] X.env = (false, eval e X.env) :: starEach [e2] X.env := by rfl) (hpl : (backTo pos (starEach [e2] X.env)).any (·.1) = false := by rfl) :
    PI X (.Tuple elts kk tpos) (.Call (.Name "zip" p) [e, e2] [] pos) (iZipT K ta) := by
  subst hK
  refine ⟨fun pins s σ H R I h => ?_⟩
  refine Call_ (ld_blt I hg hm PyProof.Rows.boot_zip (PyProof.Rows.callWith_type1 (thn (ha.run pos pins s σ H _ I h) fun us s1 ⟨vs, H1, I1, r1, q1⟩ => ?_) hs hpl))
  obtain ⟨a, b, xs, ys, ex, hqx, hqy, q⟩ := q1
  subst ex
  cases r1 with
  | cons r rr =>
    cases rr with
    | cons r' rr =>
      cases rr
      cases r
      cases r'
      obtain ⟨its, rv, p1, _⟩ := I1.tuple hqx
      obtain ⟨its2, rv2, p2, _⟩ := I1.tuple hqy
      have la : a < s1.heap.objs.size := by obtain ⟨_, q, _⟩ := p1; exact Heap.lt_size q
      have lb : b < s1.heap.objs.size := by obtain ⟨_, q, _⟩ := p2; exact Heap.lt_size q
      refine RZ.call_zipT p1 p2 fun h' hz hTI hTO h1 h2 hsz hk => wpAny_pyIter_zip hz ?_
      have I2 : Inv X pins σ H1 { s1 with heap := h' } := I1.kept (t' := s1.toks) hk
      refine ⟨s1.heap.objs.size + 4, [s1.heap.objs.size + 4, s1.heap.objs.size + 2, s1.heap.objs.size + 3, s1.heap.objs.size, s1.heap.objs.size + 1], _, _, H1, rfl, I2, turn_zipT (PySem.W.ktu_apart s1.heap.objs.size a b la lb), ⟨hz, hTI, ⟨_, _, hTO⟩, h1, h2⟩, fun c hcm => ?_, q⟩
      have e' : c = s1.heap.objs.size + 4 ∨ c = s1.heap.objs.size + 2 ∨ c = s1.heap.objs.size + 3 ∨ c = s1.heap.objs.size ∨ c = s1.heap.objs.size + 1 := by simpa using hcm
      have hle : s1.heap.objs.size ≤ c := by
        rcases e' with z | z | z | z | z
        · rw [z]; exact Nat.le_add_right _ _
        · rw [z]; exact Nat.le_add_right _ _
        · rw [z]; exact Nat.le_add_right _ _
        · rw [z]; exact Nat.le_refl _
        · rw [z]; exact Nat.le_add_right _ _
      exact I1.fpOk hle (I1.hok.fresh hle)
def zipD : List D → List D → List D
  | x :: xs, y :: ys => .tup [x, y] :: zipD xs ys
  | _, _ => []
theorem zipD_get : ∀ {xs ys : List D} {i : Nat} {d : D}, (zipD xs ys)[i]? = some d → ∃ x y, xs[i]? = some x ∧ ys[i]? = some y ∧ d = .tup [x, y]
  | [], _, _, _, h => by simp [zipD] at h
  | _ :: _, [], _, _, h => by simp [zipD] at h
  | x :: xs, y :: ys, 0, d, h => by simp [zipD] at h; exact ⟨x, y, rfl, rfl, h.symm⟩
  | x :: xs, y :: ys, i + 1, d, h => by
    simp only [zipD, List.getElem?_cons_succ] at h ⊢
    exact zipD_get h
theorem zipD_len : ∀ (xs ys : List D), (zipD xs ys).length = min xs.length ys.length
  | [], _ => by simp [zipD]
  | _ :: _, [] => by simp [zipD]
  | x :: xs, y :: ys => by simp only [zipD, List.length_cons, zipD_len xs ys]; omega
section
variable {e : En} {ta tb : TE} {sa sb : State → Option D}
def xZipT (sa sb : State → Option D) : State → Option (List D) := fun α => match sa α, sb α with | some (.tup xs), some (.tup ys) => some (zipD xs ys) | _, _ => none
theorem ei_zipT (ha : Evp e ta sa) (hb : Evp e tb sb) : Evi e (iZipT e.K (tCons ta (tCons tb tNil))) (xZipT sa sb) := fun c L S σ H α xs R q W k => by
  unfold xZipT at q
  split at q
  · rename_i us ws hu hw
    cases q
    refine ha c L S σ H α _ R hu _ fun v H1 e1 ⟨a, vs, e2, r1, r2⟩ => ?_
    subst e2
    refine hb c L S σ H1 α _ (R.up e1) hw _ fun v' H2 e3 ⟨b, vs2, e4, r3, r4⟩ => ?_
    subst e4
    have r1' := same_t (fz_same (L := L) e3) r1
    have r2' := r2.up (fz_same (L := L) e3)
    refine ⟨a, b, vs, vs2, rfl, same_t fz_le r1', same_t fz_le r3, k _ H2 (e1.trans e3) fun L2 H3 s2 dm i => ?_⟩
    have t1 : SqT e.K H3 a vs := same_t fz_le (same_t s2 r1')
    have t2 : SqT e.K H3 b vs2 := same_t fz_le (same_t s2 r3)
    have l1 := r2.len
    have l2 := r4.len
    rw [zipD_len]
    refine ⟨fun hi => ⟨vs, vs2, vs[i]'(by omega), vs2[i]'(by omega), t1, t2, List.getElem?_eq_getElem _, List.getElem?_eq_getElem _⟩, fun hi => ⟨vs, vs2, t1, t2, by omega⟩, fun x v H4 hx ⟨T, y1, y2, e5, n, e6, yy1, yy2⟩ => ?_⟩
    subst e5 e6
    obtain ⟨d1, d2, g1, g2, g3⟩ := zipD_get hx
    subst g3
    obtain ⟨v1, g4, g5⟩ := r2'.get g1
    obtain ⟨v2, g6, g7⟩ := r4.get g2
    have q1 : v1 = y1 := Option.some.inj (g4.symm.trans (yy1 vs t1))
    have q2 : v2 = y2 := Option.some.inj (g6.symm.trans (yy2 vs2 t2))
    subst q1 q2
    have s3 : Same H3 (upd H3 T (.tup [v1, v2])) := same_upd n
    exact ⟨s3, T, _, rfl, .inl (.inl (fz_new (fresh_nL dm n) upd_same)), Reps.cons (g5.up (s2.trans (fz_same s3))) (Reps.cons (g7.up (s2.trans (fz_same s3))) Reps.nil)⟩
  · cases q
end
/-! ### all(list of truths) -/
def rAll (K : PySem.W.Frag) : List V → Hp → VK → Prop := fun xs H Q => ∃ (a : Addr) (bs : List Bool), xs = [.ref a] ∧ SqL K H a (bs.map V.bl) ∧ Q (.bl (bs.all id)) H
theorem bools_of : ∀ {bs : List Bool} {us : List Value}, Vals (bs.map V.bl) us → us = bs.map Value.bool
  | [], _, r => by cases r; rfl
  | b :: bs, _, r => by
    cases r with
    | cons r1 r2 => rw [bools_of r2]; cases r1; rfl
theorem range_all' : ∀ (bs : List Bool), ((List.range bs.length).all fun i => (bs[i]?).getD true) = bs.all id
  | bs => by
    rw [Bool.eq_iff_iff, List.all_eq_true, List.all_eq_true]
    constructor
    · intro h b hb
      obtain ⟨i, hi, e⟩ := List.getElem_of_mem hb
      have := h i (List.mem_range.mpr hi)
      rw [List.getElem?_eq_getElem hi, e] at this
      exact this
    · intro h i hi
      have hi := List.mem_range.mp hi
      rw [List.getElem?_eq_getElem hi]
      exact h _ (List.getElem_mem hi)
theorem cr_all {X : Cx} (hc : X.calm = true) : CallR X (.builtin "all") (rAll X.K) := by
  intro pins s σ H vs us Q I r h
  obtain ⟨a, bs, rfl, hs, q⟩ := h
  obtain ⟨its, rv, hl, _⟩ := I.list hs
  rw [Vals.ref1 r]
  have hb := bools_of rv
  have hlt : a < s.heap.objs.size := hl.lt
  refine call_all_walk (wpAny_pyIter_list hl.isList ?_)
  refine ⟨s.heap.objs.size, [s.heap.objs.size, a], [s.heap.objs.size], its.toArray.size, _, _, fun i => (bs[i]?).getD true, rfl, Walks.list (A := X.A.in1) (I.ok.hd hc) _ a (Nat.ne_of_lt hlt) its.toArray,
    ⟨⟨_, Heap.get?_push_size _ rfl, rfl, rfl⟩, hl.isList.push _⟩, fun i v s' Q' E' hP hQ => ?_, fun h' tk hk => ?_⟩
  · have hP' : its[i]? = some v := by simpa using hP
    rw [hb, List.getElem?_map] at hP'
    cases e : bs[i]? with
    | none => rw [e] at hP'; cases hP'
    | some b =>
      rw [e] at hP'
      cases hP'
      simp only [e, Option.getD_some] at hQ
      exact wpAny_truthy_bool hQ
  · have e : ((List.range its.toArray.size).all fun i => (bs[i]?).getD true) = bs.all id := by
      rw [List.size_toArray, hb, List.length_map]; exact range_all' bs
    rw [e]
    exact ⟨.bl _, H, I.kept (t' := tk) (LSm.kept_iter hk), rfl, q⟩
theorem all_q {X : Cx} {K : PySem.W.Frag} (h : X.K = K) (hc : X.calm = true) : CallR X (.builtin "all") (rAll K) := h ▸ cr_all hc
section
variable {e : En} {te : TE} {sq : State → Option (List D)} {ta tb : TE} {s : State → Option D}
def dbls : List D → Option (List Bool)
  | [] => some []
  | .bl b :: ds => (dbls ds).map (b :: ·)
  | _ :: _ => none
theorem dbls_of : ∀ bs : List Bool, dbls (bs.map .bl) = some bs
  | [] => rfl
  | b :: bs => by show (dbls (bs.map .bl)).map (b :: ·) = _; rw [dbls_of bs]; rfl
theorem dbls_rep {F : Hp} : ∀ {ds : List D} {vs : List V} {bs : List Bool}, dbls ds = some bs → Reps e F ds vs → vs = bs.map V.bl
  | [], _, _, h, r => by cases h; cases r; rfl
  | d :: ds, vs, bs, h, r => by
    obtain ⟨v, us, rfl, r1, r2⟩ := r
    cases d with
    | bl b =>
      change (dbls ds).map (b :: ·) = some bs at h
      cases hd : dbls ds with
      | none => rw [hd] at h; cases h
      | some cs => rw [hd] at h; cases h; cases r1; rw [dbls_rep hd r2]; rfl
    | _ => cases h
def xAll (sq : State → Option (List D)) : State → Option D := fun α => bnd (sq α) fun ds => (dbls ds).map fun bs => .bl (bs.all id)
theorem ev_all (h : EvqL e te sq) : Evp e (tCB (rAll e.K) (tCons te tNil)) (xAll sq) := fun c L S σ H α d R q Q k => by
  obtain ⟨ds, h1, q⟩ := bnd_some q
  cases hd : dbls ds with
  | none => rw [hd] at q; cases q
  | some bs =>
    rw [hd] at q; cases q
    refine h c L S σ H α ds R h1 _ fun a vs H1 e1 r1 r2 => ?_
    exact ⟨a, bs, rfl, by rw [← dbls_rep hd r2]; exact r1, k _ H1 e1 rfl⟩
@[simp] theorem a_xAll {α : State} : xAll sq α = bnd (sq α) fun ds => (dbls ds).map fun bs => .bl (bs.all id) := (rfl)
@[simp] theorem a_xZipT {sa sb : State → Option D} {α : State} : xZipT sa sb α = (match sa α, sb α with | some (.tup xs), some (.tup ys) => some (zipD xs ys) | _, _ => none) := (rfl)
/-! ### t.index(text), l.index(text) -/
def dstrs : List D → Option (List Str)
  | [] => some []
  | .str b :: ds => (dstrs ds).map (b :: ·)
  | _ :: _ => none
theorem dstrs_rep {F : Hp} : ∀ {ds : List D} {vs : List V} {bs : List Str}, dstrs ds = some bs → Reps e F ds vs → vs = bs.map V.str
  | [], _, _, h, r => by cases h; cases r; rfl
  | d :: ds, vs, bs, h, r => by
    obtain ⟨v, us, rfl, r1, r2⟩ := r
    cases d with
    | str b =>
      change (dstrs ds).map (b :: ·) = some bs at h
      cases hd : dstrs ds with
      | none => rw [hd] at h; cases h
      | some cs => rw [hd] at h; cases h; cases r1; rw [dstrs_rep hd r2]; rfl
    | _ => cases h
def ixOf : List Str → Str → Option Nat
  | [], _ => none
  | y :: ys, z => if y = z then some 0 else (ixOf ys z).map (· + 1)
theorem ixOf_spec : ∀ {ys : List Str} {z : Str} {j : Nat}, ixOf ys z = some j → ys[j]? = some z ∧ ∀ m, m < j → ys[m]? ≠ some z
  | [], _, _, h => by cases h
  | y :: ys, z, j, h => by
    unfold ixOf at h
    by_cases hy : y = z
    · rw [if_pos hy] at h; cases h; exact ⟨by rw [hy]; rfl, fun m hm => absurd hm (Nat.not_lt_zero _)⟩
    · rw [if_neg hy] at h
      cases hj : ixOf ys z with
      | none => rw [hj] at h; cases h
      | some i =>
        rw [hj] at h; cases h
        obtain ⟨h1, h2⟩ := ixOf_spec hj
        refine ⟨h1, fun m hm => ?_⟩
        cases m with
        | zero => intro hh; exact hy (Option.some.inj hh)
        | succ m => exact h2 m (Nat.lt_of_succ_lt_succ hm)
def xIdx (sq : State → Option (List D)) (s : State → Option D) : State → Option D := fun α => bnd (sq α) fun ds => match s α with
  | some (.str z) => bnd (dstrs ds) fun zs => (ixOf zs z).map fun (j : Nat) => D.int (j : Int)
  | _ => none
def rIdxT (K : PySem.W.Frag) : V → List V → Hp → VK → Prop := fun x xs H Q => ∃ p, ∃ ys : List Str, ∃ z j, x = .ref p ∧ xs = [.str z] ∧ SqT K H p (ys.map V.str) ∧ ys[j]? = some z ∧ (∀ m, m < j → ys[m]? ≠ some z) ∧ Q (.int (j : Nat)) H
theorem mt_idxT {X : Cx} {K : PySem.W.Frag} (h : X.K = K) : MtR X "tuple.index" (rIdxT K) := h ▸ mt_tup_index
theorem mt_idxL {X : Cx} {K : PySem.W.Frag} (h : X.K = K) : MtR X "list.index" (rIndex K) := h ▸ mt_index
/-- by a tuple of the module's top -/
theorem ev_idxT {a : Addr} {ds : List D} (h1 : ∀ F, Rep e F (.tup ds) (.ref a)) (h2 : ∀ H, tyV e.K "tuple" (.ref a) H) (h : Evp e te s) : Evp e (tBM e.K "tuple" (rIdxT e.K) (tC (.ref a)) (tCons te tNil)) (xIdx (fun _ => some ds) s) := fun c L S σ H α d R q Q k => by
  obtain ⟨ds', hd, q⟩ := bnd_some q
  cases hd
  split at q
  · rename_i z hz
    obtain ⟨zs, h3, q⟩ := bnd_some q
    cases hj : ixOf zs z with
    | none => rw [hj] at q; cases q
    | some j =>
      rw [hj] at q; cases q
      refine ⟨h2 H, ?_⟩
      refine h c L S σ H α _ R hz _ fun v H1 e1 r1 => ?_
      cases r1
      obtain ⟨a', vs, ea, r2, r3⟩ := h1 H1
      cases ea
      have := dstrs_rep h3 r3
      subst this
      obtain ⟨g1, g2⟩ := ixOf_spec hj
      exact ⟨a, zs, z, j, rfl, rfl, r2, g1, g2, k _ H1 e1 rfl⟩
  · cases q
theorem eqV_str {a b : Str} : eqV (.str a) (.str b) = (a == b) := by rfl
theorem ev_idxL (h : EvqL e te sq) (hs : Evp e ta s) : Evp e (tBM e.K "list" (rIndex e.K) te (tCons ta tNil)) (xIdx sq s) := fun c L S σ H α d R q Q k => by
  obtain ⟨ds, h1, q⟩ := bnd_some q
  split at q
  · rename_i z hz
    obtain ⟨zs, h2, q⟩ := bnd_some q
    cases hj : ixOf zs z with
    | none => rw [hj] at q; cases q
    | some j =>
      rw [hj] at q; cases q
      refine h c L S σ H α ds R h1 _ fun a vs H1 e1 r1 r2 => ?_
      have := dstrs_rep h2 r2
      subst this
      refine ⟨.inl ⟨rfl, _, r1⟩, ?_⟩
      refine hs c L S σ H1 α _ (R.up e1) hz _ fun v H2 e2 r3 => ?_
      cases r3
      obtain ⟨g1, g2⟩ := ixOf_spec hj
      refine ⟨a, zs.map V.str, .str z, j, .str z, rfl, rfl, e2.seq r1, rfl, by simp [flatV], by rw [List.getElem?_map, g1]; rfl, by rw [eqV_str]; simp, fun m z' hm hz' => ?_, k _ H2 (e1.trans e2) rfl⟩
      rw [List.getElem?_map] at hz'
      cases hy : zs[m]? with
      | none => rw [hy] at hz'; cases hz'
      | some y =>
        rw [hy] at hz'; cases hz'
        rw [eqV_str]
        exact beq_eq_false_iff_ne.mpr fun hh => g2 m hm (by rw [hy, hh])
  · cases q
@[simp] theorem a_xIdx {α : State} : xIdx sq s α = bnd (sq α) fun ds => (match s α with
  | some (.str z) => bnd (dstrs ds) fun zs => (ixOf zs z).map fun (j : Nat) => D.int (j : Int)
  | _ => none) := by unfold xIdx; rfl
end
theorem pgt {X : Cx} {K : PySem.W.Frag} (hK : X.K = K) {es : List Expr} {k : Nat} {t : TGs} {n : Nat} {pos : Pos} (hc : X.calm = true) (h : PGs X es t)
    (hn : (assignEach es X.env).length = n := by rfl) (hst : (assignEach es X.env).findIdx? (·.1) = none := by rfl) : PG X (.Tuple es k pos) (gTup K n t) := hK ▸ pg_tup hc h hn hst
end Ab
end
section
set_option maxRecDepth 100000
set_option maxHeartbeats 1000000
namespace Ab
open PySem L2 PyProof.Rows PySem.Spec
theorem toNat_inj' : ∀ {a b : List Char}, a.map Char.toNat = b.map Char.toNat → a = b
  | [], [], _ => rfl
  | [], _ :: _, h => by cases h
  | _ :: _, [], h => by cases h
  | x :: a, y :: b, h => by
    simp only [List.map_cons, List.cons.injEq] at h
    have h1 : x = y := Char.ext (UInt32.toNat_inj.mp h.1)
    rw [h1, toNat_inj' h.2]
@[simp] theorem ofS_inj {a b : String} : (Str.ofString a = Str.ofString b) ↔ a = b := by
  constructor
  · intro h
    rw [Str.ofString_eq_toList, Str.ofString_eq_toList] at h
    have h1 : (a.toList.map Char.toNat).toArray = (b.toList.map Char.toNat).toArray := congrArg Str.cps h
    have h2 := congrArg Array.toList h1
    exact String.toList_inj.mp (toNat_inj' (by simpa using h2))
  · rintro rfl; rfl
@[simp] theorem ofS_beq {a b : String} : (Str.ofString a == Str.ofString b) = decide (a = b) := by
  by_cases h : a = b
  · subst h; simp
  · rw [decide_eq_false h]
    exact beq_eq_false_iff_ne.mpr fun z => h (ofS_inj.mp z)
/-- figures -/
inductive Mn where
  | row | bag | choice | ring
  deriving DecidableEq
def Mn.w : Mn → Str
  | .row => "row" | .bag => "bag" | .choice => "choice" | .ring => "ring"
inductive Fig where
  | nothing | bead (c : Str) | left (f : Fig) | right (f : Fig) | pair (f g : Fig) | many (k : Mn) (ps : List Fig)
mutual
def enc : Fig → D
  | .nothing => .tup [.str "nothing"]
  | .bead c => .tup [.str "bead", .str c]
  | .left f => .tup [.str "left", enc f]
  | .right f => .tup [.str "right", enc f]
  | .pair f g => .tup [.str "pair", enc f, enc g]
  | .many k ps => .tup [.str k.w, .tup (encs ps)]
def encs : List Fig → List D
  | [] => [] | f :: fs => enc f :: encs fs
end
theorem encs_map : ∀ fs : List Fig, encs fs = fs.map enc
  | [] => rfl
  | f :: fs => by rw [encs, encs_map fs]; rfl
@[simp] theorem encs_len (fs : List Fig) : (encs fs).length = fs.length := by rw [encs_map, List.length_map]
theorem encs_app (a b : List Fig) : encs (a ++ b) = encs a ++ encs b := by simp [encs_map]
def Fig.parts : Fig → List Fig
  | .nothing => [] | .bead _ => [] | .left f => [f] | .right f => [f] | .pair f g => [f, g] | .many _ ps => ps
mutual
def hgt : Fig → Nat
  | .nothing => 1 | .bead _ => 1 | .left f => hgt f + 1 | .right f => hgt f + 1
  | .pair f g => max (hgt f) (hgt g) + 1 | .many _ ps => hgts ps + 1
def hgts : List Fig → Nat
  | [] => 0 | f :: fs => max (hgt f) (hgts fs)
end
theorem hgts_le {n : Nat} : ∀ {fs : List Fig}, (∀ f ∈ fs, hgt f ≤ n) → hgts fs ≤ n
  | [], _ => Nat.zero_le _
  | f :: fs, h => by
    have h1 := h f List.mem_cons_self
    have h2 := hgts_le (fs := fs) fun g m => h g (List.mem_cons_of_mem _ m)
    simp only [hgts]; omega
theorem hgts_mem {f : Fig} : ∀ {fs : List Fig}, f ∈ fs → hgt f ≤ hgts fs
  | [], h => nomatch h
  | g :: fs, h => by
    simp only [hgts]
    rcases List.mem_cons.mp h with rfl | h
    · omega
    · have := hgts_mem h; omega
theorem hgt_parts {f g : Fig} (h : g ∈ f.parts) : hgt g < hgt f := by
  cases f with
  | nothing => cases h
  | bead c => cases h
  | left f => simp [Fig.parts] at h; subst h; simp [hgt]
  | right f => simp [Fig.parts] at h; subst h; simp [hgt]
  | pair a b => simp [Fig.parts] at h; rcases h with rfl | rfl <;> simp only [hgt] <;> omega
  | many k ps => have := hgts_mem (fs := ps) h; simp only [hgt]; omega
/-! the colours are plain texts -/
mutual
def cok : Fig → Bool
  | .nothing => true | .bead c => PyData.strOk c | .left f => cok f | .right f => cok f
  | .pair f g => cok f && cok g | .many _ ps => coks ps
def coks : List Fig → Bool
  | [] => true | f :: fs => cok f && coks fs
end
theorem coks_iff : ∀ {fs : List Fig}, coks fs = true ↔ ∀ f ∈ fs, cok f = true
  | [] => by simp [coks]
  | f :: fs => by simp [coks, coks_iff (fs := fs)]
theorem strOk_lit {s : Str} (h : s.cps.all (· < 128) = true) : PyData.strOk s = true := by
  unfold PyData.strOk
  rw [Array.all_eq_true'] at *
  intro x hx
  have := h x hx
  simp at this ⊢
  omega
mutual
theorem plain_enc : ∀ f : Fig, cok f = true → plainD (enc f) = true
  | .nothing, _ => by simp [enc, plainD, plainDs]; decide +kernel
  | .bead c, h => by simp [enc, plainD, plainDs]; exact ⟨by decide +kernel, h⟩
  | .left f, h => by simp [enc, plainD, plainDs]; exact ⟨by decide +kernel, plain_enc f h⟩
  | .right f, h => by simp [enc, plainD, plainDs]; exact ⟨by decide +kernel, plain_enc f h⟩
  | .pair f g, h => by
    simp only [cok, Bool.and_eq_true] at h
    simp [enc, plainD, plainDs]; exact ⟨by decide +kernel, plain_enc f h.1, plain_enc g h.2⟩
  | .many k ps, h => by
    simp [enc, plainD, plainDs]; exact ⟨by cases k <;> decide +kernel, plains_enc ps h⟩
theorem plains_enc : ∀ fs : List Fig, coks fs = true → plainDs (encs fs) = true
  | [], _ => rfl
  | f :: fs, h => by
    simp only [coks, Bool.and_eq_true] at h
    simp only [encs, plainDs, plain_enc f h.1, plains_enc fs h.2]; rfl
end
mutual
theorem dep_enc : ∀ f : Fig, depD (enc f) ≤ 2 * hgt f
  | .nothing => by simp [enc, depD, depDs, hgt]
  | .bead c => by simp [enc, depD, depDs, hgt]
  | .left f => by have := dep_enc f; simp only [enc, depD, depDs, hgt]; omega
  | .right f => by have := dep_enc f; simp only [enc, depD, depDs, hgt]; omega
  | .pair f g => by have := dep_enc f; have := dep_enc g; simp only [enc, depD, depDs, hgt]; omega
  | .many k ps => by have := deps_enc ps; simp only [enc, depD, depDs, hgt]; omega
theorem deps_enc : ∀ fs : List Fig, depDs (encs fs) ≤ 2 * hgts fs
  | [] => by simp [encs, depDs]
  | f :: fs => by have := dep_enc f; have := deps_enc fs; simp only [encs, depDs, hgts]; omega
end
theorem eqOk_enc {a b : Fig} (ha : cok a = true) (hb : cok b = true) (h : hgt a ≤ 95) : eqOk (enc a) (enc b) = true := by
  unfold eqOk
  have := dep_enc a
  simp only [plain_enc a ha, plain_enc b hb, Bool.and_eq_true, decide_eq_true_eq]
  exact ⟨⟨trivial, trivial⟩, by omega⟩
theorem fNeQ_refl {a : Fig} (ha : cok a = true) (h : hgt a ≤ 95) : fNeQ (enc a) (enc a) = some (.bl false) := by
  unfold fNeQ; rw [if_pos (eqOk_enc ha ha h)]; unfold eqv; rw [eqv_refl]; rfl
theorem fEqQ_refl {a : Fig} (ha : cok a = true) (h : hgt a ≤ 95) : fEqQ (enc a) (enc a) = some (.bl true) := by
  unfold fEqQ; rw [if_pos (eqOk_enc ha ha h)]; unfold eqv; rw [eqv_refl]
end Ab
namespace Ab
open PySem L2 PyProof.Rows PySem.Spec
theorem atI_encs {ps : List Fig} {k : Int} (h0 : 0 ≤ k) (h1 : k < (ps.length : Int)) : atI (encs ps) k = some (enc (ps[k.toNat]'(by omega))) := by
  unfold atI ixN
  rw [if_pos h0, encs_len, if_pos h1]
  show (encs ps)[k.toNat]? = _
  rw [encs_map, List.getElem?_map, List.getElem?_eq_getElem (by omega)]
  rfl
/-- the part at a path -/
def Fig.at_ : Fig → List Int → Option Fig
  | f, [] => some f
  | f, k :: ks => if h : 0 ≤ k ∧ k < (f.parts.length : Int) then (f.parts[k.toNat]'(by omega)).at_ ks else none
theorem at_cons (f : Fig) (k : Int) (ks : List Int) : f.at_ (k :: ks) = if h : 0 ≤ k ∧ k < (f.parts.length : Int) then (f.parts[k.toNat]'(by omega)).at_ ks else none := rfl
theorem at_app : ∀ (p q : List Int) (f : Fig), f.at_ (p ++ q) = (f.at_ p).bind fun g => g.at_ q
  | [], q, f => by simp [Fig.at_]
  | k :: p, q, f => by
    show Fig.at_ f (k :: (p ++ q)) = _
    rw [at_cons, at_cons]
    by_cases h : 0 ≤ k ∧ k < (f.parts.length : Int)
    · rw [dif_pos h, dif_pos h]; exact at_app p q _
    · rw [dif_neg h, dif_neg h]; rfl
end Ab
namespace Ab
open PySem L2 PyProof.Rows PySem.Spec
mutual
def cnt : Fig → Nat
  | .nothing => 1 | .bead _ => 1 | .left f => cnt f + 1 | .right f => cnt f + 1
  | .pair f g => cnt f + cnt g + 1 | .many _ ps => cnts ps + 1
def cnts : List Fig → Nat
  | [] => 0 | f :: fs => cnt f + cnts fs
end
theorem cnt_pos : ∀ f : Fig, 1 ≤ cnt f
  | .nothing => Nat.le_refl _ | .bead _ => Nat.le_refl _ | .left f => by simp [cnt] | .right f => by simp [cnt]
  | .pair f g => by simp [cnt] | .many _ ps => by simp [cnt]
mutual
theorem hgt_cnt : ∀ f : Fig, hgt f ≤ cnt f
  | .nothing => Nat.le_refl _ | .bead _ => Nat.le_refl _
  | .left f => by have := hgt_cnt f; simp only [hgt, cnt]; omega
  | .right f => by have := hgt_cnt f; simp only [hgt, cnt]; omega
  | .pair f g => by have := hgt_cnt f; have := hgt_cnt g; simp only [hgt, cnt]; omega
  | .many _ ps => by have := hgts_cnts ps; simp only [hgt, cnt]; omega
theorem hgts_cnts : ∀ fs : List Fig, hgts fs ≤ cnts fs
  | [] => Nat.le_refl _
  | f :: fs => by have := hgt_cnt f; have := hgts_cnts fs; simp only [hgts, cnts]; omega
end
theorem cnts_len : ∀ fs : List Fig, fs.length ≤ cnts fs
  | [] => Nat.le_refl _
  | f :: fs => by have := cnt_pos f; have := cnts_len fs; simp only [cnts, List.length_cons]; omega
theorem cnts_app : ∀ (a b : List Fig), cnts (a ++ b) = cnts a + cnts b
  | [], b => by simp [cnts]
  | f :: fs, b => by simp only [List.cons_append, cnts, cnts_app fs b]; omega
theorem cnts_mem {f : Fig} : ∀ {fs : List Fig}, f ∈ fs → cnt f ≤ cnts fs
  | [], h => nomatch h
  | g :: fs, h => by
    simp only [cnts]
    rcases List.mem_cons.mp h with rfl | h
    · omega
    · have := cnts_mem h; omega
theorem cnt_parts (f : Fig) : cnt f = cnts f.parts + 1 := by
  cases f <;> simp [cnt, cnts, Fig.parts]
theorem cnts_sum : ∀ fs : List Fig, ((fs.map fun f => (cnt f : Int)).sum) = (cnts fs : Int)
  | [] => rfl
  | f :: fs => by simp only [List.map_cons, List.sum_cons, cnts_sum fs, cnts]; omega
theorem cnts_take_drop (fs : List Fig) (k : Nat) : cnts (fs.take k) + cnts (fs.drop k) = cnts fs := by
  rw [← cnts_app, List.take_append_drop]
theorem lcF_map {gt : D → State → Option State} {se : State → Option D} {α : State} {F : D → D} : ∀ {xs : List D}, (∀ x ∈ xs, ∃ β, gt x α = some β ∧ se β = some (F x)) → lcF gt tbYes se xs α = some (xs.map F)
  | [], _ => rfl
  | x :: xs, h => by
    obtain ⟨β, h1, h2⟩ := h x List.mem_cons_self
    unfold lcF
    rw [h1]
    simp [h2, lcF_map (xs := xs) fun y m => h y (List.mem_cons_of_mem _ m)]
theorem lcF_list {gt : D → State → Option State} {se : State → Option D} {α : State} {ι : Type} {E F : ι → D} : ∀ {xs : List ι}, (∀ x ∈ xs, ∃ β, gt (E x) α = some β ∧ se β = some (F x)) → lcF gt tbYes se (xs.map E) α = some (xs.map F)
  | [], _ => rfl
  | x :: xs, h => by
    obtain ⟨β, h1, h2⟩ := h x List.mem_cons_self
    show lcF gt tbYes se (E x :: xs.map E) α = _
    unfold lcF
    rw [h1]
    simp [h2, lcF_list (xs := xs) fun y m => h y (List.mem_cons_of_mem _ m)]
theorem fSum_ints (ns : List Int) : fSum (ns.map .int) = some (.int ns.sum) := by
  unfold fSum; rw [dints_of]; rfl
theorem cok_parts {f g : Fig} (h : cok f = true) (m : g ∈ f.parts) : cok g = true := by
  cases f with
  | nothing => cases m
  | bead c => cases m
  | left f => simp [Fig.parts] at m; subst m; exact h
  | right f => simp [Fig.parts] at m; subst m; exact h
  | pair a b =>
    simp only [cok, Bool.and_eq_true] at h
    simp [Fig.parts] at m; rcases m with rfl | rfl
    · exact h.1
    · exact h.2
  | many k ps => exact coks_iff.mp h g m
end Ab
namespace Ab
open PySem L2 PyProof.Rows PySem.Spec
@[simp] theorem fSum0 : fSum [] = some (.int 0) := rfl
@[simp] theorem fSum1 {i : Int} : fSum [.int i] = some (.int i) := by have := fSum_ints [i]; simpa using this
@[simp] theorem fSum2 {i j : Int} : fSum [.int i, .int j] = some (.int (i + j)) := by have := fSum_ints [i, j]; simpa using this
theorem ret_int {i j : Int} {α : State} (h : i = j) : ∃ β, Out.ret (.dat (.int i)) α = .ret (.dat (.int j)) β := ⟨α, by rw [h]⟩
end Ab
namespace Ab
open PySem L2 PyProof.Rows PySem.Spec
@[simp] theorem fSum_comp {ι : Type} {xs : List ι} {g : ι → Int} : fSum (xs.map (D.int ∘ g)) = some (.int (xs.map g).sum) := by
  rw [← List.map_map]; exact fSum_ints _
end Ab
namespace Ab
open PySem L2 PyProof.Rows PySem.Spec
theorem coks_app {a b : List Fig} : coks (a ++ b) = true ↔ coks a = true ∧ coks b = true := by
  rw [coks_iff, coks_iff, coks_iff]
  constructor
  · exact fun h => ⟨fun f m => h f (List.mem_append_left _ m), fun f m => h f (List.mem_append_right _ m)⟩
  · rintro ⟨h1, h2⟩ f m
    rcases List.mem_append.mp m with m | m
    · exact h1 f m
    · exact h2 f m
theorem concat_of {β : Type} {xs : List β} (h : xs ≠ []) : ∃ ys y, xs = ys ++ [y] := ⟨xs.dropLast, xs.getLast h, (List.dropLast_concat_getLast h).symm⟩
@[simp] theorem encs_nil : encs [] = [] := rfl
@[simp] theorem encs_cons {f : Fig} {fs : List Fig} : encs (f :: fs) = enc f :: encs fs := rfl
end Ab
end
section
set_option maxRecDepth 100000
set_option maxHeartbeats 1000000
namespace Ab
open PySem L2 PyProof.Rows PySem.Spec
/-! ### C() where the class has no __init__ -/
/-- what such a class must have -/
structure Mk0 (K : PySem.W.Frag) (C : Addr) : Prop where
  makes : PySem.W.makesIn K C = true
  init : PySem.W.findIn K (.ref C) "__init__" = some (some (.builtin "object.__init__"))
  top : PySem.W.mroIn K C (.type "object") = some true
  kp : PySem.W.keepIn K (.ref C) = true
def tMake0 (C : Addr) : TE := fun σ H Q => ∀ x dx, H x = none → H dx = none → dx ≠ x → Q (.ref x) (upd (upd H dx (.own x)) x (.ins C dx []))
section
variable {X : Cx} {C : Addr} {x : Str} {p pos : Pos}
theorem pe_new0 (M : Mk0 X.K C) (hg : Gl X x) (hm : X.mg x = some (.ref C)) (hdb : (x == ("__debug__" : Str)) = false := by decide) : PE X (.Call (.Name x p) [] [] pos) (tMake0 C) := by
  refine ⟨fun pins s σ H Q I h => ?_⟩
  refine wpAny_Call_Name_kw (ld_glob I hg hm ?_ hdb)
  refine PySem.W.callWith_K0 I.kIn M.kp ?_
  have I2 := Inv.made (C := C) I
  have hq := h (s.heap.objs.size + 1) s.heap.objs.size (I.hok.fresh (Nat.le_succ _)) (I.hok.fresh (Nat.le_refl _)) (Nat.ne_of_lt (Nat.lt_succ_self _))
  refine wpAny_call (make_map0 I.kIn M.makes M.init (fun self => PySem.W.Looks.of_pure (PySem.W.oi_bind self)) ?_)
  have Y := PySem.W.makes_of (M := model X.prog X.w) I.kIn M.makes
  obtain ⟨hh, g, d, tk, os⟩ := s
  have hx : ((hh.push PySem.W.emptyDict).push (PySem.W.instObj C hh.objs.size)).get? (hh.objs.size + 1) = some (PySem.W.instObj C hh.objs.size) := by heap_get
  have t1 : PySem.W.Looks (model X.prog X.w) ((hh.push PySem.W.emptyDict).push (PySem.W.instObj C hh.objs.size)) (typeOf (.ref (hh.objs.size + 1))) (.ref C) := (PySem.W.Looks.ld hx).andThen .now
  have t2 : PySem.W.Looks (model X.prog X.w) ((hh.push PySem.W.emptyDict).push (PySem.W.instObj C hh.objs.size)) (isInstance (.ref (hh.objs.size + 1)) (.type "object")) true := t1.andThen (Y.top.keeps fun b o e => Heap.get?_push_of_some _ (Heap.get?_push_of_some _ e))
  refine codeAny_call_builtin PySem.W.oi_plain PySem.W.entry_oi (@PySem.W.check_slot (model X.prog X.w) _ _ _ "object.__init__" "object" "__init__" (.ref (hh.objs.size + 1)) [] [] _ PySem.W.oi_kind PySem.W.oi_split t2 (PySem.W.oi_args (.ref (hh.objs.size + 1))) ?_)
  rw [PySem.W.oi_run]
  exact wpAny_pure (And.intro rfl ⟨V.ref (hh.objs.size + 1), _, I2, rfl, hq⟩)
end
section
variable {e : En} {c : String}
def xNew0 (c : String) : State → Option (String × List (Str × D)) := fun _ => some (c, [])
theorem eb_new0 : Evb e (tMake0 (e.cls c)) (xNew0 c) := fun cn L S σ H α x R h Q q => by
  cases h
  intro p dx hp hdx hne
  have sN : Same H (upd (upd H dx (.own p)) p (.ins (e.cls c) dx [])) := fun b o z => by rw [upd_ne (ne_of_none z hp), upd_ne (ne_of_none z hdx)]; exact z
  exact q p dx [] _ sN hp upd_same rfl
@[simp] theorem a_xNew0 {α : State} : xNew0 c α = some (c, []) := (rfl)
end
end Ab
end
section
set_option maxRecDepth 100000
set_option maxHeartbeats 1000000
namespace Ab
open PySem L2 PyProof.Rows PySem.Spec
section
variable {e : En} {E : XK} {te to ta tb : TE} {tr : TA}
/-! ### operators with side effects -/
def r2 (f : D → D → Option D) (sa sb : State → Res D) : State → Res D := fun α => match sa α with
  | .ok a α1 => (match sb α1 with
    | .ok b α2 => (match f a b with | some d => .ok d α2 | none => .bad)
    | .exc x => .exc x | .bad => .bad)
  | .exc x => .exc x | .bad => .bad
theorem ee_op {r : R2} {f : D → D → Option D} {sa sb : State → Res D} (hr : RvD e r f) (ha : Eve e E ta sa) (hb : Eve e E tb sb) : Eve e E (tOp r ta tb) (r2 f sa sb) := fun c L S σ H α R Q k kx nb => by
  unfold r2 at k kx nb
  refine ha c L S σ H α R _ (fun a α1 hs v H1 m1 R1 r1 => ?_) (fun x hx => kx x (by rw [hx])) (fun hb => nb (by rw [hb]))
  rw [hs] at k kx nb
  dsimp only at k kx nb
  refine hb c L S σ H1 α1 R1 _ (fun b α2 hs2 u H2 m2 R2 r2 => ?_) (fun x hx => kx x (by rw [hx])) (fun hb => nb (by rw [hb]))
  rw [hs2] at k nb
  dsimp only at k nb
  cases hf : f a b with
  | none => rw [hf] at nb; exact absurd rfl nb
  | some d =>
    rw [hf] at k
    exact hr L H2 a b v u d R2.dom (Rep.up r1 (fz_mod m2 R1.sub)) r2 hf Q fun w H3 e3 r3 => k d α2 rfl w H3 ((m1.trans m2).trans (.of e3)) (R2.up e3) r3
/-- what a making gives -/
def mkV (c : String) (m : List A → MRes) (ds : List D) : Option (List (Str × D)) := match m (.inn (.obj c []) :: ds.map .dat) with
  | .ok (.dat .non) (.inn (.obj c' fs) :: _) => if c' = c then some fs else none
  | _ => none
theorem mkV_some {c : String} {m : List A → MRes} {ds : List D} {fs : List (Str × D)} (h : mkV c m ds = some fs) : ∃ rest, m (.inn (.obj c []) :: ds.map .dat) = .ok (.dat .non) (.inn (.obj c fs) :: rest) := by
  unfold mkV at h
  generalize m (.inn (.obj c []) :: ds.map .dat) = r at *
  split at h
  · rename_i c' fs' rest
    split at h
    · rename_i hc
      cases h; subst hc; exact ⟨rest, rfl⟩
    · cases h
  · cases h
theorem make_step {c : String} {m : List A → MRes} {cn : Cn} {L S : List Addr} {σ : L2.St} {H1 : Hp} {α1 : State} {ds : List D} {vs : List V} {fs : List (Str × D)} {Q : VK} (R1 : Rel e cn L S σ H1 α1) (r1 : Reps e (fz L H1) ds vs) (h : mkV c m ds = some fs)
    (q : ∀ p dx gs H', Same H1 H' → H1 p = none → H' p = some (.ins (e.cls c) dx gs) → RepF e (fz (p :: L) H') fs gs → Q (.ref p) H') (p dx : Addr) (hp : H1 p = none) (hdx : H1 dx = none) (hne : dx ≠ p) :
    spM e m (.ref p :: (vs ++ [])) (upd (upd H1 dx (.own p)) p (.ins (e.cls c) dx [])) (fun v H2 => v = .non ∧ Q (.ref p) H2) E := by
  obtain ⟨rest, hm0⟩ := mkV_some h
  have hpL : p ∉ L := fresh_nL R1.dom hp
  have hdL : dx ∉ L := fresh_nL R1.dom hdx
  have sN : Same H1 (upd (upd H1 dx (.own p)) p (.ins (e.cls c) dx [])) := fun b o z => by rw [upd_ne (ne_of_none z hp), upd_ne (ne_of_none z hdx)]; exact z
  refine ⟨p :: L, [p], .inn (.obj c []) :: ds.map .dat, fun b hb => ?_, fun b hb => by simp at hb; subst hb; simp, by simp only [innCount, count_dats]; omega, ⟨.ref p, vs ++ [], rfl, ⟨p, _, rfl, by simp, upd_same, ⟨dx, [], rfl, rfl⟩⟩, by rw [List.append_nil]; exact asrep_dats (r1.up (fz_cons sN hp))⟩, ?_, ?_, ?_⟩
  · rcases List.mem_cons.mp hb with rfl | hb
    · rw [upd_same]; simp
    · exact (dom_up sN R1.dom) b hb
  · intro r as' hm v H' md ar rr
    rw [hm0] at hm
    cases hm
    obtain ⟨v0, w0, q0, ⟨p0, o0, q1, m0, ho, rc⟩, _⟩ := ar
    cases q0
    cases q1
    obtain ⟨dx', gs, rfl, rF⟩ := rc
    refine ⟨rr, q p dx' gs H' (fun b o z => ?_) hp ho rF⟩
    exact md b o (sN b o z) (by simp only [List.mem_singleton]; exact ne_of_none z hp)
  · intro x' hm
    rw [hm0] at hm
    cases hm
  · intro hm
    rw [hm0] at hm
    cases hm
/-- C(..), its arguments with side effects: data -/
def rMake (c : String) (m : List A → MRes) (sr : State → Res (List Arg)) : State → Res D := fun α => match sr α with
  | .ok as α1 => (match bnd (datas as) (mkV c m) with | some fs => .ok (.ins c fs) α1 | none => .bad)
  | .exc x => .exc x | .bad => .bad
theorem ee_make {c : String} {m : List A → MRes} {sr : State → Res (List Arg)} (h : EvaE e E tr sr) : Eve e E (tMake (e.cls c) (spM e m) [] E0 tr) (rMake c m sr) := fun cn L S σ H α R Q k kx nb => by
  unfold rMake at k kx nb
  refine h cn L S σ H α R _ (fun as α1 hs vs H1 m1 R1 ra => ?_) (fun x hx => kx x (by rw [hx])) (fun hb => nb (by rw [hb]))
  rw [hs] at k nb
  dsimp only at k nb
  cases hb : bnd (datas as) (mkV c m) with
  | none => rw [hb] at nb; exact absurd rfl nb
  | some fs =>
    rw [hb] at k
    obtain ⟨ds, h1, h2⟩ := bnd_some hb
    have r1 := datas_rep h1 ra
    exact fun p dx hp hdx hne => make_step R1 r1 h2 (fun p dx gs H' e1 n hp r => k _ α1 rfl _ H' (m1.trans (.of e1)) (R1.up e1) ⟨p, dx, gs, rfl, fz_new (fresh_nL R1.dom n) hp, RepF.mono (fz_anti fun a m => List.mem_cons_of_mem _ m) _ _ r⟩) p dx hp hdx hne
/-! ### x.pop(k) -/
theorem Reps.erase {F : Hp} : ∀ {ds : List D} {vs : List V} (n : Nat), Reps e F ds vs → Reps e F (ds.eraseIdx n) (vs.eraseIdx n)
  | [], _, n, r => by cases r; exact Reps.nil
  | d :: ds, _, 0, ⟨v, r, q, x, y⟩ => by subst q; exact y
  | d :: ds, _, n + 1, ⟨v, r, q, x, y⟩ => by subst q; exact Reps.cons x (Reps.erase n y)
def xPopAt (i : Nat) (s : State → Option D) : State → Res D := fun α => match s α, ctOf α[i]? with
  | some (.int z), some (.lst xs) => if rngOk z = true then (match seqIndex? z xs.length with
    | some j => (match xs[j]? with | some d => .ok d (putC α i (.lst (xs.eraseIdx j))) | none => .bad)
    | none => .bad) else .bad
  | _, _ => .bad
theorem ee_popAt (i : Nat) {s : State → Option D} (hs : Evp e te s) : Eve e E (tBM e.K "list" rPopAt (tVar i) (tCons te tNil)) (xPopAt i s) := fun c L S σ H α R Q k kx nb => by
  unfold xPopAt at k nb
  split at nb
  · rename_i z xs hz hc
    split at nb
    · rename_i hrng
      cases hj : seqIndex? z xs.length with
      | none => rw [hj] at nb; exact absurd rfl nb
      | some j =>
        simp only [hj] at nb
        cases hd : xs[j]? with
        | none => rw [hd] at nb; exact absurd rfl nb
        | some d =>
          simp only [hz, hc, if_pos hrng, hj, hd] at k
          obtain ⟨p, o, h1, m1, ho, vs, rfl, r1⟩ := R.at hc
          obtain ⟨v, hv, rv⟩ := r1.get hd
          refine ⟨.ref p, h1, .inl ⟨rfl, vs, SqL.of ho⟩, ?_⟩
          refine hs c L S σ H α _ R hz _ fun v2 H2 e2 r2 => ?_
          cases r2
          have hr := rngOk_iff.mp hrng
          refine ⟨p, vs, z, j, v, rfl, rfl, e2 _ _ ho, by have : (-(2 ^ 63) : Int) ≤ -(2 ^ 62) := by decide
                                                          omega, by have : (2 ^ 62 : Int) ≤ 2 ^ 63 := by decide
                                                                    omega, by rw [r1.len]; exact hj, hv, ?_⟩
          obtain ⟨R2, m2⟩ := (R.up e2).mut hc h1 (o := .lst (vs.eraseIdx j)) (ct' := .lst (xs.eraseIdx j)) ⟨_, rfl, (r1.up (fz_same e2)).erase j⟩
          exact k d _ rfl v _ (Mod.trans (.of e2) m2) R2 (rv.up ((fz_same e2).trans (fz_mod m2 R.sub)))
    · exact absurd rfl nb
  · exact absurd rfl nb
/-! ### l.index(x) of flat things -/
def ixF (ds : List D) (d : D) : Option Nat := ds.findIdx? fun x => eqV (dv x) (dv d)
def xIdxF (sq : State → Option (List D)) (s : State → Option D) : State → Option D := fun α => bnd (sq α) fun ds => bnd (s α) fun d => if (flat d && ds.all flat) = true then (ixF ds d).map fun (j : Nat) => D.int (j : Int) else none
theorem ev_idxF {sq : State → Option (List D)} {s : State → Option D} (h : EvqL e te sq) (hs : Evp e ta s) : Evp e (tBM e.K "list" (rIndex e.K) te (tCons ta tNil)) (xIdxF sq s) := fun c L S σ H α d R q Q k => by
  obtain ⟨ds, h1, q⟩ := bnd_some q
  obtain ⟨x, h2, q⟩ := bnd_some q
  split at q
  · rename_i hf
    simp only [Bool.and_eq_true] at hf
    cases hj : ixF ds x with
    | none => rw [hj] at q; cases q
    | some j =>
      rw [hj] at q; cases q
      refine h c L S σ H α ds R h1 _ fun a vs H1 e1 r1 r2 => ?_
      have := reps_flat hf.2 r2
      subst this
      refine ⟨.inl ⟨rfl, _, r1⟩, ?_⟩
      refine hs c L S σ H1 α _ (R.up e1) h2 _ fun v H2 e2 r3 => ?_
      have := rep_flat hf.1 r3
      subst this
      unfold ixF at hj
      obtain ⟨hlt, hp, hq⟩ := List.findIdx?_eq_some_iff_getElem.mp hj
      refine ⟨a, ds.map dv, dv x, j, dv ds[j], rfl, rfl, e2.seq r1, flatV_dv hf.1, flatV_dvs hf.2, by rw [List.getElem?_map, List.getElem?_eq_getElem hlt]; rfl, hp, fun m z' hm hz' => ?_, k _ H2 (e1.trans e2) rfl⟩
      rw [List.getElem?_map] at hz'
      have hml : m < ds.length := by omega
      rw [List.getElem?_eq_getElem hml] at hz'
      cases hz'
      have := hq m hm
      simpa using this
  · cases q
/-! ### a def that changes a list, given a new one that is forgotten -/
def Evan (e : En) (ta : TA) (s : State → Option (List D × List D × List D)) : Prop := ∀ c L S σ H α x, Rel e c L S σ H α → s α = some x → ∀ Q : List V → Hp → Prop, (∀ us p vs ws H', Same H H' → H p = none → H' p = some (.lst vs) → Reps e (fz (p :: L) H') x.1 us → Reps e (fz (p :: L) H') x.2.1 vs → Reps e (fz (p :: L) H') x.2.2 ws → Q (us ++ .ref p :: ws) H') → ta σ H Q
def nHere (sl sr : State → Option (List D)) : State → Option (List D × List D × List D) := fun α => bnd (sl α) fun xs => bnd (sr α) fun bs => some ([], xs, bs)
def nNext (s : State → Option D) (sn : State → Option (List D × List D × List D)) : State → Option (List D × List D × List D) := fun α => bnd (s α) fun d => bnd (sn α) fun x => some (d :: x.1, x.2)
theorem an_here {tl : TE} {sl sr : State → Option (List D)} (hl : Evl e tl sl) (hr : Eva e tr sr) : Evan e (tCons tl tr) (nHere sl sr) := fun c L S σ H α x R q Q k => by
  obtain ⟨xs, h1, q⟩ := bnd_some q
  obtain ⟨bs, h2, q⟩ := bnd_some q
  cases q
  refine hl c L S σ H α xs R h1 _ fun p vs H1 e1 n hp r1 => ?_
  have R1 : Rel e c (p :: L) S σ H1 α := R.more e1 n hp
  refine hr c (p :: L) S σ H1 α bs R1 h2 _ fun ws H2 e2 r2 => ?_
  exact k [] p vs ws H2 (e1.trans e2) n (e2 _ _ hp) Reps.nil (r1.up (fz_same e2)) r2
theorem an_next {s : State → Option D} {sn : State → Option (List D × List D × List D)} (h : Evp e te s) (hn : Evan e tr sn) : Evan e (tCons te tr) (nNext s sn) := fun c L S σ H α x R q Q k => by
  obtain ⟨d, h1, q⟩ := bnd_some q
  obtain ⟨y, h2, q⟩ := bnd_some q
  cases q
  refine h c L S σ H α d R h1 _ fun v H1 e1 r1 => ?_
  refine hn c L S σ H1 α y (R.up e1) h2 _ fun us p vs ws H2 e2 n hp r2 r3 r4 => ?_
  exact k (v :: us) p vs ws H2 (e1.trans e2) (none_back e1 n) hp (Reps.cons (r1.up (fz_cons e2 n)) r2) r3 r4
def xCallN (m : List A → MRes) (s : State → Option (List D × List D × List D)) : State → Option D := fun α => bnd (s α) fun x => match m (x.1.map .dat ++ .inn (.lst x.2.1) :: x.2.2.map .dat) with | .ok (.dat d) _ => some d | _ => none
theorem asrep_app {L S : List Addr} {H : Hp} : ∀ {as bs : List A} {us vs : List V}, AsRep e L S H as us → AsRep e L S H bs vs → AsRep e L S H (as ++ bs) (us ++ vs)
  | [], _, _, _, r, s => by cases r; exact s
  | a :: as, _, _, _, ⟨v, w, q, r1, r2⟩, s => by subst q; exact ⟨v, _, rfl, r1, asrep_app r2 s⟩
theorem count_app : ∀ (as bs : List A), innCount (as ++ bs) = innCount as + innCount bs
  | [], bs => by simp [innCount]
  | a :: as, bs => by cases a <;> simp only [List.cons_append, innCount, count_app as bs] <;> omega
theorem ev_callN {ta' : TA} {m : List A → MRes} {s : State → Option (List D × List D × List D)} (h : Evan e ta' s) : Evp e (tCall (spM e m) [] E0 ta') (xCallN m s) := fun c L S σ H α d R q Q k => by
  obtain ⟨x, h1, q⟩ := bnd_some q
  refine h c L S σ H α x R h1 _ fun us p vs ws H1 e1 n hp r1 r2 r3 => ?_
  have R1 : Rel e c (p :: L) S σ H1 α := R.more e1 n hp
  show spM e m ((us ++ .ref p :: ws) ++ []) H1 Q E0
  rw [List.append_nil]
  refine ⟨p :: L, [p], x.1.map .dat ++ .inn (.lst x.2.1) :: x.2.2.map .dat, R1.dom, fun b hb => by simp at hb; subst hb; simp, ?_, asrep_app (asrep_dats r1) (bs := .inn (.lst x.2.1) :: x.2.2.map .dat) ⟨.ref p, ws, rfl, ⟨p, _, rfl, by simp, hp, vs, rfl, r2⟩, asrep_dats r3⟩, ?_, ?_, ?_⟩
  · rw [count_app, count_dats]; simp only [innCount, count_dats]; omega
  · intro r as' hm v H' md ar rr
    rw [hm] at q
    cases r with
    | lst xs => cases q
    | dat d' =>
      cases q
      refine k v H' (fun b o z => md b o (e1 b o z) (by simp only [List.mem_singleton]; exact ne_of_none z n)) (Rep.up rr (fz_anti fun a m => List.mem_cons_of_mem _ m))
  · intro x' hm; rw [hm] at q; cases q
  · intro hm; rw [hm] at q; cases q
@[simp] theorem a_nHere {sl sr : State → Option (List D)} {α : State} : nHere sl sr α = bnd (sl α) fun xs => bnd (sr α) fun bs => some ([], xs, bs) := (rfl)
@[simp] theorem a_nNext {s : State → Option D} {sn : State → Option (List D × List D × List D)} {α : State} : nNext s sn α = bnd (s α) fun d => bnd (sn α) fun x => some (d :: x.1, x.2) := (rfl)
@[simp] theorem a_xCallN {m : List A → MRes} {s : State → Option (List D × List D × List D)} {α : State} : xCallN m s α = bnd (s α) fun x => match m (x.1.map .dat ++ .inn (.lst x.2.1) :: x.2.2.map .dat) with | .ok (.dat d) _ => some d | _ => none := (rfl)
end
theorem mtpopat {X : Cx} {K : PySem.W.Frag} (h : X.K = K) : MtM X "list.pop" rPopAt := mt_popAt
section
variable {α : State} {i : Nat} {s : State → Option D} {sq : State → Option (List D)} {ra rb : State → Res D} {rl : State → Res (List Arg)}
@[simp] theorem a_r2 {f : D → D → Option D} : r2 f ra rb α = (match ra α with
  | .ok a α1 => (match rb α1 with
    | .ok b α2 => (match f a b with | some d => .ok d α2 | none => .bad)
    | .exc x => .exc x | .bad => .bad)
  | .exc x => .exc x | .bad => .bad) := (rfl)
@[simp] theorem a_rMake {c : String} {m : List A → MRes} : rMake c m rl α = (match rl α with
  | .ok as α1 => (match bnd (datas as) (mkV c m) with | some fs => .ok (.ins c fs) α1 | none => .bad)
  | .exc x => .exc x | .bad => .bad) := (rfl)
@[simp] theorem a_xPopAt : xPopAt i s α = (match s α, ctOf α[i]? with
  | some (.int z), some (.lst xs) => if rngOk z = true then (match seqIndex? z xs.length with
    | some j => (match xs[j]? with | some d => .ok d (putC α i (.lst (xs.eraseIdx j))) | none => .bad)
    | none => .bad) else .bad
  | _, _ => .bad) := (rfl)
@[simp] theorem a_xIdxF : xIdxF sq s α = bnd (sq α) fun ds => bnd (s α) fun d => if (flat d && ds.all flat) = true then (ixF ds d).map fun (j : Nat) => D.int (j : Int) else none := (rfl)
end
end Ab
end
section
set_option maxRecDepth 100000
set_option maxHeartbeats 1000000
namespace Ab
open PySem L2 PyProof.Rows PySem.Spec
/-! ### own exceptions with __init__ and one field -/
section
variable {X : Cx} {C : Addr} {mc : Value} {e : Expr} {es : List Expr} {x : Str} {pos p1 p2 : Pos} {ta : TA} {pl : Sem Bool}
/-- B.__init__(self, ..), B an own class that has ValueError's -/
theorem pe_vei (hg : Gl X x) (hm : X.mg x = some (.ref C)) (r : ClX.CRead X.K C mc) (cv : PySem.W.findCls X.K (.ref C) mc "__init__" = some (.val (.builtin "ValueError.__init__"))) (ha : PA X (e :: es) ta)
    (he : starEach (e :: es) X.env = (false, eval e X.env) :: starEach es X.env := by rfl) (hpl : (backTo pos (starEach es X.env)).any (·.1) = false := by rfl) (hdb : (x == ("__debug__" : Str)) = false := by decide)
    (ht : eval (.Call (.Attribute (.Name x p1) "__init__" p2) (e :: es) [] pos) X.env = (do
      let ov ← eval (.Name x p1) X.env
      standAt p2.atName
      let (f, first) ← holding [ov] (getMethod ov "__init__" pl)
      callWith pos f first (backTo pos (starEach (e :: es) X.env)) (backToKw pos (keywordEach [] X.env))) := by rfl) :
    PE X (.Call (.Attribute (.Name x p1) "__init__" p2) (e :: es) [] pos) (tVeI X.K ta) := by
  refine ⟨fun pins s σ H Q I h => ?_⟩
  refine PySem.W.methodCall_KW (pl := pl) (ld_glob I hg hm ?_ hdb) ht
  refine PySem.W.method_cls I.kIn r.ga (PySem.W.cls_value I.kIn r.rd cv (by decide +kernel) ?_)
  have I0 := I.tok (s.toks + 1)
  show wpAny _ _ (callWith pos (Value.builtin "ValueError.__init__") [] (backTo pos (starEach (e :: es) X.env)) []) _ _ _
  refine PyProof.Rows.callWith_method1 (thn (ha.run pos pins _ σ H _ I0 h) fun us s1 ⟨vs, H1, I1, r1, a, C, ws, ev, hl, T, ea, q⟩ => ?_) he hpl
  subst ev
  cases r1 with
  | @cons _ u0 _ ur ra rw' =>
    obtain rfl : u0 = Value.ref a := ra
    have hlen : ur.length ≤ sizeLine := by
      rw [← Paired.length rw', sizeLine_eq]
      omega
    exact oinit_ok T I1 ea hlen fun s' J => ⟨.non, H1, J, rfl, q⟩
end
/-- __init__(self, x): B.__init__(self, ".."); self.f = x -/
def spXI (C : Addr) (f : Str) : Sp := fun vs H Q _ => ∃ a y, vs = [.ref a, y] ∧ H a = some (exo a C none) ∧ ∀ dx, H dx = none → dx ≠ a → Q .non (upd (upd H dx (exd dx [(f, y)])) a (exo a C (some dx)))
section
variable {P : Program} {w : World} {K : PySem.W.Frag} {mg : Str → Option Value} {base : Heap}
theorem fn_XI {x qual : Str} {st : Stmt} {f C : Addr} {fd : FuncData} {a fl : Str} {tx : V} {k : Nat} (F : Fun K x qual st f fd) (S : FnScope ["self", a] ["self", a] (defScope st)) (T : OexC K C) (hno : PySem.W.findIn K (.ref C) fl = some none)
    (hbody : ∀ (cdv : Value) (A : Around) (outer : List Env) (s0 : Shared) (H : Hp) (E : XK), Room k (A.deeper (envOfC qual (defScope st) s0.heap.objs.size f cdv)) →
      PSs (cxOf CX0 P w K mg base ["self", a] qual (defScope st) f cdv A outer s0 H E).nox (defBody st) (tSeq (tDrop (tVeI K (tCons (tVar 0) (tCons (tC tx) tNil)))) (tOst K fl (tVar 0) (tVar 1)))) :
    FnOk P w K mg base CX0 (k + 1) f fd ["self", a] (spXI C fl) := by
  refine F.ok S (fun vs H Q E ⟨p, y, h, _⟩ => by rw [h]; rfl) (fun cdv A outer s0 H vs Q E hr h => ?_)
  obtain ⟨p, y, rfl, hp, q⟩ := h
  refine ⟨_, hbody cdv A outer s0 H E hr, ?_⟩
  refine ⟨.ref p, rfl, p, C, [tx], rfl, Nat.le_of_ble_eq_true rfl, T, hp, ?_⟩
  exact ⟨y, rfl, .ref p, rfl, p, C, rfl, T, hno, .inl ⟨hp, fun dx h1 h2 => q dx h1 h2⟩⟩
end
/-- raise C(e) -/
def sRaise1 (nm : String) (f : Str) (s : State → Option D) : State → Out := fun α => match s α with | some d => .exc ⟨nm, [(f, d)]⟩ | none => .bad
section
variable {e : En} {E : XK} {te : TE}
theorem st_raise1 {nm : String} {f : Str} {s : State → Option D} (h : Evp e te s) : Sts e E (fun _ σ H => tMkO (e.cls nm) (spXI (e.cls nm) f) [] (tCons te tNil) σ H fun cls d H' => E cls d H') (sRaise1 nm f s) := fun c L S σ H α D R k => by
  unfold sRaise1 at k
  cases hs : s α with
  | none => rw [hs] at k; exact k.elim
  | some d =>
    rw [hs] at k
    refine h c L S σ H α d R hs _ fun v H1 e1 r1 => ⟨by show 1 ≤ 1000; decide, fun a ha => ?_⟩
    refine ⟨a, v, rfl, upd_same, fun dx hdx hne => ⟨rfl, dx, [(f, v)], upd_same, ?_, ?_, ?_⟩⟩
    · rw [upd_ne hne, upd_same]
    · rw [upd_ne hne] at hdx; exact hdx
    · have hd1 : H1 dx = none := by rw [upd_ne hne] at hdx; exact hdx
      have same : Same H1 (upd (del (upd (upd (upd H1 a (exo a (e.cls nm) none)) dx (exd dx [(f, v)])) a (exo a (e.cls nm) (some dx))) a) dx (.xd [(f, v)])) := fun b o hb => by
        have hba : b ≠ a := ne_of_none hb ha
        have hbd : b ≠ dx := ne_of_none hb hd1
        rw [upd_ne hbd, del_ne hba, upd_ne hba, upd_ne hbd, upd_ne hba]
        exact hb
      refine k _ _ _ (R.md.trans (.of (e1.trans same))) ⟨rfl, .inr ⟨dx, [(f, v)], rfl, upd_same, v, [], rfl, ?_, rfl⟩⟩ (fun p hp => by cases hp; exact (R.up e1).h0 hd1)
      exact Rep.up (d := d) r1 ((fz_same same).trans (fz_anti R.l0))
end
/-! ### defs that may raise -/
inductive XR where
  | ok (d : D) | exc (x : Exn) | bad
def spX (e : En) (m : List D → XR) : Sp := fun vs H Q E => ∃ L ds, Dom L H ∧ Reps e (fz L H) ds vs ∧ (∀ d, m ds = .ok d → ∀ v H', Same H H' → Rep e (fz L H') d v → Q v H') ∧ (∀ x, m ds = .exc x → ∀ cls dd H', Same H H' → XRep e (fz L H') H' x cls dd → (∀ p, dd = some p → H p = none) → E cls dd H') ∧ m ds ≠ .bad
def runX (n k : Nat) (s : State → Out) : List D → XR := fun ds => if ds.length = k then (match s (inP n k ds) with
  | .ret (.dat d) _ => .ok d | .ret (.lst xs) _ => .ok (.lst xs) | .nxt _ => .ok .non | .exc x => .exc x | _ => .bad) else .bad
section
variable {P : Program} {w : World} {K : PySem.W.Frag} {mg : Str → Option Value} {base : Heap}
theorem fn_X {cls : String → Addr} {x qual : Str} {st : Stmt} {f : Addr} {fd : FuncData} {N ps : List Str} {k : Nat} (s : State → Out) (F : Fun K x qual st f fd) (S : FnScope N ps (defScope st)) {n kk : Nat} (hn : N.length = n) (hkk : ps.length = kk) (hps : kk ≤ n) {m : List D → XR} (hmm : m = runX n kk s)
    (hbody : ∀ (cdv : Value) (A : Around) (outer : List Env) (s0 : Shared) (H : Hp) (E : XK), Room k (A.deeper (envOfC qual (defScope st) s0.heap.objs.size f cdv)) →
      ∃ t, PSs (cxOf (L2.CX P w) P w K mg base N qual (defScope st) f cdv A outer s0 H E) (defBody st) t ∧ Sts ⟨K, cls⟩ E t s) : FnOk P w K mg base (L2.CX P w) (k + 1) f fd ps (spX ⟨K, cls⟩ m) := by
  subst hn hkk hmm
  refine F.okX S (fun vs H Q E h => ?_) (fun cdv A outer s0 H vs Q E hr h => ?_)
  · obtain ⟨L, ds, dm, r, _, _, hb⟩ := h
    unfold runX at hb
    split at hb
    · rename_i hl
      rw [r.len, hl]
    · exact absurd rfl hb
  · obtain ⟨L, ds, dm, r, q, qx, hb⟩ := h
    obtain ⟨t, h1, h2⟩ := hbody cdv A outer s0 H E hr
    refine ⟨t, h1, ?_⟩
    unfold runX at q qx hb
    split at hb
    · rename_i hl
      rw [if_pos hl] at q qx
      have hvl : vs.length = ps.length := by rw [r.len, hl]
      have R := inP_rel (N := N) dm r (by omega)
      rw [hvl] at R
      refine h2 _ _ _ _ _ _ _ R ?_
      cases hs : s (inP N.length ps.length ds) with
      | ret rv β =>
        cases rv with
        | dat d' =>
          rw [hs] at q
          intro v L' S' σ' H' R' rr
          exact q d' rfl v H' R'.md.same (Rep.mono (fz_anti R'.l0) _ _ rr)
        | lst xs =>
          rw [hs] at q
          intro v L' S' σ' H' R' rr
          obtain ⟨p, us, rfl, n0, hp, r2⟩ := rr
          refine q (.lst xs) rfl _ H' R'.md.same ⟨p, us, rfl, .inl (.inl (fz_new (fun m => R'.d0 p m n0) hp)), r2.up (fz_anti fun a m => List.mem_cons_of_mem _ (R'.l0 a m))⟩
      | nxt β =>
        rw [hs] at q
        intro L' S' σ' H' _ R'
        exact q .non rfl _ H' R'.md.same rfl
      | exc x =>
        rw [hs] at qx
        intro cls dd H' m xr fr
        exact qx x rfl cls dd H' m.same xr fr
      | brk β => rw [hs] at hb; exact absurd rfl hb
      | cnt β => rw [hs] at hb; exact absurd rfl hb
      | bad => rw [hs] at hb; exact absurd rfl hb
    · exact absurd rfl hb
end
/-! ### try: x = f(..) except C: suite -/
def sTry (i : Nat) (m : List D → XR) (sa : State → Option (List D)) (caught : List String) (suite : State → Out) : State → Out := fun α => match bnd (sa α) (fun ds => some (m ds)) with
  | some (.ok d) => .nxt (α.set i (some (.dat d)))
  | some (.exc x) => if x.name ∈ caught then suite α else .bad
  | _ => .bad
section
variable {e : En} {E : XK} {te : TE} {ta : TA} {tu : TS}
theorem st_try {i : Nat} {m : List D → XR} {sa : State → Option (List D)} {caught : List String} {suite : State → Out} {c0 : Value} {K : PySem.W.Frag} (hx : ∀ nm ∈ caught, PySem.W.exmOne K (.ref (e.cls nm)) c0 = some true) (h : Eva e ta sa) (hu : Sts e E tu suite) :
    Sts e E (fun D σ H => tAsg (tCallS (spX e m) (WE (wOnly K c0 (fun _ _ _ => tu) (fun _ _ _ _ => False) D)) ta) (gName i) D σ H) (sTry i m sa caught suite) := fun c L S σ H α D R k => by
  unfold sTry at k
  cases hs : sa α with
  | none => rw [hs] at k; exact k.elim
  | some ds =>
    rw [hs] at k
    change OutOk e E c D (fz L H) (match some (m ds) with
      | some (.ok d) => .nxt (α.set i (some (.dat d)))
      | some (.exc x) => if x.name ∈ caught then suite α else .bad
      | _ => .bad) at k
    refine h c L S σ H α ds R hs _ fun vs H1 e1 r1 => ?_
    have R1 := R.up e1
    refine ⟨L, ds, R1.dom, r1, fun d hm v H' s2 rv => ?_, fun x hm cls dd H' s2 xr fr => ?_, fun hm => ?_⟩
    · rw [hm] at k
      exact k L S _ H' (fz_same (e1.trans s2)) ((R1.up s2).setD rv)
    · rw [hm] at k
      dsimp only at k
      split at k
      · rename_i hmem
        refine ⟨true, ?_, fun _ a ha => ?_, fun z => nomatch z⟩
        · rw [xr.1]; exact hx _ hmem
        · exact hu c L S σ H' α D (R1.up s2) (k.mono (fz_same (e1.trans s2)))
      · exact k.elim
    · rw [hm] at k; exact k.elim
end
/-- a def of the top that may raise -/
structure CalX (P : Program) (w : World) (K : PySem.W.Frag) (mg : Str → Option Value) (base : Heap) (x : Str) (ps : List Str) (k : Nat) (sp : Sp) : Prop where
  ex : ∃ f fd, FnOk P w K mg base (L2.CX P w) k f fd ps sp ∧ mg x = some (.ref f) ∧ PySem.W.keepIn K (.ref f) = true ∧ Binds K fd ps []
section
variable {X : Cx} {x : Str} {ps : List Str} {k j : Nat} {sp : Sp} {p pos : Pos} {e : Expr} {es : List Expr} {t : TA} {W : WX}
theorem pe_calX (C : CalX X.prog X.w X.K X.mg X.base x ps k sp) (hr : Room j X.A) (hkj : k ≤ j) (hg : Gl X x) (tk : Takes X W) (ha : PA X (e :: es) t) (hdb : (x == ("__debug__" : Str)) = false := by decide) (he : starEach (e :: es) X.env = (false, eval e X.env) :: starEach es X.env := by rfl) (hpl : (backTo pos (starEach es X.env)).any (·.1) = false := by rfl) :
    PE X (.Call (.Name x p) (e :: es) [] pos) (tCallS sp (WE W) t) := by
  obtain ⟨f, fd, G, hm, hk, hb⟩ := C.ex
  exact pe_callS G (hr.mono hkj) hg hm hk hb (fun σ => passAt tk σ) ha hdb he hpl
end
/-- try: x = f(..) except C: suite -/
theorem ps_tryset {X : Cx} {i k j : Nat} {y f n : Str} {c : Value} {ps : List Str} {sp : Sp} {a : Expr} {as : List Expr} {ta : TA} {tu : TS} {b₀ : Stmt} {suite : List Stmt} {p1 p2 p3 p4 np pos pos' : Pos}
    (hs : X.stack = X.env :: X.outer) (hf : X.env.frame = some X.env.locals) (hN : X.N.Nodup) (hi : X.N[i]? = some y) (hy : Loc X.env.scope y) (hy2 : X.env.scope.names.lookup y = some .local) (C : CalX X.prog X.w X.K X.mg X.base f ps k sp) (hr : Room j X.A) (hkj : k ≤ j) (hg : Gl X f) (hc : Names X n c)
    (ha : ∀ (W : WX) (pn : List (Addr × Obj)) (xe : Value → Shared → Prop), PA (X.tr pn xe) (a :: as) ta)
    (hsu : ∀ (b : Addr) (oe : Obj) (cls : Value) (d : Option Addr) (pn : List (Addr × Obj)), PSs (X.suite b ((b, oe) :: pn)) (b₀ :: suite) tu)
    (hsw : swapsWith (.Call (.Name f p1) (a :: as) [] p2) (some (.Name y p3)) p4.line X.env = pure false := by rfl)
    (hdb : (f == ("__debug__" : Str)) = false := by decide) (he : starEach (a :: as) X.env = (false, eval a X.env) :: starEach as X.env := by rfl) (hpl : (backTo p2 (starEach as X.env)).any (·.1) = false := by rfl) :
    PS X (.Try [.Assign [.Name y p3] (.Call (.Name f p1) (a :: as) [] p2) p4] [.ExceptHandler (some (.Name n np)) none (b₀ :: suite) pos'] [] [] pos) (fun D σ H => tAsg (tCallS sp (WE (wOnly X.K c (fun _ _ _ => tu) (fun _ _ _ _ => False) D)) ta) (gName i) D σ H) :=
  ps_try_only (tb := fun W D σ H => tAsg (tCallS sp (WE W) ta) (gName i) D σ H) (ts := fun _ _ _ => tu) hs hf hc takes0 (fun W pn xe tk _ => pss_one (ps_set (X := X.tr pn xe) (i := i) hN hi hy (pe_calX (X := X.tr pn xe) C hr hkj hg tk (ha W pn xe) hdb he hpl) hsw (.inr hy2))) (fun b oe cls d pn _ _ => hsu b oe cls d pn)
/-! ### own exceptions as facts -/
structure ExM (P : Program) (w : World) (K : PySem.W.Frag) (mg : Str → Option Value) (base : Heap) (x : Str) (C : Addr) (f : Str) (k : Nat) : Prop where
  T : OexC K C
  ex : ∃ fI fd a, PySem.W.findIn K (.ref C) "__init__" = some (some (.ref fI)) ∧ PySem.W.typeIn K (.ref fI) = some (.type "function") ∧ FnOk P w K mg base CX0 k fI fd ["self", a] (spXI C f) ∧ Binds K fd ["self", a] []
  gC : mg x = some (.ref C)
theorem pass00 {X : Cx} {E : XK} : Passes CX0 X E := fun _ _ _ _ _ _ _ h => h.elim
theorem pmk_exm {X : Cx} {x f : Str} {C : Addr} {k j : Nat} {e : Expr} {es : List Expr} {ta : TA} {p pos : Pos} (M : ExM X.prog X.w X.K X.mg X.base x C f k) (hr : Room j X.A) (hkj : k + 1 ≤ j) (hg : Gl X x) (ha : PA X (e :: es) ta)
    (hdb : (x == ("__debug__" : Str)) = false := by decide) (he : starEach (e :: es) X.env = (false, eval e X.env) :: starEach es X.env := by rfl) (hpl : (backTo pos (starEach es X.env)).any (·.1) = false := by rfl) :
    PMk X (.Call (.Name x p) (e :: es) [] pos) (tMkO C (spXI C f) [] ta) := by
  obtain ⟨fI, fd, a, h1, h2, h3, h4⟩ := M.ex
  exact pmk_oex M.T h1 h2 h3 (hr.mono hkj) h4 .nil pass00 hg M.gC ha hdb he hpl
/-- a call that may raise, where it raises nothing -/
def okX (m : List D → XR) : List D → Option D := fun ds => match m ds with | .ok d => some d | _ => none
section
variable {X : Cx} {x : Str} {ps : List Str} {k j : Nat} {sp : Sp} {p pos : Pos} {e : Expr} {es : List Expr} {t : TA}
theorem pe_calX0 (C : CalX X.prog X.w X.K X.mg X.base x ps k sp) (hr : Room j X.A) (hkj : k ≤ j) (hg : Gl X x) (ha : PA X (e :: es) t) (hdb : (x == ("__debug__" : Str)) = false := by decide) (he : starEach (e :: es) X.env = (false, eval e X.env) :: starEach es X.env := by rfl) (hpl : (backTo pos (starEach es X.env)).any (·.1) = false := by rfl) :
    PE X (.Call (.Name x p) (e :: es) [] pos) (tCall sp [] E0 t) := by
  obtain ⟨f, fd, G, hm, hk, hb⟩ := C.ex
  exact pe_call G (hr.mono hkj) hg hm hk hb .nil passL ha hdb he hpl
end
theorem ev_callX {e : En} {ta : TA} {m : List D → XR} {sa : State → Option (List D)} (h : Eva e ta sa) : Evp e (tCall (spX e m) [] E0 ta) (xCall (okX m) sa) := fun c L S σ H α d R q Q k => by
  unfold xCall at q
  obtain ⟨ds, h1, h2⟩ := bnd_some q
  refine h c L S σ H α ds R h1 _ fun vs H1 e1 r1 => ?_
  have R1 := R.up e1
  unfold okX at h2
  refine ⟨L, ds, R1.dom, by rw [List.append_nil]; exact r1, fun d' hm v H' s2 rv => ?_, fun x hm => ?_, fun hm => ?_⟩
  · rw [hm] at h2; cases h2
    exact k v H' (e1.trans s2) rv
  · rw [hm] at h2; cases h2
  · rw [hm] at h2; cases h2
section
variable {α : State} {i : Nat} {s : State → Option D} {sa : State → Option (List D)} {m : List D → XR}
@[simp] theorem a_sRaise1 {nm : String} {f : Str} : sRaise1 nm f s α = (match s α with | some d => .exc ⟨nm, [(f, d)]⟩ | none => .bad) := (rfl)
@[simp] theorem a_sTry {cs : List String} {u : State → Out} : sTry i m sa cs u α = (match bnd (sa α) (fun ds => some (m ds)) with
  | some (.ok d) => .nxt (α.set i (some (.dat d)))
  | some (.exc x) => if x.name ∈ cs then u α else .bad
  | _ => .bad) := (rfl)
@[simp] theorem a_okX {ds : List D} : okX m ds = (match m ds with | .ok d => some d | _ => none) := (rfl)
theorem runX_ret {n k : Nat} {s : State → Out} {ds : List D} {d : D} {β : State} (hk : ds.length = k) (h : s (inP n k ds) = .ret (.dat d) β) : runX n k s ds = .ok d := by
  unfold runX; rw [if_pos hk, h]
theorem runX_exc {n k : Nat} {s : State → Out} {ds : List D} {x : Exn} (hk : ds.length = k) (h : s (inP n k ds) = .exc x) : runX n k s ds = .exc x := by
  unfold runX; rw [if_pos hk, h]
end
section
variable {e : En} {E : XK} {te tk : TE}
theorem ev_tupT {sq : State → Option (List D)} (h : EvqT e te sq) : Evp e (tCB (fun xs H Q => ∃ p ys, xs = [.ref p] ∧ ((SqL e.K H p ys ∧ ∀ l, H l = none → Q (.ref l) (upd H l (.tup ys))) ∨ (SqT e.K H p ys ∧ Q (.ref p) H))) (tCons te tNil)) (xTupL sq) := fun c L S σ H α d R q Q k => by
  unfold xTupL at q
  cases hs : sq α with
  | none => rw [hs] at q; cases q
  | some xs =>
    rw [hs] at q; cases q
    refine h c L S σ H α xs R hs _ fun a vs H' e1 r1 r2 => ⟨a, vs, rfl, .inr ⟨same_t fz_le r1, ?_⟩⟩
    exact k _ _ e1 ⟨a, vs, rfl, r1, r2⟩
/-! ### x.insert(k, d) -/
def rIns : V → List V → Hp → VK → Prop := fun x vs H Q => ∃ (l : Addr) (xs : List V) (i : Int) (y : V), x = .ref l ∧ vs = [.int i, y] ∧ H l = some (.lst xs) ∧ xs.length < sizeLine ∧ 0 ≤ i ∧ i < 2 ^ 63 ∧ Q .non (upd H l (.lst (xs.take i.toNat ++ [y] ++ xs.drop i.toNat)))
theorem mtins {X : Cx} : MtR X "list.insert" rIns := mt_insert
def sIns (i : Nat) (sk s : State → Option D) : State → Out := fun α => match sk α, s α, ctOf α[i]? with
  | some (.int z), some d, some (.lst xs) => if rngOk z = true ∧ 0 ≤ z ∧ xs.length < 100000 then .nxt (putC α i (.lst (xs.take z.toNat ++ [d] ++ xs.drop z.toNat))) else .bad
  | _, _, _ => .bad
theorem st_ins (i : Nat) {sk s : State → Option D} (hk : Evp e tk sk) (hs : Evp e te s) : Sts e E (tDrop (tBM e.K "list" rIns (tVar i) (tCons tk (tCons te tNil)))) (sIns i sk s) := fun c L S σ H α D R k => by
  unfold sIns at k
  split at k
  · rename_i z d xs hz hd hc
    split at k
    · rename_i hg
      obtain ⟨hrng, h0, hlen⟩ := hg
      obtain ⟨p, o, h1, m1, ho, vs, rfl, r1⟩ := R.at hc
      refine ⟨.ref p, h1, .inl ⟨rfl, vs, SqL.of ho⟩, ?_⟩
      refine hk c L S σ H α _ R hz _ fun v2 H2 e2 r2 => ?_
      cases r2
      refine hs c L S σ H2 α _ (R.up e2) hd _ fun v3 H3 e3 r3 => ?_
      have hr := rngOk_iff.mp hrng
      have R3 := (R.up e2).up e3
      have r13 := r1.up (fz_same (e2.trans e3))
      refine ⟨p, vs, z, v3, rfl, rfl, e3 _ _ (e2 _ _ ho), by rw [r1.len]; exact sz_lt hlen, h0, Int.lt_of_lt_of_le hr.2 (by decide), ?_⟩
      obtain ⟨R4, m4⟩ := R3.mut hc h1 (o := .lst (vs.take z.toNat ++ [v3] ++ vs.drop z.toNat)) (ct' := .lst (xs.take z.toNat ++ [d] ++ xs.drop z.toNat)) ⟨_, rfl, ((r13.take _).append (Reps.cons r3 Reps.nil)).append (r13.drop _)⟩
      exact k L S σ _ ((fz_same (e2.trans e3)).trans (fz_mod m4 R3.sub)) R4
    · exact k.elim
  · exact k.elim
@[simp] theorem a_sIns {i : Nat} {sk s : State → Option D} {α : State} : sIns i sk s α = (match sk α, s α, ctOf α[i]? with
  | some (.int z), some d, some (.lst xs) => if rngOk z = true ∧ 0 ≤ z ∧ xs.length < 100000 then .nxt (putC α i (.lst (xs.take z.toNat ++ [d] ++ xs.drop z.toNat))) else .bad
  | _, _, _ => .bad) := (rfl)
end
end Ab
end
section
set_option maxRecDepth 100000
set_option maxHeartbeats 1000000
namespace Ab
open PySem L2 PyProof.Rows PySem.Spec
section
variable {X : Cx} {pins : List (Addr × Obj)} {σ : L2.St} {H : Hp} {s : Shared}
/-- an exception's dict is tracked no more -/
theorem inv_drop {dd : Addr} {fs : List (Str × V)} (I : Inv X pins σ H s) (hd : H dd = some (.xd fs)) : Inv X pins σ (del H dd) s := by
  have hn : ∀ b, H b = none → del H dd b = none := fun b h => by
    by_cases e : b = dd
    · rw [e, del_same]
    · rw [del_ne e]; exact h
  have hs : ∀ b o, (∀ fs, o ≠ HO.xd fs) → H b = some o → del H dd b = some o := fun b o no h => by
    by_cases e : b = dd
    · rw [e, hd] at h; exact absurd (Option.some.inj h).symm (no fs)
    · rw [del_ne e]; exact h
  refine ⟨I.ok, I.os, I.bare, ⟨I.base.keep, I.base.slot, fun b o e n hx => hn b (I.base.free b o e n hx), I.base.there, fun b xs z => hs b _ (fun _ q => nomatch q) (I.base.tups b xs z), fun b o u z => hs b _ (fun _ q => nomatch q) (I.base.frzs b o u z), fun b ps z => ?_⟩, I.loc, I.cell, hn _ I.free, fun x c e => hn _ (I.freeC x c e), fun p hp => ?_, fun b o z => ?_, I.len⟩
  · obtain ⟨more, q⟩ := I.base.tbls b ps z
    exact ⟨more, hs b _ (fun _ q => nomatch q) q⟩
  · obtain ⟨h1, h2, h3⟩ := I.pin p hp
    exact ⟨h1, hn _ h2, h3⟩
  · by_cases e : b = dd
    · rw [e, del_same] at z; cases z
    · rw [del_ne e] at z
      exact (I.hok b o z).stay (fun _ _ _ q => q) (fun c q => hs c _ (fun _ q => nomatch q) q) (fun c xs q => hs c _ (fun _ q => nomatch q) q)
theorem xd_nofs {dd : Addr} {fs : List (Str × V)} (I : Inv X pins σ H s) (hd : H dd = some (.xd fs)) : dd ∉ X.fs ∧ dd ≠ X.env.locals := by
  refine ⟨fun m => ?_, fun e => ?_⟩
  · obtain ⟨_, o, ho, _⟩ := I.ok.funs.mem m
    have := I.base.free dd o ho (I.ok.frf dd m) (fun z => I.ok.exfs dd z m)
    rw [hd] at this; cases this
  · rw [e, I.free] at hd; cases hd
/-- what the pinned dict says -/
def OdOk (od : Obj) (fs : List (Str × V)) : Prop := (∀ f, ∃ gv, PySem.W.lookIn f od = some gv ∧ RelO (fs.lookup f) gv) ∧ ∀ v, od.data ≠ .cell v
/-- in a suite: the exception's dict is pinned instead of tracked -/
theorem pss_pin {a : Addr} {oe : Obj} {d : Option Addr} {pn : List (Addr × Obj)} {body : List Stmt} {ts : List (Str × V) → TS}
    (h : ∀ (dd : Addr) (od : Obj) (fs : List (Str × V)), d = some dd → OdOk od fs → PSs (X.suite a ((a, oe) :: (dd, od) :: pn)) body (ts fs)) :
    PSs (X.suite a ((a, oe) :: pn)) body (fun D σ H => ∃ dd fs, d = some dd ∧ H dd = some (.xd fs) ∧ ts fs D σ (del H dd)) := by
  refine ⟨fun pins s σ H D I ⟨dd, fs, e, hd, q⟩ => ?_⟩
  have hx : ObjOk X.prog X.w H s.heap dd (.xd fs) := I.hok dd _ hd
  obtain ⟨mA, hns, hr⟩ := hx
  obtain ⟨od, ho, hl⟩ := lookIn_ns hns
  obtain ⟨n1, n2⟩ := xd_nofs I hd
  have nc : ∀ v, od.data ≠ .cell v := fun v z => by
    obtain ⟨o, es, ep, h1, h2, _⟩ := hns
    rw [ho] at h1; cases h1
    rw [z] at h2; cases h2
  have J := inv_drop I hd
  have J2 : Inv (X.suite a ((a, oe) :: (dd, od) :: pn)) pins σ (del H dd) s := by
    refine ⟨J.ok.toTry ((a, oe) :: (dd, od) :: pn) (fun _ _ => False), J.os, J.bare, J.base, J.loc, J.cell, J.free, J.freeC, fun p hp => ?_, J.hok, J.len⟩
    have hp' : p ∈ (a, oe) :: (dd, od) :: (pn ++ pins) := hp
    rcases List.mem_cons.mp hp' with e | hp'
    · exact J.pin p (by rw [e]; exact List.mem_cons_self)
    rcases List.mem_cons.mp hp' with e | hp'
    · rw [e]; exact ⟨ho, del_same, n2, n1, nc⟩
    · exact J.pin p (List.mem_cons_of_mem _ hp')
  have back : ∀ {σ' : L2.St} {H' : Hp} {s' : Shared}, Inv (X.suite a ((a, oe) :: (dd, od) :: pn)) pins σ' H' s' → Inv (X.suite a ((a, oe) :: pn)) pins σ' H' s' := fun {σ' H' s'} K => by
    refine ⟨I.ok, K.os, K.bare, K.base, K.loc, K.cell, K.free, K.freeC, fun p hp => K.pin p ?_, K.hok, K.len⟩
    have hp' : p ∈ (a, oe) :: (pn ++ pins) := hp
    show p ∈ (a, oe) :: (dd, od) :: (pn ++ pins)
    rcases List.mem_cons.mp hp' with e | hp'
    · rw [e]; exact List.mem_cons_self
    · exact List.mem_cons_of_mem _ (List.mem_cons_of_mem _ hp')
  refine wpAny_mono ((h dd od fs e ⟨fun f => ⟨_, hl f, hr f⟩, nc⟩).run pins s σ _ D J2 q) (fun f s' hs => ?_) (fun _ _ z => z)
  cases f with
  | next => obtain ⟨σ', H', K, z⟩ := hs; exact ⟨σ', H', back K, z⟩
  | brk => obtain ⟨σ', H', K, z⟩ := hs; exact ⟨σ', H', back K, z⟩
  | cont => obtain ⟨σ', H', K, z⟩ := hs; exact ⟨σ', H', back K, z⟩
  | ret u => obtain ⟨v, σ', H', K, z⟩ := hs; exact ⟨v, σ', H', back K, z⟩
end
/-! ### rules within a suite -/
section
variable {X : Cx} {a dd : Addr} {oe od : Obj} {cls : Value} {fs : List (Str × V)} {pn : List (Addr × Obj)}
theorem inst_at {pins : List (Addr × Obj)} {σ : L2.St} {H : Hp} {s : Shared} {D : Addr} (hz : Zc (.ref D) (some dd) oe) (hf : ∃ vs, oe.data = .fields vs) (I : Inv (X.suite a ((a, oe) :: (dd, od) :: pn)) pins σ H s) : PySem.W.InstAt s.heap a oe D (some od) := by
  obtain ⟨ha, _⟩ := I.pin (a, oe) (List.mem_append_left _ List.mem_cons_self)
  obtain ⟨ho, _⟩ := I.pin (dd, od) (List.mem_append_left _ (List.mem_cons_of_mem _ List.mem_cons_self))
  obtain ⟨vs, hd⟩ := hf
  exact ⟨ha, hz.1, by unfold PySem.W.notCls; rw [hd] <;> rfl, by rw [hz.2]; exact ho⟩
/-- e.f, e the caught exception -/
def tXfP (K : PySem.W.Frag) (a : Addr) (cls : Value) (fs : List (Str × V)) (f : Str) (te : TE) : TE := fun σ H Q => te σ H fun x H1 => x = .ref a ∧ ∃ (C : Addr) (v : V), cls = .ref C ∧ XfC K C ∧ PySem.W.findIn K (.ref C) f = some none ∧ fs.lookup f = some v ∧ Q v H1
theorem pe_xfP {e : Expr} {te : TE} {pos : Pos} {n : Str} (hz : Zc cls (some dd) oe) (hf : ∃ vs, oe.data = .fields vs) (ho : OdOk od fs) (he : PE (X.suite a ((a, oe) :: (dd, od) :: pn)) e te) (hb : attributeBase e n X.env (eval e X.env) = eval e X.env := by rfl) :
    PE (X.suite a ((a, oe) :: (dd, od) :: pn)) (.Attribute e n pos) (tXfP X.K a cls fs n te) := by
  refine ⟨fun pins s σ H Q I h => ?_⟩
  refine attr_of hb (thn (he.run pins s σ H _ I h) fun u s1 ⟨x, H1, I1, rx, ex, C, v, ec, T, hno, l, q⟩ => ?_)
  subst ex ec
  obtain rfl : u = Value.ref a := rx
  obtain ⟨gv, hl, hr⟩ := ho.1 n
  obtain ⟨u, hu, ru⟩ := RelO.some_of (v := v) (o := gv) (by rw [← l]; exact hr)
  exact HandSPX.exc_get I1.kIn (inst_at hz hf I1) T.ga T.gg T.exC (PySem.W.findObj_own T.hdC hno rfl (by rw [hl, hu])) (handed_of ru) ⟨v, H1, I1.tok _, ru, q⟩
/-- isinstance(e, c) -/
def rIsEP (K : PySem.W.Frag) (a : Addr) (cls : Value) : List V → Hp → VK → Prop := fun xs H Q => ∃ (D : Addr) (c : V) (cv : Value) (b : Bool), cls = .ref D ∧ ExcC K D ∧ xs = [.ref a, c] ∧ (∀ u, RelV c u → u = cv) ∧ PySem.W.kitOne K (.ref D) cv = some b ∧ Q (.bl b) H
theorem call_isEP (hz : Zc cls (some dd) oe) (hf : ∃ vs, oe.data = .fields vs) : CallR (X.suite a ((a, oe) :: (dd, od) :: pn)) (.builtin "isinstance") (rIsEP X.K a cls) := by
  intro pins s σ H xs us Q I r h
  obtain ⟨D, c, cv, b, rfl, C, rfl, hcv, e, q⟩ := h
  cases r with
  | cons rx rr =>
    cases rr with
    | cons rt rr =>
      cases rr
      cases rx
      have ec := hcv _ rt
      subst ec
      obtain ⟨cd, hc, _⟩ := PySem.W.any_some C.hd
      exact PySem.W.kia_one (PySem.W.kitx_exc (by rw [hc]; rfl) C.hg C.hk C.hs C.ha C.hn C.ht C.hm) I.kIn (inst_at hz hf I) e (fun z => nomatch z) fun tk => ⟨.bl b, H, I.kept (t' := tk) fun _ _ z => z, rfl, q⟩
/-- isinstance(e, (c, ..)) -/
def rIsETP (K : PySem.W.Frag) (a : Addr) (cls : Value) : List V → Hp → VK → Prop := fun xs H Q => ∃ (D tp : Addr) (cs : List V) (us : List Value) (b : Bool), cls = .ref D ∧ ExcC K D ∧ xs = [.ref a, .ref tp] ∧ H tp = some (.tup cs) ∧ Paired ClsV cs us ∧ PySem.W.kitAny K (.ref D) us = some b ∧ Q (.bl b) H
theorem call_isETP (hz : Zc cls (some dd) oe) (hf : ∃ vs, oe.data = .fields vs) : CallR (X.suite a ((a, oe) :: (dd, od) :: pn)) (.builtin "isinstance") (rIsETP X.K a cls) := by
  intro pins s σ H xs us Q I r h
  obtain ⟨D, tp, cs, ws, b, rfl, C, rfl, hT, k, e, q⟩ := h
  cases r with
  | cons rx rr =>
    cases rr with
    | cons rt rr =>
      cases rr
      cases rx
      cases rt
      obtain ⟨_, its, rv, o, h1, h2, n, h3⟩ := (show ObjOk X.prog X.w H s.heap tp (.tup cs) from I.hok tp _ hT)
      have e3 := ClsV.all k rv
      subst e3
      obtain ⟨oc, od', dt, sl⟩ := o
      simp only at h2 h3
      subst h2 h3
      obtain ⟨cd, hc, _⟩ := PySem.W.any_some C.hd
      exact PySem.W.kia_tup (PySem.W.kitx_exc (by rw [hc]; rfl) C.hg C.hk C.hs C.ha C.hn C.ht C.hm) I.kIn (inst_at hz hf I) h1 e (fun z => nomatch z) fun tk => ⟨.bl b, H, I.kept (t' := tk) fun _ _ z => z, rfl, q⟩
end
/-! ### try: x = f(..) except C as n: suite -/
def eraseO (j : Nat) : Out → Out
  | .nxt β => .nxt (β.set j none) | .ret r β => .ret r (β.set j none) | .brk β => .brk (β.set j none) | .cnt β => .cnt (β.set j none) | .exc x => .exc x | .bad => .bad
open Classical in
/-- what a suite does, whatever the exception's address -/
noncomputable def exAs (j : Nat) (s : Addr → State → Out) : State → Out := fun α => if h : ∃ o, ∀ a : Addr, eraseO j (s a (α.set j (some (.adr a)))) = o then Classical.choose h else .bad
theorem exAs_eq {j : Nat} {s : Addr → State → Out} {α : State} {o : Out} (h : ∀ a : Addr, eraseO j (s a (α.set j (some (.adr a)))) = o) : exAs j s α = o := by
  unfold exAs
  have hx : ∃ o, ∀ a : Addr, eraseO j (s a (α.set j (some (.adr a)))) = o := ⟨o, h⟩
  rw [dif_pos hx, ← Classical.choose_spec hx 0, h 0]
theorem exAs_spec {j : Nat} {s : Addr → State → Out} {α : State} (hb : exAs j s α ≠ .bad) (a : Addr) : eraseO j (s a (α.set j (some (.adr a)))) = exAs j s α := by
  unfold exAs at hb ⊢
  split
  · rename_i h
    exact Classical.choose_spec h a
  · rename_i h
    rw [dif_neg h] at hb
    exact absurd rfl hb
section
variable {e : En} {E : XK} {te : TE} {ta : TA}
theorem Rel.setA {c : Cn} {L S : List Addr} {σ : L2.St} {H : Hp} {α : State} (r : Rel e c L S σ H α) (j : Nat) (a : Addr) : Rel e c L S (σ.set j (some (.ref a))) H (α.set j (some (.adr a))) where
  slot := fun i x q => by
    rw [getset] at q ⊢
    have hl := r.len
    by_cases h1 : j = i
    · subst h1
      rw [if_pos rfl] at q ⊢
      by_cases h2 : j < α.length
      · rw [if_pos h2] at q
        cases q
        exact ⟨.ref a, by rw [if_pos (by omega)], rfl⟩
      · rw [if_neg h2] at q; cases q
    · rw [if_neg h1] at q ⊢
      exact r.slot i x q
  sep := fun i k p hi hk si sk => by
    rw [getset] at hi hk si sk
    by_cases e1 : j = i
    · rw [if_pos e1] at hi
      split at hi <;> simp [isOwn] at hi
    · by_cases e2 : j = k
      · rw [if_pos e2] at hk
        split at hk <;> simp [isOwn] at hk
      · rw [if_neg e1] at hi si; rw [if_neg e2] at hk sk
        exact r.sep i k p hi hk si sk
  dom := r.dom
  sub := r.sub
  l0 := r.l0
  l1 := r.l1
  s1 := r.s1
  md := r.md
  s0 := r.s0
  d0 := r.d0
  len := by rw [List.length_set, List.length_set]; exact r.len
abbrev endsN (j : Nat) (D : Ends) : Ends := { nx := fun σ' H' => D.nx (σ'.set j none) H', rt := D.rt, bk := fun σ' H' => D.bk (σ'.set j none) H', ct := fun σ' H' => D.ct (σ'.set j none) H' }
theorem out_erase {c : Cn} {D : Ends} {F : Hp} {j : Nat} : ∀ {o : Out}, OutOk e E c D F (eraseO j o) → OutOk e E c (endsN j D) F o
  | .nxt β, k => fun L S σ H s R => k L S _ H s (R.setN j)
  | .brk β, k => fun L S σ H s R => k L S _ H s (R.setN j)
  | .cnt β, k => fun L S σ H s R => k L S _ H s (R.setN j)
  | .ret r β, k => fun v L S σ H R rr => k v L S _ H (R.setN j) rr
  | .exc x, k => k
  | .bad, k => k
/-- the reading of a suite whose exception's dict is pinned -/
abbrev pinR (ts : Addr → Value → List (Str × V) → TS) : Addr → Value → Option Addr → TS := fun a cls d D σ H => ∃ dd fs, d = some dd ∧ H dd = some (.xd fs) ∧ ts a cls fs D σ (del H dd)
theorem tryAs_call {j : Nat} {m : List D → XR} {sa : State → Option (List D)} {suite : Exn → Addr → State → Out} {caught : List String} {c0 : Value} {K : PySem.W.Frag} {ts : Addr → Value → List (Str × V) → TS} {DE : Ends} {Q : VK}
    (hx : ∀ nm ∈ caught, PySem.W.exmOne K (.ref (e.cls nm)) c0 = some true) (h : Eva e ta sa)
    (hu : ∀ (x : Exn) (a : Addr) (gs : List (Str × V)) (F : Hp), x.name ∈ caught → RepF e F x.fs gs → Sts e E (ts a (.ref (e.cls x.name)) gs) (suite x a))
    {c : Cn} {L S : List Addr} {σ : L2.St} {H : Hp} {α : State} {ds : List D} (R : Rel e c L S σ H α) (hs : sa α = some ds)
    (hok : ∀ d, m ds = .ok d → ∀ v H', Same H H' → Rel e c L S σ H' α → Rep e (fz L H') d v → Q v H')
    (hex : ∀ x, m ds = .exc x → x.name ∈ caught ∧ x.fs ≠ [] ∧ OutOk e E c DE (fz L H) (exAs j (suite x) α)) (hb : m ds ≠ .bad) :
    tCallS (spX e m) (WE (wAs K c0 j (pinR ts) (fun _ _ _ _ => False) DE)) ta σ H Q := by
  refine h c L S σ H α ds R hs _ fun vs H1 e1 r1 => ?_
  have R1 := R.up e1
  refine ⟨L, ds, R1.dom, r1, fun d hm v H' s2 rv => hok d hm v H' (e1.trans s2) (R1.up s2) rv, fun x hm cls dd H' s2 xr fr => ?_, hb⟩
  obtain ⟨h1, h2, h3⟩ := hex x hm
  obtain ⟨p, gs, rfl, hp, rf⟩ := xr.2.resolve_left h2
  have hp1 : H1 p = none := fr p rfl
  have s3 : Same H1 (del H' p) := fun b o q => by
    have hne : b ≠ p := ne_of_none q hp1
    rw [del_ne hne]; exact s2 _ _ q
  have hnb : exAs j (suite x) α ≠ .bad := fun z => by rw [z] at h3; exact h3
  refine ⟨true, by rw [xr.1]; exact hx _ h1, fun _ a ha => ⟨p, gs, rfl, hp, ?_⟩, fun z => nomatch z⟩
  rw [xr.1]
  refine hu x a gs _ h1 rf c L S _ _ _ _ ((R1.up s3).setA j a) ?_
  have k : OutOk e E c DE (fz L H) (eraseO j (suite x a (α.set j (some (.adr a))))) := by rw [exAs_spec hnb a]; exact h3
  exact (out_erase k).mono (fz_same (e1.trans s3))
/-- x = f(..) -/
noncomputable def sTryAs (i j : Nat) (m : List D → XR) (w : D → Option D) (sa : State → Option (List D)) (caught : List String) (suite : Exn → Addr → State → Out) : State → Out := fun α => match bnd (sa α) (fun ds => some (m ds)) with
  | some (.ok d) => (match w d with | some d' => .nxt (α.set i (some (.dat d'))) | none => .bad)
  | some (.exc x) => if x.name ∈ caught ∧ x.fs ≠ [] then exAs j (suite x) α else .bad
  | _ => .bad
def wPair (d : D) : Option D := some (.tup [d, .non])
/-- x = (f(..), None) -/
theorem st_tryAsPair {i j : Nat} {m : List D → XR} {sa : State → Option (List D)} {suite : Exn → Addr → State → Out} {caught : List String} {c0 : Value} {K : PySem.W.Frag} {ts : Addr → Value → List (Str × V) → TS}
    (hx : ∀ nm ∈ caught, PySem.W.exmOne K (.ref (e.cls nm)) c0 = some true) (h : Eva e ta sa)
    (hu : ∀ (x : Exn) (a : Addr) (gs : List (Str × V)) (F : Hp), x.name ∈ caught → RepF e F x.fs gs → Sts e E (ts a (.ref (e.cls x.name)) gs) (suite x a)) :
    Sts e E (fun D σ H => tAsg (tTup (tCons (tCallS (spX e m) (WE (wAs K c0 j (pinR ts) (fun _ _ _ _ => False) D)) ta) (tCons (tC .non) tNil))) (gName i) D σ H) (sTryAs i j m wPair sa caught suite) := fun c L S σ H α D R k => by
  unfold sTryAs at k
  cases hs : sa α with
  | none => rw [hs] at k; exact k.elim
  | some ds =>
    rw [hs] at k
    change OutOk e E c D (fz L H) (match some (m ds) with
      | some (.ok d) => (match wPair d with | some d' => .nxt (α.set i (some (.dat d'))) | none => .bad)
      | some (.exc x) => if x.name ∈ caught ∧ x.fs ≠ [] then exAs j (suite x) α else .bad
      | _ => .bad) at k
    refine tryAs_call hx h hu R hs (fun d hm v H' s2 R2 rv => ?_) (fun x hm => ?_) (fun hm => ?_)
    · rw [hm] at k
      refine ⟨by show 2 ≤ _; rw [sizeLine_eq]; decide, fun p hp => ?_⟩
      have s3 : Same H' (upd H' p (.tup [v, .non])) := fun b o z => by rw [upd_ne (ne_of_none z hp)]; exact z
      refine k L S _ _ (fz_same (s2.trans s3)) ((R2.up s3).setD (d := .tup [d, .non]) ⟨p, [v, .non], rfl, .inl (.inl (fz_new (fresh_nL R2.dom hp) upd_same)), v, [.non], rfl, Rep.up (d := d) rv (fz_same s3), .non, [], rfl, rfl, rfl⟩)
    · rw [hm] at k
      dsimp only at k
      split at k
      · rename_i hc
        exact ⟨hc.1, hc.2, k⟩
      · exact k.elim
    · rw [hm] at k; exact k.elim
end
/-! ### in a suite -/
def xIsE (a : Addr) (j : Nat) (tbl : List (String × Bool)) (nm : String) : State → Option D := fun α => match α[j]? with
  | some (some (.adr b)) => if b = a then (tbl.lookup nm).map .bl else none
  | _ => none
def xFldE (a : Addr) (j : Nat) (f : Str) (fs : List (Str × D)) : State → Option D := fun α => match α[j]? with
  | some (some (.adr b)) => if b = a then (match fs.lookup f with | some d => if flat d = true then some d else none | none => none) else none
  | _ => none
section
variable {e : En} {E : XK} {te tc : TE}
theorem adr_at {c : Cn} {L S : List Addr} {σ : L2.St} {H : Hp} {α : State} {j : Nat} {a : Addr} (R : Rel e c L S σ H α) (h : α[j]? = some (some (.adr a))) : σ[j]? = some (some (.ref a)) := by
  obtain ⟨v, h1, h2⟩ := R.slot j _ h
  cases (show v = .ref a from h2)
  exact h1
theorem ev_isE {nm : String} {a : Addr} {j : Nat} {tbl : List (String × Bool)} {dc : D} {cv : Value} (hcv : ∀ F v, Rep e F dc v → ∀ u, RelV v u → u = cv) (h : ∀ p ∈ tbl, ExcC e.K (e.cls p.1) ∧ PySem.W.kitOne e.K (.ref (e.cls p.1)) cv = some p.2) (hc : Evp e tc (fun _ => some dc)) :
    Evp e (tCB (rIsEP e.K a (.ref (e.cls nm))) (tCons (tVar j) (tCons tc tNil))) (xIsE a j tbl nm) := fun c L S σ H α d R q Q k => by
  unfold xIsE at q
  split at q
  · rename_i b hb
    split at q
    · rename_i hba
      subst hba
      cases hl : tbl.lookup nm with
      | none => rw [hl] at q; cases q
      | some r =>
        rw [hl] at q; cases q
        obtain ⟨C, hk⟩ := h _ (mem_of_lookup hl)
        refine ⟨.ref b, adr_at R hb, ?_⟩
        refine hc c L S σ H α dc R rfl _ fun v H1 e1 r1 => ?_
        exact ⟨_, v, cv, r, rfl, C, rfl, fun u ru => hcv _ _ r1 u ru, hk, k _ _ e1 rfl⟩
    · cases q
  · cases q
theorem ev_isET {nm : String} {a : Addr} {j : Nat} {tbl : List (String × Bool)} {cs : List String} {tcs : TA} (hl0 : cs.length ≤ 1000) (h : ∀ p ∈ tbl, ExcC e.K (e.cls p.1) ∧ PySem.W.kitAny e.K (.ref (e.cls p.1)) (cs.map fun c => .ref (e.cls c)) = some p.2) (ht : Eva e tcs (fun _ => some (cs.map .cls))) :
    Evp e (tCB (rIsETP e.K a (.ref (e.cls nm))) (tCons (tVar j) (tCons (tTup tcs) tNil))) (xIsE a j tbl nm) := fun c L S σ H α d R q Q k => by
  unfold xIsE at q
  split at q
  · rename_i b hb
    split at q
    · rename_i hba
      subst hba
      cases hl : tbl.lookup nm with
      | none => rw [hl] at q; cases q
      | some r =>
        rw [hl] at q; cases q
        obtain ⟨C, hk⟩ := h _ (mem_of_lookup hl)
        refine ⟨.ref b, adr_at R hb, ?_⟩
        refine ht c L S σ H α _ R rfl _ fun vs H2 e2 r2 => ⟨by rw [r2.len, List.length_map]; exact Nat.le_trans hl0 (by decide), fun p hp => ?_⟩
        have hpr : ∀ (cs : List String) (vs : List V), Reps e (fz L H2) (cs.map .cls) vs → Paired ClsV vs (cs.map fun c => .ref (e.cls c)) := by
          intro cs
          induction cs with
          | nil => intro vs r; cases r; exact .nil
          | cons c cs ih =>
            intro vs r
            obtain ⟨v, w, rfl, r3, r4⟩ := r
            cases r3
            exact .cons (.own _) (ih w r4)
        exact ⟨_, p, vs, _, r, rfl, C, rfl, upd_same, hpr cs vs r2, hk, k _ _ (e2.trans (same_upd hp)) rfl⟩
    · cases q
  · cases q
theorem ev_xfE {nm : String} {a : Addr} {j : Nat} {f : Str} {fs : List (Str × D)} {gs : List (Str × V)} {F : Hp} (rf : RepF e F fs gs) (T : XfC e.K (e.cls nm)) (hno : PySem.W.findIn e.K (.ref (e.cls nm)) f = some none) :
    Evp e (tXfP e.K a (.ref (e.cls nm)) gs f (tVar j)) (xFldE a j f fs) := fun c L S σ H α d R q Q k => by
  unfold xFldE at q
  split at q
  · rename_i b hb
    split at q
    · rename_i hba
      subst hba
      cases hl : fs.lookup f with
      | none => rw [hl] at q; cases q
      | some d0 =>
        rw [hl] at q
        dsimp only at q
        split at q
        · rename_i hfl
          cases q
          obtain ⟨v, h1, h2⟩ := repF_lookup rf hl
          refine ⟨.ref b, adr_at R hb, rfl, _, v, rfl, T, hno, h1, k _ _ (Same.refl _) ?_⟩
          rw [rep_flat hfl h2]; exact rep_of_flat hfl
        · cases q
    · cases q
  · cases q
end
/-- try: x = e except C as n: suite -/
theorem ps_tryas {X : Cx} {i j : Nat} {y n nm : Str} {c : Value} {ve : Expr} {te : WX → TE} {ts : Addr → Value → List (Str × V) → TS} {b₀ : Stmt} {suite : List Stmt} {p3 p4 np pos pos' : Pos}
    (hs : X.stack = X.env :: X.outer) (hf : X.env.frame = some X.env.locals) (hN : X.N.Nodup) (hi : X.N[i]? = some y) (hy : Loc X.env.scope y) (hy2 : X.env.scope.names.lookup y = some .local) (hj : X.N[j]? = some nm) (hln : X.env.kindOf nm = some .local) (hc : Names X n c)
    (hval : ∀ (W : WX) (pn : List (Addr × Obj)) (xe : Value → Shared → Prop), Takes (X.tr pn xe) W → PE (X.tr pn xe) ve (te W))
    (hsu : ∀ (b dd : Addr) (oe od : Obj) (cls : Value) (fs : List (Str × V)) (pn : List (Addr × Obj)), Zc cls (some dd) oe → (∃ vs, oe.data = .fields vs) → OdOk od fs → PSs (X.suite b ((b, oe) :: (dd, od) :: pn)) (b₀ :: suite) (ts b cls fs))
    (hsw : swapsWith ve (some (.Name y p3)) p4.line X.env = pure false := by rfl) :
    PS X (.Try [.Assign [.Name y p3] ve p4] [.ExceptHandler (some (.Name n np)) (some nm) (b₀ :: suite) pos'] [] [] pos) (fun D σ H => tAsg (te (wAs X.K c j (pinR ts) (fun _ _ _ _ => False) D)) (gName i) D σ H) :=
  ps_try_as (tb := fun W D σ H => tAsg (te W) (gName i) D σ H) (ts := pinR ts) hs hf hN hj hln hc takes0 (fun W pn xe tk _ => pss_one (ps_set (X := X.tr pn xe) (i := i) hN hi hy (hval W pn xe tk) hsw (.inr hy2))) (fun b oe cls d pn hz hd => pss_pin fun dd od fs e ho => hsu b dd oe od cls fs pn (e ▸ hz) hd ho)
section
variable {α : State} {i j : Nat} {a : Addr} {sa : State → Option (List D)} {m : List D → XR}
@[simp] theorem a_xIsE {tbl : List (String × Bool)} {nm : String} : xIsE a j tbl nm α = (match α[j]? with
  | some (some (.adr b)) => if b = a then (tbl.lookup nm).map .bl else none
  | _ => none) := (rfl)
@[simp] theorem a_xFldE {f : Str} {fs : List (Str × D)} : xFldE a j f fs α = (match α[j]? with
  | some (some (.adr b)) => if b = a then (match fs.lookup f with | some d => if flat d = true then some d else none | none => none) else none
  | _ => none) := (rfl)
theorem a_sTryAs {w : D → Option D} {cs : List String} {u : Exn → Addr → State → Out} : sTryAs i j m w sa cs u α = (match bnd (sa α) (fun ds => some (m ds)) with
  | some (.ok d) => (match w d with | some d' => .nxt (α.set i (some (.dat d'))) | none => .bad)
  | some (.exc x) => if x.name ∈ cs ∧ x.fs ≠ [] then exAs j (u x) α else .bad
  | _ => .bad) := by unfold sTryAs; rfl
end
end Ab
end
section
set_option maxRecDepth 100000
set_option maxHeartbeats 1000000
namespace Ab
open PySem L2 PyProof.Rows PySem.Spec
def keyD : D → Option Key
  | .str z => some (.inr z) | .int n => some (.inl n) | _ => none
def keyOf : Key → D
  | .inl n => .int n | .inr z => .str z
theorem rep_key {e : En} {F : Hp} {d : D} {k : Key} {v : V} (h : keyD d = some k) (r : Rep e F d v) : v = kV k := by
  cases d <;> first | (cases h; done) | skip
  · cases h; exact r
  · cases h; exact r
theorem rep_keyOf {e : En} {F : Hp} (k : Key) : Rep e F (keyOf k) (kV k) := by cases k <;> exact rfl
def putKD (kvs : List (Key × D)) (k : Key) (d : D) : List (Key × D) := if (kvs.any fun kv => decide (kv.1 = k)) = true then kvs.map (fun kv => if kv.1 = k then (kv.1, d) else kv) else kvs ++ [(k, d)]
def valD (k : Key) : List (Key × D) → Option D
  | [] => none
  | (k', d) :: r => if k' = k then some d else valD k r
section
variable {e : En} {F : Hp}
theorem repK_nil : RepK e F [] [] := ⟨rfl, rfl⟩
theorem repK_inv {k : Key} {d : D} {kvs : List (Key × D)} : ∀ {gs : List (Key × V)}, RepK e F ((k, d) :: kvs) gs → ∃ v r, gs = (k, v) :: r ∧ Rep e F d v ∧ RepK e F kvs r
  | [], ⟨h, _⟩ => by cases h
  | (k', v') :: r, ⟨h, v, w, q, r1, r2⟩ => by
    simp only [List.map_cons, List.cons.injEq] at h q
    obtain ⟨rfl, h2⟩ := h
    obtain ⟨rfl, q2⟩ := q
    exact ⟨v', r, rfl, r1, h2, by rw [q2]; exact r2⟩
theorem repK_cons {k : Key} {d : D} {v : V} {kvs : List (Key × D)} {gs : List (Key × V)} (r1 : Rep e F d v) (r2 : RepK e F kvs gs) : RepK e F ((k, d) :: kvs) ((k, v) :: gs) :=
  ⟨by simp only [List.map_cons, r2.1], v, _, rfl, r1, r2.2⟩
theorem repK_app {a : List (Key × D)} {b : List (Key × D)} {gs : List (Key × V)} {hs : List (Key × V)} (r1 : RepK e F a gs) (r2 : RepK e F b hs) : RepK e F (a ++ b) (gs ++ hs) :=
  ⟨by simp only [List.map_append, r1.1, r2.1], by simp only [List.map_append]; exact r1.2.append r2.2⟩
theorem repK_map {k : Key} {d : D} {v : V} (rv : Rep e F d v) : ∀ {kvs : List (Key × D)} {gs : List (Key × V)}, RepK e F kvs gs → RepK e F (kvs.map fun kv => if kv.1 = k then (kv.1, d) else kv) (gs.map fun kv => if kv.1 = k then (kv.1, v) else kv)
  | [], [], _ => repK_nil
  | [], _ :: _, ⟨h, _⟩ => by cases h
  | (k', d') :: kvs, gs, r => by
    obtain ⟨v', r', rfl, r1, r2⟩ := repK_inv r
    simp only [List.map_cons]
    by_cases hk : k' = k
    · rw [if_pos hk, if_pos hk]; exact repK_cons rv (repK_map rv r2)
    · rw [if_neg hk, if_neg hk]; exact repK_cons r1 (repK_map rv r2)
theorem repK_put {k : Key} {d : D} {v : V} (rv : Rep e F d v) {kvs : List (Key × D)} {gs : List (Key × V)} (r : RepK e F kvs gs) : RepK e F (putKD kvs k d) (putK gs k v) := by
  have ha : (gs.any fun kv => decide (kv.1 = k)) = (kvs.any fun kv => decide (kv.1 = k)) := by
    have h1 : (gs.any fun kv => decide (kv.1 = k)) = (gs.map (·.1)).any fun x => decide (x = k) := by rw [List.any_map]; rfl
    have h2 : (kvs.any fun kv => decide (kv.1 = k)) = (kvs.map (·.1)).any fun x => decide (x = k) := by rw [List.any_map]; rfl
    rw [h1, h2, r.1]
  unfold putKD putK
  rw [ha]
  split
  · exact repK_map rv r
  · exact repK_app r (repK_cons rv repK_nil)
theorem repK_val {k : Key} : ∀ {kvs : List (Key × D)} {gs : List (Key × V)}, RepK e F kvs gs → (∀ d, valD k kvs = some d → ∃ v, valV gs k = some v ∧ Rep e F d v) ∧ (valD k kvs = none → valV gs k = none)
  | [], [], _ => ⟨(fun d h => by cases h), fun _ => rfl⟩
  | [], _ :: _, ⟨h, _⟩ => by cases h
  | (k', d') :: kvs, gs, r => by
    obtain ⟨v', r', rfl, r1, r2⟩ := repK_inv r
    obtain ⟨i1, i2⟩ := repK_val (k := k) r2
    by_cases hk : k' = k
    · rw [valV_pos (p := (k', v')) hk]
      simp only [valD, if_pos hk]
      exact ⟨(fun d h => by cases h; exact ⟨v', rfl, r1⟩), (fun h => by cases h)⟩
    · rw [valV_neg (p := (k', v')) hk]
      simp only [valD, if_neg hk]
      exact ⟨i1, i2⟩
theorem repK_keys {kvs : List (Key × D)} {gs : List (Key × V)} (r : RepK e F kvs gs) : Reps e F (kvs.map fun kv => keyOf kv.1) (gs.map fun kv => kV kv.1) := by
  have h1 : (kvs.map fun kv => keyOf kv.1) = (kvs.map (·.1)).map keyOf := by rw [List.map_map]; rfl
  have h2 : (gs.map fun kv => kV kv.1) = (gs.map (·.1)).map kV := by rw [List.map_map]; rfl
  rw [h1, h2, r.1]
  have : ∀ ks : List Key, Reps e F (ks.map keyOf) (ks.map kV) := fun ks => by
    induction ks with
    | nil => exact Reps.nil
    | cons k ks ih => exact Reps.cons (rep_keyOf k) ih
  exact this _
theorem RepK.len {kvs : List (Key × D)} {gs : List (Key × V)} (r : RepK e F kvs gs) : gs.length = kvs.length := by
  have := congrArg List.length r.1
  simpa using this
end
/-! ### own dicts -/
/-- x = {} -/
def sNewK (i : Nat) : State → Out := fun α => .nxt (α.set i (some (.own (.dic []))))
/-- x[k] = e -/
def sPutK (i : Nat) (sk : State → Option D) (s : State → Res D) : State → Out := fun α => match s α with
  | .ok d α' => (match bnd (sk α') keyD, ctOf α'[i]? with
    | some k, some (.dic kvs) => if kvs.length < 100000 then .nxt (putC α' i (.dic (putKD kvs k d))) else .bad
    | _, _ => .bad)
  | .exc x => .exc x | .bad => .bad
/-- k in x -/
def xInK (i : Nat) (sk : State → Option D) : State → Option D := fun α => match bnd (sk α) keyD, ctOf α[i]? with
  | some k, some (.dic kvs) => some (.bl (valD k kvs).isSome)
  | _, _ => none
def xNotInK (i : Nat) (sk : State → Option D) : State → Option D := fun α => match bnd (sk α) keyD, ctOf α[i]? with
  | some k, some (.dic kvs) => some (.bl (!(valD k kvs).isSome))
  | _, _ => none
/-- x[k] -/
def xGetK (i : Nat) (sk : State → Option D) : State → Option D := fun α => match bnd (sk α) keyD, ctOf α[i]? with
  | some k, some (.dic kvs) => valD k kvs
  | _, _ => none
/-- list(x) -/
def xKeysK (i : Nat) : State → Option (List D) := fun α => match ctOf α[i]? with
  | some (.dic kvs) => if kvs.length ≤ 100000 then some (kvs.map fun kv => keyOf kv.1) else none
  | _ => none
section
variable {e : En} {E : XK} {te tk : TE} {sk : State → Option D} {s : State → Res D}
theorem st_newK {i : Nat} : Sts e E (tAsg tDNewK (gName i)) (sNewK i) := fun c L S σ H α D R k => by
  intro p hp
  have s2 : Same H (upd H p (.dK [])) := fun b o z => by rw [upd_ne (ne_of_none z hp)]; exact z
  exact k (p :: L) (p :: S) _ _ (fz_cons s2 hp) (R.setO s2 hp upd_same ⟨[], rfl, repK_nil⟩)
theorem st_putK {i : Nat} (h : Eve e E te s) (hk : Evp e tk sk) : Sts e E (sDPut (tVar i) tk te) (sPutK i sk s) := fun c L S σ H α D R k => by
  unfold sPutK at k
  refine h c L S σ H α R _ (fun d α' hs v H' m R' rv => ?_) (fun x hx => by rw [hx] at k; exact k) (fun hb => by rw [hb] at k; exact k)
  rw [hs] at k
  dsimp only at k
  split at k
  · rename_i kk kvs hkk hx
    split at k
    · rename_i hz
      obtain ⟨dk, h1, h2⟩ := bnd_some hkk
      obtain ⟨p, o, h3, m1, ho, gs, rfl, r1⟩ := R'.at hx
      refine ⟨.ref p, h3, ?_⟩
      refine hk c L S σ H' α' dk R' h1 _ fun y H2 e2 ry => ?_
      have hy := rep_key h2 ry
      subst hy
      refine ⟨p, _, rfl, DPut.k (e2 _ _ ho) (by rw [r1.len]; exact sz_lt hz), ?_⟩
      obtain ⟨R3, m3⟩ := (R'.up e2).mut hx h3 (o := .dK (putK gs kk v)) (ct' := .dic (putKD kvs kk d)) ⟨_, rfl, repK_put (rv.up (fz_same e2)) ⟨r1.1, r1.2.up (fz_same e2)⟩⟩
      exact k L S σ _ ((fz_mod m R.sub).trans ((fz_same e2).trans (fz_mod m3 (R'.up e2).sub))) R3
    · exact k.elim
  · exact k.elim
theorem ev_inK {i : Nat} (hk : Evp e tk sk) : Evp e (tDIn tk (tVar i)) (xInK i sk) := fun c L S σ H α d R q Q k => by
  unfold xInK at q
  split at q
  · rename_i kk kvs hkk hx
    cases q
    obtain ⟨dk, h1, h2⟩ := bnd_some hkk
    obtain ⟨p, o, h3, m1, ho, gs, rfl, r1⟩ := R.at hx
    refine hk c L S σ H α dk R h1 _ fun y H2 e2 ry => ?_
    have hy := rep_key h2 ry
    subst hy
    refine ⟨.ref p, h3, p, _, rfl, DGet.k (e2 _ _ ho), k _ _ e2 ?_⟩
    obtain ⟨i1, i2⟩ := repK_val (k := kk) r1
    cases hv : valD kk kvs with
    | none => rw [i2 hv]; exact rfl
    | some d => obtain ⟨v, h5, _⟩ := i1 d hv; rw [h5]; exact rfl
  · cases q
theorem ev_notInK {i : Nat} (hk : Evp e tk sk) : Evp e (tDNotIn tk (tVar i)) (xNotInK i sk) := fun c L S σ H α d R q Q k => by
  unfold xNotInK at q
  split at q
  · rename_i kk kvs hkk hx
    cases q
    obtain ⟨dk, h1, h2⟩ := bnd_some hkk
    obtain ⟨p, o, h3, m1, ho, gs, rfl, r1⟩ := R.at hx
    refine hk c L S σ H α dk R h1 _ fun y H2 e2 ry => ?_
    have hy := rep_key h2 ry
    subst hy
    refine ⟨.ref p, h3, p, _, rfl, DGet.k (e2 _ _ ho), k _ _ e2 ?_⟩
    obtain ⟨i1, i2⟩ := repK_val (k := kk) r1
    cases hv : valD kk kvs with
    | none => rw [i2 hv]; exact rfl
    | some d => obtain ⟨v, h5, _⟩ := i1 d hv; rw [h5]; exact rfl
  · cases q
theorem ev_getK {i : Nat} (hk : Evp e tk sk) : Evp e (tDGet (tVar i) tk) (xGetK i sk) := fun c L S σ H α d R q Q k => by
  unfold xGetK at q
  split at q
  · rename_i kk kvs hkk hx
    obtain ⟨dk, h1, h2⟩ := bnd_some hkk
    obtain ⟨p, o, h3, m1, ho, gs, rfl, r1⟩ := R.at hx
    refine ⟨.ref p, h3, ?_⟩
    refine hk c L S σ H α dk R h1 _ fun y H2 e2 ry => ?_
    have hy := rep_key h2 ry
    subst hy
    obtain ⟨v, h5, h6⟩ := (repK_val (k := kk) r1).1 d q
    exact ⟨p, v, rfl, by rw [← h5]; exact DGet.k (e2 _ _ ho), k v H2 e2 (h6.up (fz_same e2))⟩
  · cases q
theorem el_keysK {i : Nat} : Evl e (tCB (fun xs H Q => ∃ (a : Addr) (kvs : List (Key × V)), xs = [.ref a] ∧ Rd H a (.dK kvs) ∧ ∀ p, H p = none → Q (.ref p) (upd H p (.lst (kvs.map fun kv => kV kv.1)))) (tCons (tVar i) tNil)) (xKeysK i) := fun c L S σ H α xs R q Q k => by
  unfold xKeysK at q
  split at q
  · rename_i kvs hx
    split at q
    · cases q
      obtain ⟨p, o, h3, m1, ho, gs, rfl, r1⟩ := R.at hx
      refine ⟨.ref p, h3, p, gs, rfl, Rd.of ho, fun q hq => ?_⟩
      have s4 : Same H (upd H q (.lst (gs.map fun kv => kV kv.1))) := fun b o z => by rw [upd_ne (ne_of_none z hq)]; exact z
      exact k q _ _ s4 hq upd_same ((repK_keys r1).up (fz_cons s4 hq))
    · cases q
  · cases q
end
section
variable {i : Nat} {sk : State → Option D} {s : State → Res D} {α : State}
@[simp] theorem a_sNewK : sNewK i α = .nxt (α.set i (some (.own (.dic [])))) := (rfl)
@[simp] theorem a_sPutK : sPutK i sk s α = (match s α with
  | .ok d α' => (match bnd (sk α') keyD, ctOf α'[i]? with
    | some k, some (.dic kvs) => if kvs.length < 100000 then .nxt (putC α' i (.dic (putKD kvs k d))) else .bad
    | _, _ => .bad)
  | .exc x => .exc x | .bad => .bad) := (rfl)
@[simp] theorem a_xInK : xInK i sk α = (match bnd (sk α) keyD, ctOf α[i]? with
  | some k, some (.dic kvs) => some (.bl (valD k kvs).isSome)
  | _, _ => none) := (rfl)
@[simp] theorem a_xNotInK : xNotInK i sk α = (match bnd (sk α) keyD, ctOf α[i]? with
  | some k, some (.dic kvs) => some (.bl (!(valD k kvs).isSome))
  | _, _ => none) := (rfl)
@[simp] theorem a_xGetK : xGetK i sk α = (match bnd (sk α) keyD, ctOf α[i]? with
  | some k, some (.dic kvs) => valD k kvs
  | _, _ => none) := (rfl)
@[simp] theorem a_xKeysK : xKeysK i α = (match ctOf α[i]? with
  | some (.dic kvs) => if kvs.length ≤ 100000 then some (kvs.map fun kv => keyOf kv.1) else none
  | _ => none) := (rfl)
@[simp] theorem a_keyS {z : Str} : keyD (.str z) = some (.inr z) := (rfl)
@[simp] theorem a_keyI {n : Int} : keyD (.int n) = some (.inl n) := (rfl)
@[simp] theorem a_keyOfS {z : Str} : keyOf (.inr z) = .str z := (rfl)
@[simp] theorem a_keyOfI {n : Int} : keyOf (.inl n) = .int n := (rfl)
end
/-! ### sorted(list of texts) -/
def dstrsL : List D → Option (List Str)
  | [] => some []
  | .str z :: r => (dstrsL r).map (z :: ·)
  | _ :: _ => none
theorem rep_dstrs {e : En} {F : Hp} : ∀ {ds : List D} {vs : List V} {zs : List Str}, dstrsL ds = some zs → Reps e F ds vs → vs = zs.map V.str
  | [], _, _, h, r => by cases h; cases r; rfl
  | .str z :: ds, _, zs, h, ⟨v, w, q, r1, r2⟩ => by
    unfold dstrsL at h
    cases hs : dstrsL ds with
    | none => rw [hs] at h; cases h
    | some ys =>
      rw [hs] at h; cases h
      subst q
      cases (show v = .str z from r1)
      rw [rep_dstrs hs r2]; rfl
  | .non :: _, _, _, h, _ => by simp [dstrsL] at h
  | .bl _ :: _, _, _, h, _ => by simp [dstrsL] at h
  | .int _ :: _, _, _, h, _ => by simp [dstrsL] at h
  | .tup _ :: _, _, _, h, _ => by simp [dstrsL] at h
  | .lst _ :: _, _, _, h, _ => by simp [dstrsL] at h
  | .ins _ _ :: _, _, _, h, _ => by simp [dstrsL] at h
  | .ty _ :: _, _, _, h, _ => by simp [dstrsL] at h
  | .cls _ :: _, _, _, h, _ => by simp [dstrsL] at h
  | .dic _ :: _, _, _, h, _ => by simp [dstrsL] at h
/-! the order of texts -/
def leS (a b : Str) : Bool := !ltCps b.cps.toList a.cps.toList
theorem ltC_asymm : ∀ a b : List Nat, ltCps a b = true → ltCps b a = false
  | [], [], h => by cases h
  | [], _ :: _, _ => rfl
  | _ :: _, [], h => by cases h
  | x :: a, y :: b, h => by
    simp only [ltCps, Bool.or_eq_true, decide_eq_true_eq, Bool.and_eq_true, beq_iff_eq] at h
    have : ¬ (y < x ∨ (y = x ∧ ltCps b a = true)) := by
      rcases h with h | ⟨rfl, h⟩
      · rintro (h2 | ⟨h2, _⟩) <;> omega
      · have := ltC_asymm a b h
        rintro (h2 | ⟨_, h2⟩)
        · omega
        · rw [this] at h2; cases h2
    cases hc : ltCps (y :: b) (x :: a) with
    | false => rfl
    | true => simp only [ltCps, Bool.or_eq_true, decide_eq_true_eq, Bool.and_eq_true, beq_iff_eq] at hc; exact absurd hc this
theorem ltC_tri : ∀ a b : List Nat, ltCps a b = false → ltCps b a = false → a = b
  | [], [], _, _ => rfl
  | [], _ :: _, h, _ => by cases h
  | _ :: _, [], _, h => by cases h
  | x :: a, y :: b, h1, h2 => by
    have n1 : ¬ (x < y ∨ (x = y ∧ ltCps a b = true)) := fun h => by
      have : ltCps (x :: a) (y :: b) = true := by simp only [ltCps, Bool.or_eq_true, decide_eq_true_eq, Bool.and_eq_true, beq_iff_eq]; exact h
      rw [this] at h1; cases h1
    have n2 : ¬ (y < x ∨ (y = x ∧ ltCps b a = true)) := fun h => by
      have : ltCps (y :: b) (x :: a) = true := by simp only [ltCps, Bool.or_eq_true, decide_eq_true_eq, Bool.and_eq_true, beq_iff_eq]; exact h
      rw [this] at h2; cases h2
    have e : x = y := by omega
    subst e
    have f1 : ltCps a b = false := by cases hc : ltCps a b with | false => rfl | true => exact absurd (.inr ⟨rfl, hc⟩) n1
    have f2 : ltCps b a = false := by cases hc : ltCps b a with | false => rfl | true => exact absurd (.inr ⟨rfl, hc⟩) n2
    rw [ltC_tri a b f1 f2]
theorem ltC_trans : ∀ a b c : List Nat, ltCps a b = true → ltCps b c = true → ltCps a c = true
  | [], [], _, h, _ => by cases h
  | [], _ :: _, [], _, h => by cases h
  | [], _ :: _, _ :: _, _, _ => rfl
  | _ :: _, [], _, h, _ => by cases h
  | _ :: _, _ :: _, [], _, h => by cases h
  | x :: a, y :: b, z :: c, h1, h2 => by
    simp only [ltCps, Bool.or_eq_true, decide_eq_true_eq, Bool.and_eq_true, beq_iff_eq] at h1 h2 ⊢
    rcases h1 with h1 | ⟨rfl, h1⟩
    · rcases h2 with h2 | ⟨rfl, h2⟩
      · exact .inl (by omega)
      · exact .inl h1
    · rcases h2 with h2 | ⟨rfl, h2⟩
      · exact .inl h2
      · exact .inr ⟨rfl, ltC_trans a b c h1 h2⟩
theorem leS_iff {a b : Str} : leS a b = true ↔ ltCps b.cps.toList a.cps.toList = false := by unfold leS; simp
theorem leS_antisymm {a b : Str} (h1 : leS a b = true) (h2 : leS b a = true) : a = b := by
  have := ltC_tri _ _ (leS_iff.mp h2) (leS_iff.mp h1)
  exact TL.ext_tl this
theorem leS_total (a b : Str) : leS a b = true ∨ leS b a = true := by
  cases h : ltCps b.cps.toList a.cps.toList with
  | false => exact .inl (leS_iff.mpr h)
  | true => exact .inr (leS_iff.mpr (ltC_asymm _ _ h))
theorem leS_trans {a b c : Str} (h1 : leS a b = true) (h2 : leS b c = true) : leS a c = true := by
  rw [leS_iff] at *
  cases h : ltCps c.cps.toList a.cps.toList with
  | false => rfl
  | true =>
    by_cases hbc : b = c
    · subst hbc; rw [h] at h1; cases h1
    · cases h3 : ltCps b.cps.toList c.cps.toList with
      | false => exact absurd (TL.ext_tl (ltC_tri _ _ h3 h2)) hbc
      | true => rw [ltC_trans _ _ _ h3 h] at h1; cases h1
theorem rising_pw : ∀ (p : Str) (l : List Str), PyProof.Rows.risingS p l = true → (p :: l).Pairwise (fun a b => leS a b = true)
  | p, [], _ => by simp
  | p, x :: r, h => by
    simp only [PyProof.Rows.risingS, Bool.and_eq_true] at h
    have ih := rising_pw x r h.2
    have hpx : leS p x = true := h.1
    refine List.pairwise_cons.mpr ⟨fun y m => ?_, ih⟩
    rcases List.mem_cons.mp m with rfl | m
    · exact hpx
    · exact leS_trans hpx ((List.pairwise_cons.mp ih).1 y m)
theorem sorted_pw {l : List Str} (h : PyProof.Rows.sortedS l = true) : l.Pairwise (fun a b => leS a b = true) := by
  cases l with
  | nil => simp
  | cons p l => exact rising_pw p l h
theorem sort_unique : ∀ {a b : List Str}, a.Perm b → a.Pairwise (fun x y => leS x y = true) → b.Pairwise (fun x y => leS x y = true) → a = b
  | [], b, p, _, _ => (List.Perm.nil_eq p)
  | x :: a, [], p, _, _ => by have := p.length_eq; simp at this
  | x :: a, y :: b, p, h1, h2 => by
    have hx : x ∈ y :: b := p.mem_iff.mp List.mem_cons_self
    have hy : y ∈ x :: a := p.mem_iff.mpr List.mem_cons_self
    have exy : x = y := by
      rcases List.mem_cons.mp hx with e | m1
      · exact e
      · rcases List.mem_cons.mp hy with e | m2
        · exact e.symm
        · exact leS_antisymm ((List.pairwise_cons.mp h1).1 y m2) ((List.pairwise_cons.mp h2).1 x m1)
    subst exy
    rw [sort_unique (List.Perm.cons_inv p) (List.pairwise_cons.mp h1).2 (List.pairwise_cons.mp h2).2]
def sortS (zs : List Str) : List Str := zs.mergeSort leS
theorem sortS_perm (zs : List Str) : (sortS zs).Perm zs := List.mergeSort_perm zs leS
theorem sortS_pw (zs : List Str) : (sortS zs).Pairwise (fun a b => leS a b = true) :=
  List.pairwise_mergeSort (le := leS) (fun a b c h1 h2 => leS_trans h1 h2) (fun a b => by rcases leS_total a b with h | h <;> simp [h]) zs
theorem sort_is {ys zs : List Str} (p : ys.Perm zs) (h : PyProof.Rows.sortedS ys = true) : ys = sortS zs := sort_unique (p.trans (sortS_perm zs).symm) (sorted_pw h) (sortS_pw zs)
def xSortS (sq : State → Option (List D)) : State → Option (List D) := fun α => bnd (bnd (sq α) dstrsL) fun zs => if zs.length < 64 then some ((sortS zs).map .str) else none
theorem sortedS_q {X : Cx} {K : PySem.W.Frag} (h : X.K = K) : CallR X (.builtin "sorted") (rSortedS K) := h ▸ cr_sortedS
theorem el_sortS {e : En} {te : TE} {sq : State → Option (List D)} (h : EvqL e te sq) : Evl e (tCB (rSortedS e.K) (tCons te tNil)) (xSortS sq) := fun c L S σ H α xs R q Q k => by
  unfold xSortS at q
  obtain ⟨zs, hz, q⟩ := bnd_some q
  obtain ⟨ds, h1, h2⟩ := bnd_some hz
  split at q
  · rename_i hl
    cases q
    refine h c L S σ H α ds R h1 _ fun a vs H' e1 sl r => ?_
    have hv := rep_dstrs h2 r
    subst hv
    refine ⟨a, zs, rfl, sl, hl, fun ys p perm hs hp => ?_⟩
    have s4 : Same H' (upd H' p (.lst (ys.map V.str))) := fun b o z => by rw [upd_ne (ne_of_none z hp)]; exact z
    have hn : H p = none := by
      cases z : H p with
      | none => rfl
      | some o => rw [e1 p o z] at hp; cases hp
    exact k p _ _ (e1.trans s4) hn upd_same (by rw [sort_is perm hs]; exact reps_strs _)
  · cases q
@[simp] theorem a_xSortS {sq : State → Option (List D)} {α : State} : xSortS sq α = bnd (bnd (sq α) dstrsL) fun zs => if zs.length < 64 then some ((sortS zs).map .str) else none := (rfl)
theorem dstrsL_of : ∀ zs : List Str, dstrsL (zs.map .str) = some zs
  | [] => rfl
  | z :: zs => by simp only [List.map_cons, dstrsL, dstrsL_of zs]; rfl
/-! ### methods, by the class, that answer a new list -/
def tblTL (e : En) (tbl : List (String × (List D → Option (List D)))) : List (Addr × Sp) := tbl.map fun p => (e.cls p.1, spL e p.2)
def xMethL (tbl : List (String × (List D → Option (List D)))) (mn : Str) (so : State → Option D) (sr : State → Option (List D)) : State → Option (List D) := fun α => bnd (so α) fun o => match o with
  | .ins cn fs => if fs.lookup mn = none then bnd (tbl.lookup cn) fun m => bnd (sr α) fun ds => m (o :: ds) else none
  | _ => none
theorem mem_of_lookupL {κ : Type} {c : String} {m : κ} : ∀ {tbl : List (String × κ)}, tbl.lookup c = some m → (c, m) ∈ tbl
  | [], h => by cases h
  | (x, y) :: r, h => by
    rw [List.lookup_cons] at h
    cases hx : c == x with
    | true => rw [hx] at h; cases h; rw [beq_iff_eq.mp hx]; exact List.mem_cons_self
    | false => rw [hx] at h; exact List.mem_cons_of_mem _ (mem_of_lookupL h)
theorem el_meth {e : En} {to : TE} {tr : TA} {so : State → Option D} {sr : State → Option (List D)} {tbl : List (String × (List D → Option (List D)))} {mn : Str} (ho : Evp e to so) (hr : Eva e tr sr) : Evl e (tMethV (tblTL e tbl) mn to tr) (xMethL tbl mn so sr) := fun c L S σ H α xs R h Q q => by
  unfold xMethL at h
  obtain ⟨o, h1, h⟩ := bnd_some h
  split at h
  · rename_i cn fs
    split at h
    · rename_i hn
      obtain ⟨m, h2, h⟩ := bnd_some h
      obtain ⟨ds, h3, h⟩ := bnd_some h
      refine ⟨(e.cls cn, spL e m), List.mem_map.mpr ⟨_, mem_of_lookupL h2, rfl⟩, ?_⟩
      refine ho c L S σ H α _ R h1 _ fun v H1 e1 r1 => ?_
      obtain ⟨a, dx, gs, rfl, r2, r3⟩ := id r1
      refine ⟨a, dx, gs, rfl, fz_le _ _ r2, repF_none r3 hn, ?_⟩
      refine hr c L S σ H1 α ds (R.up e1) h3 _ fun vs H2 e2 r4 => ?_
      refine ⟨L, .ins cn fs :: ds, xs, dom_up (e1.trans e2) R.dom, by rw [List.append_nil]; exact Reps.cons (Rep.up r1 (fz_same e2)) r4, h, fun p us H3 e3 n hp r5 => q p us H3 ((e1.trans e2).trans e3) ?_ hp r5⟩
      cases z : H p with
      | none => rfl
      | some o => rw [e2 p o (e1 p o z)] at n; cases n
    · cases h
  · cases h
@[simp] theorem a_xMethL {α : State} {so : State → Option D} {sr : State → Option (List D)} {tbl : List (String × (List D → Option (List D)))} {mn : Str} : xMethL tbl mn so sr α = (bnd (so α) fun o => match o with
  | .ins cn fs => if fs.lookup mn = none then bnd (tbl.lookup cn) fun m => bnd (sr α) fun ds => m (o :: ds) else none
  | _ => none) := (rfl)
/-! ### x.extend(a new list) -/
def sExt (i : Nat) (sq : State → Option (List D)) : State → Out := fun α => match sq α, ctOf α[i]? with
  | some ys, some (.lst xs) => if xs.length + ys.length ≤ 100000 then .nxt (putC α i (.lst (xs ++ ys))) else .bad
  | _, _ => .bad
theorem mtextK {X : Cx} {K : PySem.W.Frag} (h : X.K = K) : MtM X "list.extend" rExtend := mt_extend
theorem st_ext {e : En} {E : XK} {te : TE} (i : Nat) {sq : State → Option (List D)} (h : Evl e te sq) : Sts e E (tDrop (tBM e.K "list" rExtend (tVar i) (tCons te tNil))) (sExt i sq) := fun c L S σ H α DD R k => by
  unfold sExt at k
  split at k
  · rename_i ys xs hy hc
    split at k
    · rename_i hz
      obtain ⟨p, o, h1, m1, ho, vs, rfl, r1⟩ := R.at hc
      refine ⟨.ref p, h1, .inl ⟨rfl, vs, SqL.of ho⟩, ?_⟩
      refine h c L S σ H α _ R hy _ fun q us H2 e2 n hq r2 => ?_
      have R2 := R.up e2
      have hqL : q ∉ L := fun m => R.dom q m n
      refine ⟨p, q, vs, us, rfl, rfl, e2 _ _ ho, hq, by rw [r1.len, r2.len, sizeLine_eq]; omega, ?_⟩
      have r2' : Reps e (fz L H2) ys us := r2.up (fz_anti fun a m => List.mem_cons_of_mem _ m)
      obtain ⟨R3, m3⟩ := R2.mut hc h1 (o := .lst (vs ++ us)) (ct' := .lst (xs ++ ys)) ⟨_, rfl, (r1.up (fz_same e2)).append r2'⟩
      exact k L S σ _ ((fz_same e2).trans (fz_mod m3 R2.sub)) R3
    · exact k.elim
  · exact k.elim
@[simp] theorem a_sExt {i : Nat} {sq : State → Option (List D)} {α : State} : sExt i sq α = (match sq α, ctOf α[i]? with
  | some ys, some (.lst xs) => if xs.length + ys.length ≤ 100000 then .nxt (putC α i (.lst (xs ++ ys))) else .bad
  | _, _ => .bad) := (rfl)
end Ab
end
section
set_option maxRecDepth 100000
set_option maxHeartbeats 3200000
namespace Ab
open PySem PySem.Spec PyProof.Rows L2
/-! ### sets of keys of one kind that can be walked -/
section
variable {P : Program} {w : World} {κ : Type} [DecidableEq κ] {knd : PySem.KeyKind P w κ}
def Apart (knd : PySem.KeyKind P w κ) (e f : Int × Value) : Prop := ∀ k, knd.is k e.2 = true → knd.is k f.2 = true → False
structure SetW (knd : PySem.KeyKind P w κ) (h : Heap) (a : Addr) (S : κ → Bool) (n : Nat) (o : Obj) (es : Array (Int × Value)) (ep : Nat) (t : SetTable) : Prop where
  ho : h.get? a = some o
  ex : o.ExactSet
  hd : o.data = .set es ep t
  el : ElemsOf knd es.toList
  ap : es.toList.Pairwise (Apart knd)
  mm : ∀ k, S k = true ↔ ∃ e ∈ es.toList, knd.is k e.2 = true
  bd : es.size < scanBound
  ft : t.fits es.size = true
  sz : es.size = n
  ri : Ris t.place.toList
  ld : w.params.followText "set-order" = true ∨ t.led = true
def SetX (knd : PySem.KeyKind P w κ) (h : Heap) (a : Addr) (S : κ → Bool) (n : Nat) : Prop := ∃ o es ep t, SetW knd h a S n o es ep t
theorem apart_symm {e f : Int × Value} (h : Apart knd e f) : Apart knd f e := fun k a b => h k b a
theorem SetX.at {h h' : Heap} {a : Addr} {S : κ → Bool} {n : Nat} (R : SetX knd h a S n) (k : ∀ o, h.get? a = some o → h'.get? a = some o) : SetX knd h' a S n := by
  obtain ⟨o, es, ep, t, R⟩ := R
  exact ⟨o, es, ep, t, { R with ho := k o R.ho }⟩
theorem SetX.congr {h : Heap} {a : Addr} {S S' : κ → Bool} {n : Nat} (R : SetX knd h a S n) (e : ∀ k, S' k = S k) : SetX knd h a S' n := by
  have q : S' = S := funext e
  rw [q]; exact R
variable {A : Around} {E : Value → Shared → Prop} {s : Shared} {a : Addr} {S : κ → Bool} {n : Nat}
theorem storeW {h : Heap} {o : Obj} {es es' : Array (Int × Value)} {ep : Nat} {t t' : SetTable} (ho : h.get? a = some o) (hd : o.data = .set es ep t) : (h.update a (Obj.putSet es' t')).get? a = some { o with data := .set es' (ep + 1) t' } := by
  have q := Heap.get?_update_self (Obj.putSet es' t') ho (by rw [putSet_of es' t' hd]; rfl)
  rwa [putSet_of es' t' hd] at q
theorem setW_tail {g : Bool → Sem Unit} (hg : ∀ (b : Bool) (s₁ : Shared) (Q' : Unit → Shared → Prop), Q' () s₁ → wpAny (model P w) A (g b) Q' E s₁)
    {o : Obj} {es : Array (Int × Value)} {ep : Nat} {t : SetTable} (ho : s.heap.get? a = some o) (hex : o.ExactSet) (hd : o.data = .set es ep t)
    {fs : Array (Int × Value)} {u : SetTable} {S' : κ → Bool} (h1 : ElemsOf knd fs.toList) (h2 : fs.toList.Pairwise (Apart knd)) (h3 : ∀ k, S' k = true ↔ ∃ e ∈ fs.toList, knd.is k e.2 = true)
    (h4 : fs.size < scanBound) (h5 : u.fits fs.size = true) (h6 : Ris u.place.toList) (h7 : w.params.followText "set-order" = true ∨ u.led = true) {wd : Bool} {R : Option Bool → Shared → Prop}
    (hR : ∀ h', Heap.SameBut a s.heap h' → SetX knd h' a S' fs.size → R (some true) { s with heap := h' }) :
    wpAny (model P w) A (do
        storeSet a fs u
        if (!wd && u.tooFull) = true then do
            g (relayAll u fs (SetTable.grown fs.size)).2.2
            storeSet a (relayAll u fs (SetTable.grown fs.size)).1 (relayAll u fs (SetTable.grown fs.size)).2.1
            pure (some true)
          else pure (some true)) R E s := by
  refine wpAny_bind (wpAny_storeSet_of ho hd ?_ (fits_of_scanBound h4))
  have o1 := storeW (es' := fs) (t' := u) ho hd
  have b1 := Heap.SameBut.update s.heap a (Obj.putSet fs u)
  split
  · have p1 := relayAll_perm u fs (SetTable.grown fs.size)
    have p2 := relayAll_fits u fs (SetTable.grown fs.size)
    have p3 := relayAll_ris u fs (SetTable.grown fs.size)
    have p4 := relayAll_led u fs (SetTable.grown fs.size)
    generalize relayAll u fs (SetTable.grown fs.size) = Z at p1 p2 p3 p4 ⊢
    obtain ⟨gs, v, gave⟩ := Z
    dsimp only at p1 p2 p3 p4 ⊢
    have z1 : gs.size = fs.size := by rw [← Array.length_toList, p1.length_eq, Array.length_toList]
    refine wpAny_bind (hg _ _ _ ?_)
    refine wpAny_bind (wpAny_storeSet_of o1 rfl ?_ (fits_of_scanBound (by rw [z1]; exact h4)))
    have o2 := storeW (es' := gs) (t' := v) o1 rfl
    exact wpAny_pure (hR _ (b1.trans (Heap.SameBut.update _ a _)) ⟨_, gs, _, v, { ho := o2, ex := hex, hd := rfl, el := h1.perm p1, ap := (p1.pairwise_iff (fun q => apart_symm q)).mpr h2, mm := fun k => (h3 k).trans ⟨fun ⟨e, m, q⟩ => ⟨e, p1.mem_iff.mpr m, q⟩, fun ⟨e, m, q⟩ => ⟨e, p1.mem_iff.mp m, q⟩⟩, bd := by rw [z1]; exact h4, ft := p2, sz := z1, ri := p3, ld := h7.imp id fun z => by rw [p4]; exact z }⟩)
  · exact wpAny_pure (hR _ b1 ⟨_, fs, _, u, { ho := o1, ex := hex, hd := rfl, el := h1, ap := h2, mm := h3, bd := h4, ft := h5, sz := rfl, ri := h6, ld := h7 }⟩)
theorem setW_add {k : κ} {x : Value} {Q : Bool → Shared → Prop} (hk : knd.is k x = true) (hsc : x.scannable = true) (R : SetX knd s.heap a S n) (room : n + 1 < scanBound)
    (hQ : ∀ h', Heap.SameBut a s.heap h' → SetX knd h' a (fun j => S j || decide (j = k)) (if S k = true then n else n + 1) → Q (!S k) { s with heap := h' }) :
    wpAny (model P w) A (setAddHashed a x (knd.hash k)) Q E s := by
  obtain ⟨o, es, ep, t, R⟩ := R
  unfold setAddHashed setAddHashedIn
  refine wpAny_holding (wpAny_bind (wpAny_setState_of R.ho R.hd R.ft ?_))
  dsimp only
  rw [byScan_of hsc R.bd R.el]
  simp only [↓reduceIte]
  unfold setAddByScan
  refine wpAny_bind ?_
  refine wpAny_bind (wpAny_rule ?_)
  refine wpAny_bind (wpAny_setScan_of hk R.ho R.hd R.ft R.el ?_)
  cases hf : List.findIdx? (fun e => knd.is k e.2) es.toList with
  | some j =>
    dsimp only
    obtain ⟨hj, pj, _⟩ := List.findIdx?_eq_some_iff_getElem.mp hf
    have hS : S k = true := (R.mm k).2 ⟨es.toList[j], List.getElem_mem hj, pj⟩
    refine wpAny_pure (wpAny_pure ?_)
    have q := hQ s.heap (Heap.SameBut.refl a s.heap) ⟨o, es, ep, t, { R with
      mm := fun i => by
        rw [Bool.or_eq_true, decide_eq_true_eq, ← R.mm i]
        exact ⟨fun z => z.elim id (fun e => e ▸ hS), .inl⟩
      sz := by rw [if_pos hS]; exact R.sz }⟩
    rw [hS] at q
    exact q
  | none =>
    dsimp only
    have hS : S k = false := by
      cases q : S k with
      | false => rfl
      | true =>
        obtain ⟨e, m, p⟩ := (R.mm k).mp q
        have := List.findIdx?_eq_none_iff.mp hf e m
        rw [p] at this; cases this
    have gw : ∀ (b : Bool) {s₁ : Shared} {Q' : Unit → Shared → Prop}, Q' () s₁ → wpAny (model P w) A (match b with | true => rule "set.scan.the-table-gave-way" | false => pure ()) Q' E s₁ := fun b s₁ Q' q => by
      cases b
      · exact wpAny_pure q
      · exact wpAny_rule q
    have p1 := layNew_perm t es (knd.hash k) x
    have p2 := layNew_fits t es (knd.hash k) x
    have p3 := layNew_ris t es (knd.hash k) x R.ri
    have p4 := layNew_led t es (knd.hash k) x
    generalize layNew t es (knd.hash k) x = Z at p1 p2 p3 p4 ⊢
    obtain ⟨fs, u, wd, gave⟩ := Z
    dsimp only at p1 p2 p3 p4 ⊢
    rw [Array.toList_push] at p1
    have e1 : ElemsOf knd fs.toList := (R.el.push hk hsc).perm p1
    have e2 : ∀ i, (S i || decide (i = k)) = true ↔ ∃ e ∈ fs.toList, knd.is i e.2 = true := mem_push_iff hk R.mm p1
    have e3 : fs.toList.Pairwise (Apart knd) := (p1.pairwise_iff (fun q => apart_symm q)).mpr (List.pairwise_append.mpr ⟨R.ap, List.pairwise_singleton _ _, fun e m f mf => by
      obtain rfl := List.mem_singleton.mp mf
      intro i hi hx
      have : i = k := knd.inj x i k hx hk
      subst this
      have c : S i = true := (R.mm i).mpr ⟨e, m, hi⟩
      rw [hS] at c; cases c⟩)
    have z1 : fs.size = n + 1 := by rw [← Array.length_toList, p1.length_eq, List.length_append, Array.length_toList, R.sz]; rfl
    have e4 : fs.size < scanBound := by rw [z1]; exact room
    have e7 : w.params.followText "set-order" = true ∨ u.led = true := R.ld.imp id fun z => by rw [p4]; exact z
    have fin : ∀ h', Heap.SameBut a s.heap h' → SetX knd h' a (fun j => S j || decide (j = k)) fs.size → Q true { s with heap := h' } := fun h' sb r => by
      have q := hQ h' sb
      rw [hS] at q
      rw [z1] at r
      exact q r
    refine wpAny_bind (gw _ ?_)
    split
    · refine wpAny_bind ?_
      rw [hashByValue_scannable 8 hsc]
      refine wpAny_pure ?_
      refine setW_tail ?_ R.ho R.ex R.hd e1 e3 e2 e4 ?_ ?_ ?_ ?_
      · intro b s₁ Q' q
        cases b
        · exact wpAny_pure q
        · exact wpAny_rule q
      · first | (split <;> first | exact p2 | exact SetTable.fits_plain_off p2) | exact p2
      · first | (split <;> exact p3) | exact p3
      · first | (split <;> exact e7) | exact e7
      · intro h' sb r; dsimp only; exact wpAny_pure (fin h' sb r)
    · refine wpAny_bind (wpAny_pure ?_)
      simp only [↓reduceIte]
      refine setW_tail ?_ R.ho R.ex R.hd e1 e3 e2 e4 p2 p3 e7 ?_
      · intro b s₁ Q' q
        cases b
        · exact wpAny_pure q
        · exact wpAny_rule q
      · intro h' sb r; dsimp only; exact wpAny_pure (fin h' sb r)
theorem led_new (w : World) : w.params.followText "set-order" = true ∨ (!w.params.followText "set-order") = true := by
  cases w.params.followText "set-order"
  · exact .inr rfl
  · exact .inl rfl
theorem setX_fresh {h : Heap} (ho : h.get? a = some { cls := .type "set", dict := none, data := .set #[] 0 (.fresh 0 0 (!w.params.followText "set-order")) }) : SetX knd h a (fun _ => false) 0 :=
  ⟨_, #[], 0, _, { ho := ho, ex := ⟨rfl, rfl, rfl⟩, hd := rfl, el := fun e m => by simp at m, ap := by simp, mm := fun k => by simp, bd := by decide, ft := by rfl, sz := rfl, ri := List.Pairwise.nil, ld := led_new w }⟩
/-! the loop -/
def amg (val : Nat → κ) (i : Nat) : κ → Bool := fun k => (List.range i).any fun j => decide (k = val j)
theorem amg_succ (val : Nat → κ) (i : Nat) (k : κ) : amg val (i + 1) k = (amg val i k || decide (k = val i)) := by
  unfold amg
  rw [List.range_succ, List.any_append]
  simp
variable {R : Result → Shared → Prop} {I : Addr} {fp wr : List Addr} {G : Array GenState → Array GenState → Prop} {Pv : Nat → Value → Prop} {St : Nat → Shared → Prop}
theorem setX_loop (W : WalksS P w A.in1 I fp wr G n Pv St) (Z : Addr) (hZf : Z ∉ fp) (val : Nat → κ)
    (hval : ∀ i v, Pv i v → knd.is (val i) v = true ∧ v.scannable = true) (hb : n + 1 < scanBound) :
    ∀ (k i : Nat) (s : Shared), n - i = k → i ≤ n → St i s → (∃ c, c ≤ i ∧ SetX knd s.heap Z (amg val i) c) →
      (∀ s' c, c ≤ n → Moved (Z :: wr) G s s' → SetX knd s'.heap Z (amg val n) c → R (.ok (.ret .none)) s') →
      codeAny (model P w) A (.builtin "set.update.loop" ⟨[.ref Z, .ref I], []⟩) R s := by
  have hZw : Z ∉ wr := fun h => hZf (W.sub _ h)
  have hsub : ∀ b ∈ wr, b ∈ Z :: wr := fun b hb => List.mem_cons_of_mem _ hb
  intro k
  induction k with
  | zero =>
    intro i s hk hi hst ⟨c, hc, hS⟩ hR
    obtain rfl : i = n := by omega
    refine codeAny_builtin F.entry_set_update_loop ?_
    rw [Around.under_plainId F.plain_set_update_loop _]
    show wpAny _ A.in1 (pyNext (.ref I) >>= _) _ _ s
    refine wpAny_bind (W.done s _ _ hst fun s' hm => ?_)
    show wpAny _ A.in1 (ret Value.none) _ _ s'
    exact wpAny_pure (hR s' c hc (hm.mono hsub) (hS.at fun o e => hm.heap Z o hZw e))
  | succ k ih =>
    intro i s hk hi hst ⟨c, hc, hS⟩ hR
    have hlt : i < n := by omega
    refine codeAny_builtin F.entry_set_update_loop ?_
    rw [Around.under_plainId F.plain_set_update_loop _]
    show wpAny _ A.in1 (pyNext (.ref I) >>= _) _ _ s
    refine wpAny_bind (W.item i s _ _ hlt hst fun v s' hP hst' hm => ?_)
    obtain ⟨his, hsc⟩ := hval i v hP
    show wpAny _ A.in1 (holding [v] (setAdd Z v) >>= _) _ _ s'
    refine wpAny_bind (wpAny_holding ?_)
    unfold setAdd
    refine wpAny_holding ?_
    refine wpAny_bind (knd.pyHash (k := val i) his ?_)
    have hS' : SetX knd s'.heap Z (amg val i) c := hS.at fun o e => hm.heap Z o hZw e
    refine setW_add (s := { s' with toks := s'.toks + 1 }) his hsc hS' (by omega) fun h' hsb hS2 => ?_
    have hSi : ∃ c', c' ≤ i + 1 ∧ SetX knd h' Z (amg val (i + 1)) c' := by
      refine ⟨_, ?_, hS2.congr (fun k' => amg_succ val i k')⟩
      split <;> omega
    refine wpAny_pure ⟨plainId_quiet F.plain_set_update_loop _, ih (i + 1) _ (by omega) hlt (W.frame _ s' _ _ hst' (Nat.le_succ _) fun b hb o e => ?_) hSi fun s'' c' hc' hm'' hS'' => ?_⟩
    · rw [hsb.2 b (fun h : b = Z => hZf (by rw [← h]; exact hb))]; exact e
    · refine hR s'' c' hc' (Moved.trans W.gtrans ((hm.mono hsub).then_heap (Nat.le_succ _) fun b o hb e => ?_) hm'') hS''
      rw [hsb.2 b (fun h : b = Z => hb (by rw [h]; exact List.mem_cons_self))]; exact e
/-! set(a list) -/
def nSet (w : World) : Obj := { cls := .type "set", dict := none, data := .set #[] 0 (.fresh 0 0 (!w.params.followText "set-order")) }
theorem call_setX {l : Addr} {items : Array Value} {val : Nat → κ} {Q : Value → Shared → Prop} (hh : A.handled = none) (hl : s.heap.IsList l items)
    (hval : ∀ i v, items[i]? = some v → knd.is (val i) v = true ∧ v.scannable = true) (hb : items.size + 1 < scanBound)
    (h : ∀ (h' : Heap) (tk c : Nat), c ≤ items.size → SetX knd h' s.heap.objs.size (amg val items.size) c → (∀ b o, s.heap.get? b = some o → h'.get? b = some o) → Q (.ref s.heap.objs.size) { s with heap := h', toks := tk }) :
    wpAny (model P w) A (call (.type "set") [.ref l]) Q E s := by
  obtain ⟨c, tl, hmro⟩ := F.called_set.mro
  have hmade := F.called_set.made
  have hsub := F.called_set.sub
  refine wpAny_call (codeAny_of_tree ?_)
  show wpAny _ _ (callAny (.type "set") _) _ _ _
  refine wpAny_pure ⟨Code.quiet_builtin _ (by decide +kernel), codeAny_builtin F.entry_type_call ?_⟩
  rw [Around.under_plain (weight_type_call_type "set" [.ref l] []) rfl]
  have h1 := F.called_set.notType
  have h2 := F.called_set.canCreate
  have hct := F.typeCall_set_1 (.ref l)
  repeat (any_goals (first | assumption | wp_step))
  refine codeAny_mono (code_set_led1 (.ref l) (E := E) (Q₁ := fun obj s₁ => obj = .ref s.heap.objs.size ∧ s₁ = { s with heap := s.heap.push (nSet w) }) ⟨rfl, rfl⟩) fun r s₁ hr => ?_
  cases r with
  | error e => exact hr
  | ok fl =>
    cases fl with
    | ret obj =>
      obtain ⟨rfl, rfl⟩ := hr
      have hS : (s.heap.push (nSet w)).get? s.heap.objs.size = some (nSet w) := Heap.get?_push_size _ rfl
      have hT : Shared.TypeIs { s with heap := s.heap.push (nSet w) } (.ref s.heap.objs.size) "set" := ⟨_, hS, rfl⟩
      have hli := F.called_set.init.lookup
      have hbi := F.called_set.init.bind (.ref s.heap.objs.size)
      repeat (any_goals (first | assumption | wp_step))
      refine codeAny_mono (codeAny_call_builtin (R := wants (fun r s₂ => r = .none ∧ ∃ h' tk c, s₂ = { s with heap := h', toks := tk } ∧ c ≤ items.size ∧ SetX knd h' s.heap.objs.size (amg val items.size) c ∧ (∀ b o, s.heap.get? b = some o → h'.get? b = some o)) E) F.called_set.init.plain F.entry_set_init (check_set_init_1 hT ?_)) fun r₂ s₂ hr₂ => ?_
      · obtain ⟨ol, hol, hcl, nl, hdl⟩ := hl
        obtain ⟨ocls, odict, odata, oslots⟩ := ol
        simp only at hcl hdl
        subst hcl; subst hdl
        have hol' : (s.heap.push (nSet w)).get? l = some { cls := .type "list", dict := odict, data := .seq items nl, slots := oslots } := Heap.get?_push_of_some _ hol
        have hsls := F.sub_list_set
        have hslf := F.sub_list_frozenset
        have hne : (Value.type "list" == Value.type "dict") = false := by decide
        have hl1 : (s.heap.push (nSet w)).IsList l items := ⟨_, hol', rfl, nl, rfl⟩
        unfold Builtin.«set.__init__» noKeywords Builtin.Frozenset.updateFrom
        generalize hPI : pyIter = PI
        wp_walk
        subst hPI
        refine wpAny_pyIter_list hl1 ?_
        refine wpAny_bind (wpAny_runValue ?_)
        have hlS : l < s.heap.objs.size := Heap.lt_size hol
        have hh3 : A.in1.in1.in1.handled = none := by simp [hh]
        have hz1 : (s.heap.push (nSet w)).objs.size = s.heap.objs.size + 1 := Heap.size_push ..
        have hneI : l ≠ (s.heap.push (nSet w)).objs.size := by rw [hz1]; exact Nat.ne_of_lt (Nat.lt_succ_of_lt hlS)
        have hSf : s.heap.objs.size ∉ [(s.heap.push (nSet w)).objs.size, l] := by
          simp only [List.mem_cons, List.not_mem_nil, or_false, not_or]
          exact ⟨by rw [hz1]; exact Nat.ne_of_lt (Nat.lt_succ_self _), Nat.ne_of_gt hlS⟩
        refine setX_loop ((Walks.list hh3 _ l hneI items).toS) s.heap.objs.size
          hSf val hval hb (items.size - 0) 0 _ (by omega) (Nat.zero_le _)
          ⟨⟨_, Heap.get?_push_size _ rfl, rfl, rfl⟩, (hl1.push _)⟩ ?hS0 ?hR
        case hS0 =>
          exact ⟨0, Nat.le_refl 0, (setX_fresh (Heap.get?_push_of_some _ hS)).congr fun k => rfl⟩
        case hR =>
          intro s' c' hc' hm hS'
          obtain ⟨h', g2, d', tk', os'⟩ := s'
          have eg : g2 = s.gens := hm.gens
          have ed : d' = s.drawn := hm.drawn
          have eo : os' = s.os := hm.os
          subst eg; subst ed; subst eo
          show wpAny _ _ _ _ _ _
          refine wpAny_pure ?_
          show wpAny _ _ (ret Value.none) _ _ _
          refine wpAny_pure ⟨rfl, h', tk', c', rfl, hc', hS', fun b o e => ?_⟩
          have hb0 : b < s.heap.objs.size := Heap.lt_size e
          exact hm.heap b o (by simp only [List.mem_cons, List.not_mem_nil, or_false, not_or]; exact ⟨Nat.ne_of_lt hb0, by rw [hz1]; exact Nat.ne_of_lt (Nat.lt_succ_of_lt hb0)⟩) (Heap.get?_push_of_some _ (Heap.get?_push_of_some _ e))
      · cases r₂ with
        | error e => exact hr₂
        | ok fl₂ =>
          cases fl₂ with
          | ret r =>
            obtain ⟨rfl, h', tk, c', rfl, hc', hS', hk'⟩ := hr₂
            repeat (any_goals (first | assumption | wp_step))
            exact h _ _ _ hc' hS' hk'
          | _ => exact hr₂.elim
    | _ => exact hr.elim
end
/-! ### set(texts), sorted of it -/
def SetSO (P : Program) (w : World) (a : Addr) (S : Str → Bool) (n : Nat) : HO := .ext fun h => SetX (PySem.strKind P w) h a S n
def rSetSt (K : PySem.W.Frag) (P : Program) (w : World) : List V → Hp → VK → Prop := fun xs H Q => ∃ (l : Addr) (zs : List Str), xs = [V.ref l] ∧ SqL K H l (zs.map V.str) ∧ zs.length < 1000 ∧
  ∀ a S n, H a = none → (∀ z, S z = true ↔ z ∈ zs) → n ≤ zs.length → Q (.ref a) (upd H a (SetSO P w a S n))
def rSortSetSt (P : Program) (w : World) : List V → Hp → VK → Prop := fun vs H Q => ∃ (a : Addr) (S : Str → Bool) (n : Nat), vs = [V.ref a] ∧ H a = some (SetSO P w a S n) ∧ n < 64 ∧
  ∀ (ys : List Str) (p : Addr), sortedS ys = true → ys.Nodup → (∀ z, z ∈ ys ↔ S z = true) → H p = none → Q (.ref p) (upd H p (.lst (ys.map V.str)))
section
variable {X : Cx}
theorem setSO_new {w : World} {P : Program} {H : Hp} {h : Heap} {a : Addr} {S : Str → Bool} {n : Nat} (R : SetX (PySem.strKind P w) h a S n) : ObjOk P w H h a (SetSO P w a S n) := by
  have ⟨o, _, _, _, r⟩ := R
  exact ⟨R, ⟨o, r.ho⟩, fun h1 h2 p k => SetX.at p k⟩
theorem strsAreV : ∀ {ys : List Str} {us : List Value}, Vals (ys.map V.str) us → StrsAre us ys
  | [], _, .nil => .nil
  | y :: ys, _, .cons r t => by
    obtain ⟨k, rfl⟩ := r
    exact .cons y k (strsAreV t)
theorem cr_setSt (hc : X.calm = true) : CallR X (.type "set") (rSetSt X.K X.prog X.w) := by
  intro pins s σ H xs us Q I r h
  obtain ⟨l, zs, rfl, hq, h63, q⟩ := h
  obtain ⟨u, rfl, rx⟩ := vals1 r
  cases rx
  obtain ⟨its, rv, pl, hz⟩ := I.list hq
  have hI : StrsAre its zs := strsAreV rv
  have hl : its.toArray.size = zs.length := by rw [List.size_toArray, ← rv.length, List.length_map]
  refine call_setX (knd := PySem.strKind X.prog X.w) (val := fun i => zs.getD i Str.empty) (I.ok.hd hc) pl.isList (fun i v hv => ?_) (by rw [hl]; unfold scanBound; omega) fun h' tk c hc' hS hk => ?_
  · obtain ⟨t, rfl⟩ := SS.strs_at hI i v (by simpa using hv)
    exact ⟨PySem.strKind_is _ _ _ _, rfl⟩
  · refine ⟨.ref s.heap.objs.size, _, I.laid (t' := tk) (fun b u e => hk b u e) (Nat.le_refl _) (setSO_new hS), rfl, q _ _ _ (I.hok.fresh (Nat.le_refl _)) (fun z => ?_) (by rw [← hl]; exact hc')⟩
    unfold amg
    rw [List.any_eq_true, hl]
    constructor
    · rintro ⟨j, hj, e⟩
      have e := of_decide_eq_true e
      have hj := List.mem_range.mp hj
      rw [e]
      show zs.getD j Str.empty ∈ zs
      rw [List.getD_eq_getElem?_getD, List.getElem?_eq_getElem hj]
      exact List.getElem_mem hj
    · intro m
      obtain ⟨j, hj, e⟩ := List.mem_iff_getElem.mp m
      refine ⟨j, List.mem_range.mpr hj, decide_eq_true ?_⟩
      show z = zs.getD j Str.empty
      rw [List.getD_eq_getElem?_getD, List.getElem?_eq_getElem hj, ← e]; rfl
theorem strs_some : ∀ {us : List Value}, (∀ v ∈ us, ∃ k t, v = Value.str k t) → ∃ zs : List Str, StrsAre us zs
  | [], _ => ⟨[], .nil⟩
  | u :: us, h => by
    obtain ⟨zs, hz⟩ := strs_some (us := us) fun v m => h v (List.mem_cons_of_mem _ m)
    obtain ⟨k, t, rfl⟩ := h u List.mem_cons_self
    exact ⟨k :: zs, .cons k t hz⟩
theorem strsAre_mem {P : Program} {w : World} : ∀ {us : List Value} {zs : List Str}, StrsAre us zs → ∀ z, z ∈ zs ↔ ∃ u ∈ us, (PySem.strKind P w).is z u = true
  | _, _, .nil, z => by simp
  | _, _, .cons y t hr, z => by
    have ih := strsAre_mem (P := P) (w := w) hr z
    have e : (PySem.strKind P w).is z (.str y t) = true ↔ z = y := ⟨fun h => (PySem.strKind P w).inj _ _ _ h (PySem.strKind_is P w y t), fun h => by rw [h]; exact PySem.strKind_is P w y t⟩
    constructor
    · intro m
      rcases List.mem_cons.mp m with rfl | m
      · exact ⟨_, List.mem_cons_self, PySem.strKind_is P w _ t⟩
      · obtain ⟨u, m, q⟩ := ih.mp m
        exact ⟨u, List.mem_cons_of_mem _ m, q⟩
    · rintro ⟨u, m, q⟩
      rcases List.mem_cons.mp m with rfl | m
      · rw [e.mp q]; exact List.mem_cons_self
      · exact List.mem_cons_of_mem _ (ih.mpr ⟨u, m, q⟩)
theorem strs_apart {P : Program} {w : World} : ∀ {us : List Value} {zs : List Str}, StrsAre us zs → us.Pairwise (fun a b => ∀ k, (PySem.strKind P w).is k a = true → (PySem.strKind P w).is k b = true → False) → zs.Nodup
  | _, _, .nil, _ => List.nodup_nil
  | _, _, .cons y t hr, h => by
    obtain ⟨h1, h2⟩ := List.pairwise_cons.mp h
    refine List.nodup_cons.mpr ⟨fun m => ?_, strs_apart hr h2⟩
    obtain ⟨u, mu, q⟩ := (strsAre_mem (P := P) (w := w) hr y).mp m
    exact h1 u mu y (PySem.strKind_is P w y t) q
theorem cr_sortSetSt (hc : X.calm = true) : CallR X (.builtin "sorted") (rSortSetSt X.prog X.w) := by
  intro pins s σ H xs us Q I r q
  obtain ⟨a, S, n, ex, ha, h64, q⟩ := q
  subst ex
  obtain ⟨u, eu, rx⟩ := vals1 r
  subst eu
  cases rx
  obtain ⟨o, es, ep, t, R⟩ := (I.hok a _ ha).1
  refine Calls.call_function_entry PyProof.Rows.kind_sorted PyProof.Rows.plain_sorted PyProof.Rows.entry_sorted (PyProof.Rows.args_sorted1 _) ?_
  unfold Builtin.«sorted»
  refine wpAny_bind (m := checkCount "sorted" 1 1 _) (wpAny_pure ?_)
  refine wpAny_bind (collect_set (A := X.A.in1) (I.ok.hd hc) ⟨o, R.ho, R.ex.1, R.hd⟩ R.ft R.bd R.ri R.ld fun s1 vs k1 hz g1 o1 pm => ?_)
  have hvl : vs.length = n := by rw [pm.length_eq, List.length_map, Array.length_toList]; exact R.sz
  have hall : ∀ v ∈ vs, ∃ k t, v = Value.str k t := fun v hv => by
    obtain ⟨e, he, q⟩ := List.mem_map.mp (pm.mem_iff.mp hv)
    obtain ⟨⟨k, hk, _⟩, _⟩ := R.el e he
    obtain ⟨t, ht⟩ := Value.isStrOf_shape (x := k) (v := e.2) hk
    exact ⟨k, t, by rw [← q]; exact ht⟩
  obtain ⟨zs, hS⟩ := strs_some hall
  have hnd : zs.Nodup := strs_apart (P := X.prog) (w := X.w) hS ((pm.pairwise_iff (fun q k a b => q k b a)).mpr (List.pairwise_map.mpr R.ap))
  have hmm : ∀ z, z ∈ zs ↔ S z = true := fun z => by
    rw [strsAre_mem (P := X.prog) (w := X.w) hS z, R.mm z]
    constructor
    · rintro ⟨u, m, h⟩
      obtain ⟨e, he, q⟩ := List.mem_map.mp (pm.mem_iff.mp m)
      exact ⟨e, he, by rw [q]; exact h⟩
    · rintro ⟨e, m, h⟩
      exact ⟨e.2, pm.mem_iff.mpr (List.mem_map_of_mem m), h⟩
  refine wpAny_bind (wpAny_newList ?_ (by rw [hvl, sizeLine_eq]; omega))
  have hoL : (s1.heap.push (seqObj "list" vs.toArray 0)).get? s1.heap.objs.size = some (seqObj "list" vs.toArray 0) := Heap.get?_push_size _ rfl
  refine wpAny_bind (wpAny_holding (wpAny_call_entry PyProof.Rows.slot_list_sort ⟨_, hoL, rfl⟩ PyProof.Rows.entry_list_sort
    (list_sort_treeK strKind_oneLt hoL hS.keysOf (fun v₁ v₂ rest e => keyKind_strs (by rw [← e]; exact hS)) (by rw [hvl]; exact h64) fun st' hp hs => ⟨_, rfl, ?_⟩)
    (PyProof.Rows.args_list_sort _)))
  obtain ⟨ys, g3, g4, g5⟩ := sorted_out_str hS hp hs
  obtain ⟨c, hc'⟩ := PyProof.Rows.sortedHeap_at (vs := vs) (out := (arrOf st').map (·.2)) hoL
  have hlen : (ys.map V.str).length ≤ sizeLine := by
    have : zs.length = vs.length := hS.length.symm
    rw [List.length_map, g4.length_eq, this, hvl, sizeLine_eq]; omega
  have hn : H s1.heap.objs.size = none := I.hok.fresh hz
  have hold : ∀ b u, s.heap.get? b = some u → (sortedHeap (s1.heap.push (seqObj "list" vs.toArray 0)) s1.heap.objs.size vs ((arrOf st').map (·.2))).get? b = some u := fun b u e => by
    have q := k1 b u e
    have hlt := Heap.lt_size q
    rw [PyProof.Rows.sortedHeap_old (Nat.ne_of_lt hlt) (by rw [size_push']; exact Nat.lt_succ_of_lt hlt)]
    exact Heap.get?_push_of_some _ q
  obtain ⟨hp1, gn1, dr1, tk1, os1⟩ := s1
  dsimp only at *
  subst g1; subst o1
  refine wpAny_pure ⟨_, rfl, .ref hp1.objs.size, _, I.call (ch := []) (Un.laid hold hz hn) (I.hok.laid hold hz (show ObjOk X.prog X.w _ _ _ (.lst (ys.map V.str)) from ⟨hlen, ((arrOf st').map (·.2)).toList, c, vals_of_strs g3, by rw [Array.toArray_toList]; exact hc'⟩)) I.bare (fun _ z => nomatch z), rfl, q ys _ g5 (g4.nodup_iff.mpr hnd) (fun z => by rw [g4.mem_iff, hmm z]) hn⟩
end
theorem setSt_q {X : Cx} {K : PySem.W.Frag} {P : Program} {w : World} (hK : X.K = K) (hP : X.prog = P) (hw : X.w = w) (hc : X.calm = true) : CallR X (.type "set") (rSetSt K P w) := by
  subst hK; subst hP; subst hw; exact cr_setSt hc
theorem sortSetSt_q {X : Cx} {P : Program} {w : World} (hP : X.prog = P) (hw : X.w = w) (hc : X.calm = true) : CallR X (.builtin "sorted") (rSortSetSt P w) := by
  subst hP; subst hw; exact cr_sortSetSt hc
def nubS : List Str → List Str
  | [] => []
  | z :: r => if z ∈ r then nubS r else z :: nubS r
theorem nubS_mem : ∀ (l : List Str) (z : Str), z ∈ nubS l ↔ z ∈ l
  | [], z => by simp [nubS]
  | y :: r, z => by
    unfold nubS
    split
    · rename_i h
      rw [nubS_mem r z, List.mem_cons]
      exact ⟨.inr, fun q => q.elim (fun e => e ▸ h) id⟩
    · rw [List.mem_cons, List.mem_cons, nubS_mem r z]
theorem nubS_nodup : ∀ l : List Str, (nubS l).Nodup
  | [] => List.nodup_nil
  | y :: r => by
    unfold nubS
    split
    · exact nubS_nodup r
    · rename_i h
      exact List.nodup_cons.mpr ⟨fun m => h ((nubS_mem r y).mp m), nubS_nodup r⟩
theorem perm_of_mem {α : Type} [DecidableEq α] : ∀ {a b : List α}, a.Nodup → b.Nodup → (∀ z, z ∈ a ↔ z ∈ b) → a.Perm b := fun {a b} ha hb h =>
  List.perm_iff_count.mpr fun z => by
    rw [List.Nodup.count ha, List.Nodup.count hb]
    by_cases m : z ∈ a
    · rw [if_pos m, if_pos ((h z).mp m)]
    · rw [if_neg m, if_neg fun q => m ((h z).mpr q)]
/-- sorted(set(xs)), texts -/
def xSortSet (sq : State → Option (List D)) : State → Option (List D) := fun α => bnd (bnd (sq α) dstrsL) fun zs => if zs.length < 64 then some ((sortS (nubS zs)).map .str) else none
theorem el_sortSet {e : En} {te : TE} {sq : State → Option (List D)} {P : Program} {w : World} (h : EvqL e te sq) : Evl e (tCB (rSortSetSt P w) (tCons (tCB (rSetSt e.K P w) (tCons te tNil)) tNil)) (xSortSet sq) := fun c L S σ H α xs R q Q k => by
  unfold xSortSet at q
  obtain ⟨zs, hz, q⟩ := bnd_some q
  obtain ⟨ds, h1, h2⟩ := bnd_some hz
  split at q
  · rename_i hl
    cases q
    refine h c L S σ H α ds R h1 _ fun a vs H' e1 sl r => ?_
    have hv := rep_dstrs h2 r
    subst hv
    refine ⟨a, zs, rfl, sl, by omega, fun b S n hb hS hn => ?_⟩
    have s3 : Same H' (upd H' b (SetSO P w b S n)) := fun x o z => by rw [upd_ne (ne_of_none z hb)]; exact z
    refine ⟨b, S, n, rfl, upd_same, by omega, fun ys p srt nd mm hp => ?_⟩
    have s4 : Same (upd H' b (SetSO P w b S n)) (upd (upd H' b (SetSO P w b S n)) p (.lst (ys.map V.str))) := fun x o z => by rw [upd_ne (ne_of_none z hp)]; exact z
    have hn : H p = none := by
      cases z : H p with
      | none => rfl
      | some o => rw [s3 p o (e1 p o z)] at hp; cases hp
    have hys : ys = sortS (nubS zs) := sort_is (perm_of_mem nd (nubS_nodup zs) fun z => by rw [mm z, hS z, nubS_mem]) srt
    exact k p _ _ ((e1.trans s3).trans s4) hn upd_same (by rw [hys]; exact reps_strs _)
  · cases q
@[simp] theorem a_xSortSet {sq : State → Option (List D)} {α : State} : xSortSet sq α = bnd (bnd (sq α) dstrsL) fun zs => if zs.length < 64 then some ((sortS (nubS zs)).map .str) else none := (rfl)
end Ab
end
section
set_option maxRecDepth 100000
set_option maxHeartbeats 1000000
namespace Ab
open PySem L2 PyProof.Rows PySem.Spec
/-- x.clear() -/
def sClear (i : Nat) : State → Out := fun α => match ctOf α[i]? with
  | some (.lst _) => .nxt (putC α i (.lst []))
  | _ => .bad
section
variable {e : En} {E : XK}
theorem st_clear {i : Nat} : Sts e E (tDrop (tBM0 e.K "list" rClear (tVar i))) (sClear i) := fun c L S σ H α D R k => by
  unfold sClear at k
  split at k
  · rename_i xs hx
    obtain ⟨p, o, h1, m1, ho, vs, rfl, r1⟩ := R.at hx
    refine ⟨.ref p, h1, .inl ⟨rfl, vs, SqL.of ho⟩, p, vs, rfl, rfl, ho, ?_⟩
    obtain ⟨R2, m2⟩ := R.mut hx h1 (o := .lst []) (ct' := .lst []) ⟨_, rfl, Reps.nil⟩
    exact k L S σ _ (fz_mod m2 R.sub) R2
  · exact k.elim
end
theorem pe_clear {X : Cx} {K : PySem.W.Frag} (h : X.K = K) {o : Expr} {to : TE} {apos cpos : Pos} (ho : PE X o to) (hbase : attributeBase o "clear" X.env (eval o X.env) = eval o X.env := by rfl) (hline : (apos.endLine == cpos.line) = true := by rfl) :
    PE X (.Call (.Attribute o "clear" apos) [] [] cpos) (tBM0 K "list" rClear to) := h ▸ pe_bm0 PySem.F.plainAttrs_list PySem.F.slot_list_clear PySem.F.type_list_clear mt_clear ho hbase hline
@[simp] theorem a_sClear {i : Nat} {α : State} : sClear i α = (match ctOf α[i]? with
  | some (.lst _) => .nxt (putC α i (.lst []))
  | _ => .bad) := (rfl)
end Ab
end
section

end
section
set_option maxRecDepth 100000
set_option maxHeartbeats 1000000
namespace Ab
open PySem L2 PyProof.Rows PySem.Spec
/-! ### defs that change an object and may raise -/
/-- a method that may raise -/
structure CalMX (P : Program) (w : World) (K : PySem.W.Frag) (mg : Str → Option Value) (base : Heap) (C : Addr) (m : Str) (ps : List Str) (k : Nat) (sp : Sp) : Prop where
  ex : ∃ f fd, FnOk P w K mg base (L2.CX P w) k f fd ps sp ∧ Meth K C m f ∧ Binds K fd ps []
section
variable {P : Program} {w : World} {K : PySem.W.Frag} {mg : Str → Option Value} {base : Heap} {C : Addr} {x m : Str} {ps : List Str} {k j : Nat} {sp : Sp}
theorem CalMX.vacuous {f : Addr} {fd : FuncData} (hm : Meth K C m f) (hb : Binds K fd ps []) (no : ∀ vs H Q E, ¬ sp vs H Q E) : CalMX P w K mg base C m ps k sp :=
  ⟨f, fd, ⟨fun vs H Q E h => absurd h (no vs H Q E), fun A outer s H args us vs Q E _ _ _ _ h => absurd h (no vs H Q E)⟩, hm, hb⟩
theorem CalX.vacuous {f : Addr} {fd : FuncData} (hm : mg x = some (.ref f)) (hk : PySem.W.keepIn K (.ref f) = true) (hb : Binds K fd ps []) (no : ∀ vs H Q E, ¬ sp vs H Q E) : CalX P w K mg base x ps k sp :=
  ⟨f, fd, ⟨fun vs H Q E h => absurd h (no vs H Q E), fun A outer s H args us vs Q E _ _ _ _ h => absurd h (no vs H Q E)⟩, hm, hk, hb⟩
theorem fn_MX {cls : String → Addr} {x qual : Str} {st : Stmt} {f : Addr} {fd : FuncData} {N ps : List Str} {k : Nat} (s : State → Out) (F : Fun K x qual st f fd) (S : FnScope N ps (defScope st)) {n kk : Nat} (hn : N.length = n) (hkk : ps.length = kk) (hps : kk ≤ n) {m : List A → MRes} (hmm : m = runM n kk s)
    (hbody : ∀ (cdv : Value) (A : Around) (outer : List Env) (s0 : Shared) (H : Hp) (E : XK), Room k (A.deeper (envOfC qual (defScope st) s0.heap.objs.size f cdv)) →
      ∃ t, PSs (cxOf (L2.CX P w) P w K mg base N qual (defScope st) f cdv A outer s0 H E) (defBody st) t ∧ Sts ⟨K, cls⟩ E t s) : FnOk P w K mg base (L2.CX P w) (k + 1) f fd ps (spM ⟨K, cls⟩ m) := by
  refine F.okX S (fun vs H Q E h => by rw [spM_len hmm h, hkk]) (fun cdv A outer s0 H vs Q E hr h => ?_)
  obtain ⟨t, h1, h2⟩ := hbody cdv A outer s0 H E hr
  exact ⟨t, h1, body_M hn hps hmm h2 h⟩
end
section
variable {X : Cx} {C : Addr} {mn x : Str} {ps : List Str} {k j : Nat} {sp : Sp} {E : XK} {ta : TE} {o e : Expr} {es : List Expr} {t : TA} {apos pos p : Pos}
theorem passX (tk : Takes X (fun cls d _ H => E cls d H)) : Passes (L2.CX X.prog X.w) X E := passes_call tk fun _ _ _ _ h => h
theorem pe_calXE (C : CalX X.prog X.w X.K X.mg X.base x ps k sp) (tk : Takes X (fun cls d _ H => E cls d H)) (hr : Room j X.A) (hkj : k ≤ j) (hg : Gl X x) (ha : PA X (e :: es) t) (hdb : (x == ("__debug__" : Str)) = false := by decide) (he : starEach (e :: es) X.env = (false, eval e X.env) :: starEach es X.env := by rfl) (hpl : (backTo pos (starEach es X.env)).any (·.1) = false := by rfl) :
    PE X (.Call (.Name x p) (e :: es) [] pos) (tCall sp [] E t) := by
  obtain ⟨f, fd, G, hm, hk, hb⟩ := C.ex
  exact pe_call G (hr.mono hkj) hg hm hk hb .nil (passX tk) ha hdb he hpl
theorem pe_calmX {pl : Sem Bool} (he : PE X o ta) (c : Cls X.K C) (M : CalMX X.prog X.w X.K X.mg X.base C mn ps k sp) (tk : Takes X (fun cls d _ H => E cls d H)) (hr : Room j X.A) (hkj : k ≤ j) (ha : PA X (e :: es) t)
    (hst : starEach (e :: es) X.env = (false, eval e X.env) :: starEach es X.env := by rfl) (hpl : (backTo pos (starEach es X.env)).any (·.1) = false := by rfl)
    (ht : eval (.Call (.Attribute o mn apos) (e :: es) [] pos) X.env = (do
      let ov ← eval o X.env
      standAt apos.atName
      let (f, first) ← holding [ov] (getMethod ov mn pl)
      callWith pos f first (backTo pos (starEach (e :: es) X.env)) (backToKw pos (keywordEach [] X.env))) := by rfl) : PE X (.Call (.Attribute o mn apos) (e :: es) [] pos) (tMeth C mn sp [] E ta t) := by
  obtain ⟨f, fd, G, hm, hb⟩ := M.ex
  exact pe_meth (pl := pl) he c hm G (hr.mono hkj) hb .nil (passX tk) ha hst hpl ht
theorem pe_calmX0 {pl : Sem Bool} (he : PE X o ta) (c : Cls X.K C) (M : CalMX X.prog X.w X.K X.mg X.base C mn ps k sp) (tk : Takes X (fun cls d _ H => E cls d H)) (hr : Room j X.A) (hkj : k ≤ j)
    (ht : eval (.Call (.Attribute o mn apos) [] [] pos) X.env = (do
      let ov ← eval o X.env
      standAt apos.atName
      let (f, first) ← holding [ov] (getMethod ov mn pl)
      callWith pos f first (backTo pos (starEach [] X.env)) (backToKw pos (keywordEach [] X.env))) := by rfl) : PE X (.Call (.Attribute o mn apos) [] [] pos) (tMeth C mn sp [] E ta tNil) := by
  obtain ⟨f, fd, G, hm, hb⟩ := M.ex
  exact pe_meth0 (pl := pl) he c hm G (hr.mono hkj) hb .nil (passX tk) ht
end
/-! ### an exception that is kept behind its suite -/
/-- the context behind the try: the exception is pinned -/
abbrev hold (X : Cx) (pn : List (Addr × Obj)) : Cx := { X with pn := pn }
theorem ok_hold {X : Cx} (ok : X.Ok) (pn : List (Addr × Obj)) : (hold X pn).Ok :=
  ⟨ok.mod, ok.kind, ok.glob, ok.blt, ok.above, ok.inj, ok.has, ok.cab, ok.hd, ok.frames, ok.stk, ok.exf, ok.bs, ok.bsz, ok.noex, ok.exfs, ok.funs, ok.frf⟩
/-- what the clause wishes -/
def wKeep (K : PySem.W.Frag) (c : Value) (i : Nat) (ts : Addr → Value → Option Addr → TS) (tr : Addr → Value → Option Addr → TS) (D : Ends) : WX := fun cls d σ H =>
  PySem.W.exmOne K cls c = some true ∧ ∀ a, H a = none → ts a cls d { nx := fun σ' H' => tr a cls d D (σ'.set i none) H', rt := fun _ _ => False } (σ.set i (some (.ref a))) H
section
variable {X : Cx} {x n : Str} {c : Value} {i : Nat} {body suite rest : List Stmt} {b₀ : Stmt} {np pos pos' : Pos} {tb : WX → TS} {tn : TS} {ts tr : Addr → Value → Option Addr → TS}
theorem pss_try_keep (hs : X.stack = X.env :: X.outer) (hf : X.env.frame = some X.env.locals) (hN : X.N.Nodup) (hi : X.N[i]? = some n) (hln : X.env.kindOf n = some .local) (hc : Names X x c)
    (hb : ∀ (W : WX) (pn : List (Addr × Obj)) (xe : Value → Shared → Prop), Takes (X.tr pn xe) W → PassesOwn (model X.prog X.w) X.A X.env xe → PSs (X.tr pn xe) body (tb W))
    (hsu : ∀ (a : Addr) (oe : Obj) (cls : Value) (d : Option Addr) (pn : List (Addr × Obj)), Zc cls d oe → (∃ vs, oe.data = .fields vs) → PSs (X.suite a ((a, oe) :: pn)) (b₀ :: suite) (ts a cls d))
    (hrn : PSs X rest tn)
    (hrx : ∀ (a : Addr) (oe : Obj) (cls : Value) (d : Option Addr) (pn : List (Addr × Obj)), Zc cls d oe → (∃ vs, oe.data = .fields vs) → PSs (hold X ((a, oe) :: pn)) rest (tr a cls d)) :
    PSs X (.Try body [.ExceptHandler (some (.Name x np)) (some n) (b₀ :: suite) pos'] [] [] pos :: rest) (fun D σ H => tb (wKeep X.K c i ts tr D) { D with nx := tn D } σ H) := by
  refine ⟨fun pins s σ H D I h => ?_⟩
  have ok := I.ok
  have hfr : X.A.frames = some (X.env :: X.outer) := by rw [ok.frames, hs]
  have hloc : Loc X.env.scope n := .inl hln
  let P2 : Flow → Shared → Prop := fun f s1 => match f with
    | .next => (∃ σ' H', Inv X pins σ' H' s1 ∧ tn D σ' H') ∨ (∃ (a : Addr) (oe : Obj) (cls : Value) (d : Option Addr) (σ' : L2.St) (H' : Hp), Inv (hold X ((a, oe) :: (X.pn ++ pins))) [] σ' H' s1 ∧ Zc cls d oe ∧ (∃ vs, oe.data = .fields vs) ∧ tr a cls d D σ' H')
    | f => SP X pins D f s1
  have key : wpAny (model X.prog X.w) X.A (exec (.Try body [.ExceptHandler (some (.Name x np)) (some n) (b₀ :: suite) pos'] [] [] pos) X.env) P2 X.xe s := by
    refine wpAny_Try_except ?_
    refine wpAny_mono ((hb (wKeep X.K c i ts tr D) (X.pn ++ pins) (fun e s₁ => wpAny (model X.prog X.w) X.A (noteFrame e X.env) (fun _ s₂ => wpAny (model X.prog X.w) X.A (setFlight e none) (fun _ s₃ =>
      wpAny (model X.prog X.w) X.A (handleBy e X.env [.ExceptHandler (some (.Name x np)) (some n) (b₀ :: suite) pos']) P2 X.xe s₃) X.xe s₂) X.xe s₁) (fun u s' xx => ?_) PassesOwn.looking).run [] s σ H { D with nx := tn D } (I.toTry _) h) (fun f s1 hsp => ?_) (fun e s1 he => he)
    · -- the catch
      obtain ⟨a, B, sI, pins', σ', H', cls, d, rfl, J', nb, up, sky, na, os, ag, hb1, hyes⟩ := xx
      have J : Inv X pins σ' H' sI := J'.ofTry ok
      have sky' : Sky B (X.env :: X.outer) a (Zc cls d) X.env.locals s'.heap := by rw [← hs]; exact sky
      show wpAny (model X.prog X.w) X.A (noteFrame (.ref a) X.env) _ _ _
      refine Sky.land Zc.steady hfr hf sky' fun h3 fl3 up3 => ?_
      have J3 : Inv X pins σ' H' { s' with heap := h3 } := J.landed nb fl3.1 (up.trans up3) os ag
      obtain ⟨oe3, vs3, he3, hz3, hd3⟩ := fl3.there
      have notFr : ∀ {h : Heap} {o : Obj} {vs : Array Value}, h.FunFrames B (X.env :: X.outer) → h.get? a = some o → o.data = .fields vs → a ∉ frs (X.env :: X.outer) := fun {h o vs} ff e dd hm => by
        obtain ⟨_, o', e', hnf⟩ := ff.mem hm
        rw [e] at e'; cases e'
        exact hnf _ dd
      have nfr := notFr fl3.2.2.1 he3 hd3
      have nL : a ≠ X.env.locals := fun z => nfr (List.mem_filterMap.mpr ⟨X.env, List.mem_cons_self, by rw [hf, z]⟩)
      have nF : a ∉ X.fs := fun hm => by
        obtain ⟨e, he, q⟩ := List.mem_filterMap.mp hm
        exact nfr (List.mem_filterMap.mpr ⟨e, List.mem_cons_of_mem _ he, q⟩)
      have S3 := J3.suite he3 hd3 na nL nF
      refine wpAny_handleBy_cons (codeAny_handlers_test ?_) (by intro q; cases q)
      have LT : PySem.W.Looks (model X.prog X.w) h3 (typeOf (.ref a)) cls := fun A Q E s k q => wpAny_typeOf_ref (k _ _ he3) (by rw [hz3.1]; exact q)
      have LM := PySem.W.exm_one (M := model X.prog X.w) (J3.kIn) LT hb1
      have test : ∀ {Q : Value → Shared → Prop} {E : Value → Shared → Prop}, Q c { s' with heap := h3 } → wpAny (model X.prog X.w) (X.A.mark (some (.ref a))) (eval (.Name x np) X.env) Q E { s' with heap := h3 } := fun {Q E} q => by
        obtain ⟨hg, hdbg, hm | ⟨hm, hv, hnn⟩⟩ := hc
        · exact ld_glob (X := X.suite a ((a, oe3) :: (X.pn ++ pins))) S3 hg hm q hdbg
        · exact ld_blt (X := X.suite a ((a, oe3) :: (X.pn ++ pins))) S3 hg hm hv q hnn hdbg
      refine test (LM.here ?_)
      refine codeAny_handlers_suite_as ?_
      refine HandSPX.lands_againZ fl3 fun h4 fl4 up4 => ?_
      have J4 : Inv X pins σ' H' { s' with heap := h4 } := J.landed nb fl4.1 ((up.trans up3).trans up4) os ag
      obtain ⟨oe4, vs4, he4, hz4, hd4⟩ := fl4.there
      have S4 := J4.suite he4 hd4 na nL nF
      refine store_ok (X := X.suite a ((a, oe4) :: (X.pn ++ pins))) (v := .ref a) S4 hN hi hloc rfl (fun s5 S5 => ?_) (.inr hln)
      refine wpAny_mono ((hsu a oe4 cls d (X.pn ++ pins) hz4 ⟨_, hd4⟩).run [] s5 _ H' _ S5 (hyes a na)) (fun f s6 hsp => ?_) (fun _ _ z => False.elim z)
      cases f with
      | next =>
        obtain ⟨σ6, H6, S6, q6⟩ := hsp
        have T6 : Inv (hold X ((a, oe4) :: (X.pn ++ pins))) [] σ6 H6 s6 := ⟨ok_hold ok _, S6.os, S6.bare, S6.base, S6.loc, S6.cell, S6.free, S6.freeC, fun p hp => S6.pin p hp, S6.hok, S6.len⟩
        have g : wpAny (model X.prog X.w) X.A (do bindName X.env n .none; unbindBehindTheSuite X.env n pos') (fun _ s7 => P2 .next s7) X.xe s6 :=
          gone_ok (X := hold X ((a, oe4) :: (X.pn ++ pins))) T6 hN hi hln fun s7 J7 => .inr ⟨a, oe4, cls, d, _, _, J7, hz4, ⟨_, hd4⟩, q6⟩
        exact g
      | brk => obtain ⟨σ6, H6, S6, q6⟩ := hsp; exact q6.elim
      | cont => obtain ⟨σ6, H6, S6, q6⟩ := hsp; exact q6.elim
      | ret u => obtain ⟨v6, σ6, H6, S6, r6, q6⟩ := hsp; exact q6.elim
    · cases f with
      | next =>
        obtain ⟨σ', H', J', q⟩ := hsp
        exact wpAny_execs_nil (Or.inl ⟨σ', H', J'.ofTry ok, q⟩)
      | brk =>
        obtain ⟨σ', H', J', q⟩ := hsp
        exact ⟨σ', H', J'.ofTry ok, q⟩
      | cont =>
        obtain ⟨σ', H', J', q⟩ := hsp
        exact ⟨σ', H', J'.ofTry ok, q⟩
      | ret u =>
        obtain ⟨v, σ', H', J', r, q⟩ := hsp
        exact ⟨v, σ', H', J'.ofTry ok, r, q⟩
  refine wpAny_execs_cons (thn key fun f s1 q => ?_)
  cases f with
  | next =>
    rcases q with ⟨σ', H', J, q⟩ | ⟨a, oe, cls, d, σ', H', J, hz, hd, q⟩
    · exact hrn.run pins s1 σ' H' D J q
    · have back : ∀ {σ2 : L2.St} {H2 : Hp} {s2 : Shared}, Inv (hold X ((a, oe) :: (X.pn ++ pins))) [] σ2 H2 s2 → Inv X pins σ2 H2 s2 := fun {σ2 H2 s2} K =>
        ⟨ok, K.os, K.bare, K.base, K.loc, K.cell, K.free, K.freeC, fun p hp => K.pin p (List.mem_append_left _ (List.mem_cons_of_mem _ hp)), K.hok, K.len⟩
      refine wpAny_mono ((hrx a oe cls d (X.pn ++ pins) hz hd).run [] s1 σ' H' D J q) (fun f s2 hsp => ?_) (fun _ _ z => z)
      cases f with
      | next => obtain ⟨σ', H', K, z⟩ := hsp; exact ⟨σ', H', back K, z⟩
      | brk => obtain ⟨σ', H', K, z⟩ := hsp; exact ⟨σ', H', back K, z⟩
      | cont => obtain ⟨σ', H', K, z⟩ := hsp; exact ⟨σ', H', back K, z⟩
      | ret u => obtain ⟨v, σ', H', K, r, z⟩ := hsp; exact ⟨v, σ', H', back K, r, z⟩
  | ret v => exact q
  | brk => exact q
  | cont => exact q
/-- .. and its dict -/
theorem pss_hold_pin {a : Addr} {oe : Obj} {d : Option Addr} {pn : List (Addr × Obj)} {ts : List (Str × V) → TS}
    (h : ∀ (dd : Addr) (od : Obj) (fs : List (Str × V)), d = some dd → OdOk od fs → PSs (hold X ((a, oe) :: (dd, od) :: pn)) rest (ts fs)) :
    PSs (hold X ((a, oe) :: pn)) rest (fun D σ H => ∃ dd fs, d = some dd ∧ H dd = some (.xd fs) ∧ ts fs D σ (del H dd)) := by
  refine ⟨fun pins s σ H D I ⟨dd, fs, e, hd, q⟩ => ?_⟩
  have hx : ObjOk X.prog X.w H s.heap dd (.xd fs) := I.hok dd _ hd
  obtain ⟨mA, hns, hr⟩ := hx
  obtain ⟨od, ho, hl⟩ := lookIn_ns hns
  obtain ⟨n1, n2⟩ := xd_nofs I hd
  have nc : ∀ v, od.data ≠ .cell v := fun v z => by
    obtain ⟨o, es, ep, h1, h2, _⟩ := hns
    rw [ho] at h1; cases h1
    rw [z] at h2; cases h2
  have J := inv_drop I hd
  have J2 : Inv (hold X ((a, oe) :: (dd, od) :: pn)) pins σ (del H dd) s := by
    refine ⟨ok_hold (X := hold X ((a, oe) :: pn)) J.ok _, J.os, J.bare, J.base, J.loc, J.cell, J.free, J.freeC, fun p hp => ?_, J.hok, J.len⟩
    have hp' : p ∈ (a, oe) :: (dd, od) :: (pn ++ pins) := hp
    rcases List.mem_cons.mp hp' with e | hp'
    · exact J.pin p (by rw [e]; exact List.mem_cons_self)
    rcases List.mem_cons.mp hp' with e | hp'
    · rw [e]; exact ⟨ho, del_same, n2, n1, nc⟩
    · exact J.pin p (List.mem_cons_of_mem _ hp')
  have back : ∀ {σ' : L2.St} {H' : Hp} {s' : Shared}, Inv (hold X ((a, oe) :: (dd, od) :: pn)) pins σ' H' s' → Inv (hold X ((a, oe) :: pn)) pins σ' H' s' := fun {σ' H' s'} K => by
    refine ⟨I.ok, K.os, K.bare, K.base, K.loc, K.cell, K.free, K.freeC, fun p hp => K.pin p ?_, K.hok, K.len⟩
    have hp' : p ∈ (a, oe) :: (pn ++ pins) := hp
    show p ∈ (a, oe) :: (dd, od) :: (pn ++ pins)
    rcases List.mem_cons.mp hp' with e | hp'
    · rw [e]; exact List.mem_cons_self
    · exact List.mem_cons_of_mem _ (List.mem_cons_of_mem _ hp')
  refine wpAny_mono ((h dd od fs e ⟨fun f => ⟨_, hl f, hr f⟩, nc⟩).run pins s σ _ D J2 q) (fun f s' hs => ?_) (fun _ _ z => z)
  cases f with
  | next => obtain ⟨σ', H', K, z⟩ := hs; exact ⟨σ', H', back K, z⟩
  | brk => obtain ⟨σ', H', K, z⟩ := hs; exact ⟨σ', H', back K, z⟩
  | cont => obtain ⟨σ', H', K, z⟩ := hs; exact ⟨σ', H', back K, z⟩
  | ret u => obtain ⟨v, σ', H', K, z⟩ := hs; exact ⟨v, σ', H', back K, z⟩
end
/-- try: x = f(..) except C as n: c = n; rest -/
theorem pss_tryhold {X : Cx} {i j ic k l : Nat} {y n nm cn f : Str} {c : Value} {ps : List Str} {sp : Sp} {a : Expr} {as : List Expr} {ta : TA} {tn : TS} {tr : Addr → Value → List (Str × V) → TS} {rest : List Stmt} {p1 p2 p3 p4 p5 p6 p7 np pos pos' : Pos}
    (hs : X.stack = X.env :: X.outer) (hf : X.env.frame = some X.env.locals) (hN : X.N.Nodup) (hi : X.N[i]? = some y) (hy : Loc X.env.scope y) (hy2 : X.env.scope.names.lookup y = some .local) (hj : X.N[j]? = some nm) (hln : X.env.kindOf nm = some .local)
    (hic : X.N[ic]? = some cn) (hcl : Loc X.env.scope cn) (hcl2 : X.env.scope.names.lookup cn = some .local) (hnl : Vis X.env.scope nm) (hc : Names X n c)
    (C : CalX X.prog X.w X.K X.mg X.base f ps k sp) (hr : Room l X.A) (hkj : k ≤ l) (hg : Gl X f)
    (ha : ∀ (W : WX) (pn : List (Addr × Obj)) (xe : Value → Shared → Prop), PA (X.tr pn xe) (a :: as) ta)
    (hrn : PSs X rest tn)
    (hrx : ∀ (b dd : Addr) (oe od : Obj) (cls : Value) (fs : List (Str × V)) (pn : List (Addr × Obj)), Zc cls (some dd) oe → (∃ vs, oe.data = .fields vs) → OdOk od fs → PSs (hold X ((b, oe) :: (dd, od) :: pn)) rest (tr b cls fs))
    (hsw : swapsWith (.Call (.Name f p1) (a :: as) [] p2) (some (.Name y p3)) p4.line X.env = pure false := by rfl)
    (hsw2 : swapsWith (.Name nm p6) (some (.Name cn p5)) p7.line X.env = pure false := by rfl)
    (hd1 : (nm == ("__debug__" : Str)) = false := by decide) (hd2 : (nm == ("__classdict__" : Str)) = false := by decide) (hdb : (f == ("__debug__" : Str)) = false := by decide) (he : starEach (a :: as) X.env = (false, eval a X.env) :: starEach as X.env := by rfl) (hpl : (backTo p2 (starEach as X.env)).any (·.1) = false := by rfl) :
    PSs X (.Try [.Assign [.Name y p3] (.Call (.Name f p1) (a :: as) [] p2) p4] [.ExceptHandler (some (.Name n np)) (some nm) [.Assign [.Name cn p5] (.Name nm p6) p7] pos'] [] [] pos :: rest)
      (fun D σ H => tAsg (tCallS sp (WE (wKeep X.K c j (fun a cls d => tAsg (tVar j) (gName ic)) (fun a cls d D σ H => ∃ dd fs, d = some dd ∧ H dd = some (.xd fs) ∧ tr a cls fs D σ (del H dd)) D)) ta) (gName i) { D with nx := tn D } σ H) :=
  pss_try_keep (tb := fun W D σ H => tAsg (tCallS sp (WE W) ta) (gName i) D σ H) (ts := fun a cls d => tAsg (tVar j) (gName ic)) (tr := fun a cls d D σ H => ∃ dd fs, d = some dd ∧ H dd = some (.xd fs) ∧ tr a cls fs D σ (del H dd)) hs hf hN hj hln hc
    (fun W pn xe tk _ => pss_one (ps_set (X := X.tr pn xe) (i := i) hN hi hy (pe_calX (X := X.tr pn xe) C hr hkj hg tk (ha W pn xe) hdb he hpl) hsw (.inr hy2)))
    (fun b oe cls d pn _ _ => pss_one (ps_set (X := X.suite b ((b, oe) :: pn)) (i := ic) hN hic hcl (pe_var (X := X.suite b ((b, oe) :: pn)) (i := j) hj hnl hd1 hd2) hsw2 (.inr hcl2)))
    hrn (fun b oe cls d pn hz hd => pss_hold_pin fun dd od fs e ho => hrx b dd oe od cls fs pn (e ▸ hz) hd ho)
/-! ### reading a pinned exception, wherever it is pinned -/
section
variable {X : Cx} {a dd : Addr} {oe od : Obj} {cls : Value} {fs : List (Str × V)}
theorem inst_atH (m1 : (a, oe) ∈ X.pn) (m2 : (dd, od) ∈ X.pn) {pins : List (Addr × Obj)} {σ : L2.St} {H : Hp} {s : Shared} {D : Addr} (hz : Zc (.ref D) (some dd) oe) (hf : ∃ vs, oe.data = .fields vs) (I : Inv X pins σ H s) : PySem.W.InstAt s.heap a oe D (some od) := by
  obtain ⟨ha, _⟩ := I.pin (a, oe) (List.mem_append_left _ m1)
  obtain ⟨ho, _⟩ := I.pin (dd, od) (List.mem_append_left _ m2)
  obtain ⟨vs, hd⟩ := hf
  exact ⟨ha, hz.1, by unfold PySem.W.notCls; rw [hd] <;> rfl, by rw [hz.2]; exact ho⟩
theorem pe_xfH {e : Expr} {te : TE} {pos : Pos} {n : Str} (m1 : (a, oe) ∈ X.pn) (m2 : (dd, od) ∈ X.pn) (hz : Zc cls (some dd) oe) (hf : ∃ vs, oe.data = .fields vs) (ho : OdOk od fs) (he : PE X e te) (hb : attributeBase e n X.env (eval e X.env) = eval e X.env := by rfl) :
    PE X (.Attribute e n pos) (tXfP X.K a cls fs n te) := by
  refine ⟨fun pins s σ H Q I h => ?_⟩
  refine attr_of hb (thn (he.run pins s σ H _ I h) fun u s1 ⟨x, H1, I1, rx, ex, C, v, ec, T, hno, l, q⟩ => ?_)
  subst ex ec
  obtain rfl : u = Value.ref a := rx
  obtain ⟨gv, hl, hr⟩ := ho.1 n
  obtain ⟨u, hu, ru⟩ := RelO.some_of (v := v) (o := gv) (by rw [← l]; exact hr)
  exact HandSPX.exc_get I1.kIn (inst_atH m1 m2 hz hf I1) T.ga T.gg T.exC (PySem.W.findObj_own T.hdC hno rfl (by rw [hl, hu])) (handed_of ru) ⟨v, H1, I1.tok _, ru, q⟩
theorem call_isEH (m1 : (a, oe) ∈ X.pn) (m2 : (dd, od) ∈ X.pn) (hz : Zc cls (some dd) oe) (hf : ∃ vs, oe.data = .fields vs) : CallR X (.builtin "isinstance") (rIsEP X.K a cls) := by
  intro pins s σ H xs us Q I r h
  obtain ⟨D, c, cv, b, rfl, C, rfl, hcv, e, q⟩ := h
  cases r with
  | cons rx rr =>
    cases rr with
    | cons rt rr =>
      cases rr
      cases rx
      have ec := hcv _ rt
      subst ec
      obtain ⟨cd, hc, _⟩ := PySem.W.any_some C.hd
      exact PySem.W.kia_one (PySem.W.kitx_exc (by rw [hc]; rfl) C.hg C.hk C.hs C.ha C.hn C.ht C.hm) I.kIn (inst_atH m1 m2 hz hf I) e (fun z => nomatch z) fun tk => ⟨.bl b, H, I.kept (t' := tk) fun _ _ z => z, rfl, q⟩
theorem call_isETH (m1 : (a, oe) ∈ X.pn) (m2 : (dd, od) ∈ X.pn) (hz : Zc cls (some dd) oe) (hf : ∃ vs, oe.data = .fields vs) : CallR X (.builtin "isinstance") (rIsETP X.K a cls) := by
  intro pins s σ H xs us Q I r h
  obtain ⟨D, tp, cs, ws, b, rfl, C, rfl, hT, k, e, q⟩ := h
  cases r with
  | cons rx rr =>
    cases rr with
    | cons rt rr =>
      cases rr
      cases rx
      cases rt
      obtain ⟨_, its, rv, o, h1, h2, n, h3⟩ := (show ObjOk X.prog X.w H s.heap tp (.tup cs) from I.hok tp _ hT)
      have e3 := ClsV.all k rv
      subst e3
      obtain ⟨oc, od', dt, sl⟩ := o
      simp only at h2 h3
      subst h2 h3
      obtain ⟨cd, hc, _⟩ := PySem.W.any_some C.hd
      exact PySem.W.kia_tup (PySem.W.kitx_exc (by rw [hc]; rfl) C.hg C.hk C.hs C.ha C.hn C.ht C.hm) I.kIn (inst_atH m1 m2 hz hf I) h1 e (fun z => nomatch z) fun tk => ⟨.bl b, H, I.kept (t' := tk) fun _ _ z => z, rfl, q⟩
end
section
variable {X : Cx} {a dd : Addr} {oe od : Obj} {cls : Value} {fs : List (Str × V)} {pn : List (Addr × Obj)}
theorem pe_xfK {e : Expr} {te : TE} {pos : Pos} {n : Str} (hz : Zc cls (some dd) oe) (hf : ∃ vs, oe.data = .fields vs) (ho : OdOk od fs) (he : PE (hold X ((a, oe) :: (dd, od) :: pn)) e te) (hb : attributeBase e n X.env (eval e X.env) = eval e X.env := by rfl) :
    PE (hold X ((a, oe) :: (dd, od) :: pn)) (.Attribute e n pos) (tXfP X.K a cls fs n te) := pe_xfH (X := hold X ((a, oe) :: (dd, od) :: pn)) List.mem_cons_self (List.mem_cons_of_mem _ List.mem_cons_self) hz hf ho he hb
theorem call_isEK (hz : Zc cls (some dd) oe) (hf : ∃ vs, oe.data = .fields vs) : CallR (hold X ((a, oe) :: (dd, od) :: pn)) (.builtin "isinstance") (rIsEP X.K a cls) := call_isEH (X := hold X ((a, oe) :: (dd, od) :: pn)) List.mem_cons_self (List.mem_cons_of_mem _ List.mem_cons_self) hz hf
theorem call_isETK (hz : Zc cls (some dd) oe) (hf : ∃ vs, oe.data = .fields vs) : CallR (hold X ((a, oe) :: (dd, od) :: pn)) (.builtin "isinstance") (rIsETP X.K a cls) := call_isETH (X := hold X ((a, oe) :: (dd, od) :: pn)) List.mem_cons_self (List.mem_cons_of_mem _ List.mem_cons_self) hz hf
end
/-! ### if c is None: return ..; rest -/
def tIfT (tc : TT) (t : TS) : TS := fun D σ H => tc σ H fun b H1 => b = true ∧ t { D with nx := fun _ _ => False } σ H1
def tIfF (tc : TT) (u : TS) : TS := fun D σ H => tc σ H fun b H1 => b = false ∧ u D σ H1
section
variable {X : Cx} {c : Expr} {a rest : List Stmt} {tc : TT} {t u : TS} {pos : Pos}
theorem pss_ifT (hc : PT X c tc) (ha : PSs X a t) : PSs X (.If c a [] pos :: rest) (tIfT tc t) := by
  refine ⟨fun pins s σ H D I h => ?_⟩
  refine wpAny_execs_cons (wpAny_If (thn (hc.run pins s σ H _ I h) fun d s1 ⟨H1, I1, q0, q1⟩ => ?_))
  subst q0
  refine thn (ha.run pins s1 σ H1 _ I1 q1) fun f s2 q => ?_
  cases f with
  | next => obtain ⟨_, _, _, z⟩ := q; exact z.elim
  | ret v => exact q
  | brk => exact q
  | cont => exact q
theorem pss_ifF (hc : PT X c tc) (hr : PSs X rest u) : PSs X (.If c a [] pos :: rest) (tIfF tc u) := by
  refine ⟨fun pins s σ H D I h => ?_⟩
  refine wpAny_execs_cons (wpAny_If (thn (hc.run pins s σ H _ I h) fun d s1 ⟨H1, I1, q0, q1⟩ => ?_))
  subst q0
  exact wpAny_execs_nil (hr.run pins s1 σ H1 D I1 q1)
end
section
variable {e : En} {E : XK} {te : TE} {tc : TT} {ta : TA} {t u tn : TS}
def sIfT (c : State → Option Bool) (s : State → Out) : State → Out := fun α => match c α with
  | some true => (match s α with | .nxt _ => .bad | o => o)
  | _ => .bad
theorem st_ifT {c : State → Option Bool} {s : State → Out} (hc : Evt e tc c) (hs : Sts e E t s) : Sts e E (tIfT tc t) (sIfT c s) := fun cn L S σ H α D R k => by
  unfold sIfT at k
  cases hb : c α with
  | none => rw [hb] at k; exact k.elim
  | some b =>
    rw [hb] at k
    cases b with
    | false => exact k.elim
    | true =>
      refine hc cn L S σ H α true R hb _ fun H1 e1 => ⟨rfl, ?_⟩
      refine hs cn L S σ H1 α _ (R.up e1) ?_
      dsimp only at k
      refine OutOk.mono (fz_same e1) ?_
      generalize s α = o at k
      cases o with
      | nxt β => exact k.elim
      | ret r β => exact k
      | brk β => exact k
      | cnt β => exact k
      | exc x => exact k
      | bad => exact k
/-- c holds an exception, so it is not None -/
def sIfA (i : Nat) (u : State → Out) : State → Out := fun α => match α[i]? with | some (some (.adr _)) => u α | _ => .bad
theorem st_ifA {i : Nat} {s : State → Out} (hs : Sts e E u s) : Sts e E (tIfF (tB (tIsN (tVar i))) u) (sIfA i s) := fun cn L S σ H α D R k => by
  unfold sIfA at k
  split at k
  · rename_i a ha
    obtain ⟨v, hv, rfl⟩ := R.slot i _ ha
    exact ⟨.ref a, hv, _, rfl, by simp, hs cn L S σ H α D R k⟩
  · exact k.elim
end
/-! ### try: x = f(..) except C as n: c = n; rest -/
open Classical in
noncomputable def exHold (j ic : Nat) (s : Addr → State → Out) : State → Out := fun α => if h : ∃ o, ∀ a : Addr, eraseO ic (s a (((α.set j (some (.adr a))).set ic (some (.adr a))).set j none)) = o then (match Classical.choose h with | .ret r β => .ret r β | .exc x => .exc x | _ => .bad) else .bad
theorem exHold_eq {j ic : Nat} {s : Addr → State → Out} {α : State} {r : RetV} {β : State} (h : ∀ a : Addr, eraseO ic (s a (((α.set j (some (.adr a))).set ic (some (.adr a))).set j none)) = .ret r β) : exHold j ic s α = .ret r β := by
  unfold exHold
  have hx : ∃ o, ∀ a : Addr, eraseO ic (s a (((α.set j (some (.adr a))).set ic (some (.adr a))).set j none)) = o := ⟨_, h⟩
  rw [dif_pos hx]
  have := Classical.choose_spec hx 0
  rw [h 0] at this
  rw [← this]
theorem exHold_spec {j ic : Nat} {s : Addr → State → Out} {α : State} (hb : exHold j ic s α ≠ .bad) (a : Addr) : eraseO ic (s a (((α.set j (some (.adr a))).set ic (some (.adr a))).set j none)) = exHold j ic s α ∧ (match exHold j ic s α with | .ret _ _ => True | .exc _ => True | _ => False) := by
  unfold exHold at hb ⊢
  split
  · rename_i h
    rw [dif_pos h] at hb
    have hs := Classical.choose_spec h a
    revert hs hb
    generalize Classical.choose h = o
    intro hb hs
    cases o with
    | ret r β => exact ⟨hs, trivial⟩
    | exc x => exact ⟨hs, trivial⟩
    | _ => exact absurd rfl hb
  · rename_i h
    rw [dif_neg h] at hb
    exact absurd rfl hb
noncomputable def sHold (i j ic : Nat) (m : List D → XR) (sa : State → Option (List D)) (caught : List String) (more : State → Out) (sx : Exn → Addr → State → Out) : State → Out := fun α => match bnd (sa α) (fun ds => some (m ds)) with
  | some (.ok d) => more (α.set i (some (.dat d)))
  | some (.exc x) => if x.name ∈ caught ∧ x.fs ≠ [] ∧ j < α.length then exHold j ic (sx x) α else .bad
  | _ => .bad
section
variable {e : En} {E : XK} {te : TE} {ta : TA} {tn : TS}
theorem out_eraseH {c : Cn} {D : Ends} {F : Hp} {j : Nat} : ∀ {o : Out}, (match eraseO j o with | .ret _ _ => True | .exc _ => True | _ => False) → OutOk e E c D F (eraseO j o) → OutOk e E c D F o
  | .nxt β, h, k => h.elim
  | .brk β, h, k => h.elim
  | .cnt β, h, k => h.elim
  | .ret r β, h, k => fun v L S σ H R rr => k v L S _ H (R.setN j) rr
  | .exc x, h, k => k
  | .bad, h, k => h.elim
theorem st_hold {i j ic : Nat} {m : List D → XR} {sa : State → Option (List D)} {more : State → Out} {sx : Exn → Addr → State → Out} {caught : List String} {c0 : Value} {K : PySem.W.Frag} {tr : Addr → Value → List (Str × V) → TS}
    (hx : ∀ nm ∈ caught, PySem.W.exmOne K (.ref (e.cls nm)) c0 = some true) (h : Eva e ta sa) (hm : Sts e E tn more)
    (hu : ∀ (x : Exn) (a : Addr) (gs : List (Str × V)) (F : Hp), x.name ∈ caught → RepF e F x.fs gs → Sts e E (tr a (.ref (e.cls x.name)) gs) (sx x a)) :
    Sts e E (fun D σ H => tAsg (tCallS (spX e m) (WE (wKeep K c0 j (fun a cls d => tAsg (tVar j) (gName ic)) (fun a cls d D σ H => ∃ dd fs, d = some dd ∧ H dd = some (.xd fs) ∧ tr a cls fs D σ (del H dd)) D)) ta) (gName i) { D with nx := tn D } σ H) (sHold i j ic m sa caught more sx) := fun c L S σ H α D R k => by
  unfold sHold at k
  cases hs : sa α with
  | none => rw [hs] at k; exact k.elim
  | some ds =>
    rw [hs] at k
    change OutOk e E c D (fz L H) (match some (m ds) with
      | some (.ok d) => more (α.set i (some (.dat d)))
      | some (.exc x) => if x.name ∈ caught ∧ x.fs ≠ [] ∧ j < α.length then exHold j ic (sx x) α else .bad
      | _ => .bad) at k
    refine h c L S σ H α ds R hs _ fun vs H1 e1 r1 => ?_
    have R1 := R.up e1
    refine ⟨L, ds, R1.dom, r1, fun d hd v H' s2 rv => ?_, fun x hd cls dd H' s2 xr fr => ?_, fun hd => ?_⟩
    · rw [hd] at k
      exact hm c L S _ H' _ D ((R1.up s2).setD rv) (k.mono (fz_same (e1.trans s2)))
    · rw [hd] at k
      dsimp only at k
      split at k
      · rename_i hc
        obtain ⟨h1, h2, hj⟩ := hc
        rw [← R.len] at hj
        obtain ⟨p, gs, rfl, hp, rf⟩ := xr.2.resolve_left h2
        have hp1 : H1 p = none := fr p rfl
        have s3 : Same H1 (del H' p) := fun b o q => by
          have hne : b ≠ p := ne_of_none q hp1
          rw [del_ne hne]; exact s2 _ _ q
        have hnb : exHold j ic (sx x) α ≠ .bad := fun z => by rw [z] at k; exact k
        refine ⟨by rw [xr.1]; exact hx _ h1, fun a ha => ?_⟩
        refine ⟨.ref a, by rw [List.getElem?_set_self hj], ?_⟩
        refine ⟨p, gs, rfl, hp, ?_⟩
        rw [xr.1]
        refine hu x a gs _ h1 rf c L S _ _ _ _ ((((R1.up s3).setA j a).setA ic a).setN j) ?_
        obtain ⟨q1, q2⟩ := exHold_spec hnb a
        refine out_eraseH (j := ic) (by rw [q1]; exact q2) ?_
        rw [q1]
        exact k.mono (fz_same (e1.trans s3))
      · exact k.elim
    · rw [hd] at k; exact k.elim
end
section
variable {i j ic : Nat} {α : State} {sa : State → Option (List D)} {m : List D → XR} {more : State → Out} {sx : Exn → Addr → State → Out} {cs : List String} {c : State → Option Bool} {s : State → Out}
@[simp] theorem a_sHold : sHold i j ic m sa cs more sx α = (match bnd (sa α) (fun ds => some (m ds)) with
  | some (.ok d) => more (α.set i (some (.dat d)))
  | some (.exc x) => if x.name ∈ cs ∧ x.fs ≠ [] ∧ j < α.length then exHold j ic (sx x) α else .bad
  | _ => .bad) := (rfl)
@[simp] theorem a_sIfT : sIfT c s α = (match c α with | some true => (match s α with | .nxt _ => .bad | o => o) | _ => .bad) := (rfl)
@[simp] theorem a_sIfA : sIfA i s α = (match α[i]? with | some (some (.adr _)) => s α | _ => .bad) := (rfl)
end
end Ab
/-! ### list * int, the list a new one -/
namespace Ab
open PySem L2 PyProof.Rows PySem.Spec
def xRep (sl : State → Option (List D)) (sk : State → Option D) : State → Option (List D) := fun α => bnd (sl α) fun xs => match sk α with | some (.int k) => if rngOk k = true then lenOk (List.replicate k.toNat xs).flatten else none | _ => none
theorem Reps.rep {e : En} {F : Hp} {ds : List D} {vs : List V} (r : Reps e F ds vs) : ∀ n : Nat, Reps e F (List.replicate n ds).flatten (List.replicate n vs).flatten
  | 0 => by simp; exact Reps.nil
  | n + 1 => by rw [List.replicate_succ, List.replicate_succ, List.flatten_cons, List.flatten_cons]; exact r.append (Reps.rep r n)
theorem len_rep {β : Type} (xs : List β) : ∀ n : Nat, (List.replicate n xs).flatten.length = xs.length * n
  | 0 => by simp
  | n + 1 => by rw [List.replicate_succ, List.flatten_cons, List.length_append, len_rep xs n, Nat.mul_succ]; omega
theorem el_rep {e : En} {ta tb : TE} {sl : State → Option (List D)} {sk : State → Option D} (ha : Evl e ta sl) (hb : Evp e tb sk) : Evl e (tOp rRep ta tb) (xRep sl sk) := fun c L S σ H α d R q Q k => by
  obtain ⟨xs, h1, q⟩ := bnd_some q
  split at q
  · rename_i n hn
    split at q
    · rename_i hr
      obtain ⟨rfl, hz⟩ := lenOk_some q
      refine ha c L S σ H α xs R h1 _ fun p vs H1 e1 n1 hp r1 => ?_
      have R1 : Rel e c (p :: L) S σ H1 α := R.more e1 n1 hp
      refine hb c (p :: L) S σ H1 α _ R1 hn _ fun v H2 e2 r2 => ?_
      cases r2
      have hr := rngOk_iff.mp hr
      rw [len_rep] at hz
      have c1 : (-(2 ^ 63) : Int) ≤ -(2 ^ 62) := by decide
      have c2 : (2 ^ 62 : Int) ≤ 2 ^ 63 := by decide
      refine ⟨p, n, vs, rfl, rfl, e2 _ _ hp, Int.le_trans c1 hr.1, Int.lt_of_lt_of_le hr.2 c2, by rw [r1.len]; exact sz_of hz, fun p2 hp2 => ?_⟩
      have s3 : Same H2 (upd H2 p2 (.lst (List.replicate n.toNat vs).flatten)) := same_upd hp2
      have hH2 : H p2 = none := none_back (e1.trans e2) hp2
      refine k p2 _ _ (e1.trans (e2.trans s3)) hH2 upd_same ?_
      have r3 : Reps e (fz L H2) xs vs := (r1.up (fz_same e2)).up (fz_anti fun a m => List.mem_cons_of_mem _ m)
      exact (r3.rep n.toNat).up (fz_cons s3 hp2)
    · cases q
  · cases q
@[simp] theorem a_xRep {sl : State → Option (List D)} {sk : State → Option D} {α : State} : xRep sl sk α = bnd (sl α) fun xs => match sk α with | some (.int k) => if rngOk k = true then lenOk (List.replicate k.toNat xs).flatten else none | _ => none := (rfl)
end Ab
/-! ### t[k], t a tuple got with side effects -/
namespace Ab
open PySem L2 PyProof.Rows PySem.Spec
def rIxS (r : State → Res D) (sb : State → Option D) : State → Res D := fun α => match r α with
  | .ok (.tup xs) α1 => (match sb α1 with | some (.int i) => (match atI xs i with | some d => .ok d α1 | none => .bad) | _ => .bad)
  | .ok _ _ => .bad | .exc x => .exc x | .bad => .bad
theorem ee_ixS {e : En} {E : XK} {ta tb : TE} {r : State → Res D} {sb : State → Option D} (h : Eve e E ta r) (hb : Evp e tb sb) : Eve e E (tOp (rIxT e.K) ta tb) (rIxS r sb) := fun c L S σ H α R Q k kx nb => by
  unfold rIxS at k kx nb
  refine h c L S σ H α R _ (fun d α1 hs v H1 m1 R1 r1 => ?_) (fun x hx => kx x (by rw [hx])) (fun hb => nb (by rw [hb]))
  rw [hs] at k nb
  cases d with
  | tup xs =>
    dsimp only at k nb
    split at nb
    · rename_i i hi
      split at nb
      · rename_i d hd
        obtain ⟨a, vs, rfl, h1, h2⟩ := r1
        refine hb c L S σ H1 α1 _ R1 hi _ fun v H2 e2 r3 => ?_
        cases r3
        obtain ⟨v, q2, q3⟩ := atI_rep h2 hd
        simp only [hi, hd] at k
        exact ⟨a, vs, i, v, rfl, rfl, same_t e2 (same_t fz_le h1), q2, k d α1 rfl v H2 (m1.trans (.of e2)) (R1.up e2) (q3.up (fz_same e2))⟩
      · exact absurd rfl nb
    · exact absurd rfl nb
  | _ => exact absurd rfl nb
@[simp] theorem a_rIxS {r : State → Res D} {sb : State → Option D} {α : State} : rIxS r sb α = (match r α with
  | .ok (.tup xs) α1 => (match sb α1 with | some (.int i) => (match atI xs i with | some d => .ok d α1 | none => .bad) | _ => .bad)
  | .ok _ _ => .bad | .exc x => .exc x | .bad => .bad) := (rfl)
end Ab
end
section
set_option maxRecDepth 100000
set_option maxHeartbeats 400000
namespace W_k15
open PySem L2 PyProof.Rows PySem.Spec Ab
noncomputable section
def topS (i : Nat) : Stmt := PySem.Challenge.pw_figurebook_k15_writing_texts_refused.main.body.getD i (.Pass ⟨0, 0, 0, 0⟩)
def clsM (i j : Nat) : Stmt := match topS i with | .ClassDef (body := b) .. => b.getD j (.Pass ⟨0, 0, 0, 0⟩) | _ => .Pass ⟨0, 0, 0, 0⟩

structure Zs (mg : Str → Option Value) : Prop where
  z_ValueError : mg "ValueError" = none
  z_bool : mg "bool" = none
  z_enumerate : mg "enumerate" = none
  z_int : mg "int" = none
  z_isinstance : mg "isinstance" = none
  z_len : mg "len" = none
  z_max : mg "max" = none
  z_min : mg "min" = none
  z_range : mg "range" = none
  z_tuple : mg "tuple" = none
structure Ks (K : PySem.W.Frag) (mg : Str → Option Value) (cls : String → Addr) : Prop where
  kc_Words : Cls K (cls "Words")
  kn_Words_all_words : NoAttr K (cls "Words") "all_words"
  kn_Words_at : NoAttr K (cls "Words") "at"
  kx_NoText_FigureError : PySem.W.exmOne K (.ref (cls "NoText")) (.ref (cls "FigureError")) = some true
  kg_NoClass : mg "NoClass" = some (.ref (cls "NoClass"))
  ke_NoText : ExcC K (cls "NoText")
  kk_NoText_NoClass : PySem.W.kitOne K (.ref (cls "NoText")) (.ref (cls "NoClass")) = some false
  kg_NoLine : mg "NoLine" = some (.ref (cls "NoLine"))
  kk_NoText_NoLine : PySem.W.kitOne K (.ref (cls "NoText")) (.ref (cls "NoLine")) = some false
  kg_NoFit : mg "NoFit" = some (.ref (cls "NoFit"))
  kk_NoText_NoFit : PySem.W.kitOne K (.ref (cls "NoText")) (.ref (cls "NoFit")) = some false
  kg_NoText : mg "NoText" = some (.ref (cls "NoText"))
  kk_NoText_NoText : PySem.W.kitOne K (.ref (cls "NoText")) (.ref (cls "NoText")) = some true
  kv_NoText_ValueError : PySem.W.kitOne K (.ref (cls "NoText")) (.type "ValueError") = some true
  kf_NoText : XfC K (cls "NoText")
  kh_NoText_at : PySem.W.findIn K (.ref (cls "NoText")) "at" = some none
  kg_FigureError : mg "FigureError" = some (.ref (cls "FigureError"))
abbrev s_is_word : Stmt := topS 9
abbrev N_is_word : List Str := ["text", "sign"]
theorem sc_is_word : FnScope ["text", "sign"] ["text"] (defScope s_is_word) := ⟨rfl, rfl, rfl, by decide +kernel, rfl, by decide +kernel, by decide +kernel⟩
def bl_is_word_1 : State → Out :=
      (sIf (liftB (asB (x2 (fInS true) (xVar 1) (xC (.str "abcdefghijklmnopqrstuvwxyz"))))) (sRet (lift (xC (.bl false)))) sNext)
def b_is_word : State → Out :=
      (sSeq (sIf (liftB (tbOr (asB (x2 fLt (xCall fLenS (aCons (xVar 0) aNil)) (xC (.int 1)))) (tbOr (asB (x2 fGt (xCall fLenS (aCons (xVar 0) aNil)) (xC (.int 8)))) (asB (x2 (memD false) (xVar 0) (xC (.tup [.str "nothing", .str "bead", .str "or", .str "by", .str "row", .str "bag", .str "choice", .str "ring", .str "of", .str "left", .str "right"]))))))) (sRet (lift (xC (.bl false)))) sNext)
      (sSeq (sFor (xSigns (xVar 0)) (gN 1)
      bl_is_word_1)
      (sRet (lift (xC (.bl true))))))
def m_is_word : List D → Option D := runP 2 1 b_is_word
abbrev s_Words___init__ : Stmt := clsM 10 0
abbrev N_Words___init__ : List Str := ["self", "text"]
theorem sc_Words___init__ : FnScope ["self", "text"] ["self", "text"] (defScope s_Words___init__) := ⟨rfl, rfl, rfl, by decide +kernel, rfl, by decide +kernel, by decide +kernel⟩
def b_Words___init__ : State → Out :=
      (sSeq (sFldO 0 "Words" "all_words" (lift (xL (xSplit (xVar 1) (xC (.str " "))))))
      (sFldO 0 "Words" "at" (lift (xC (.int 0)))))
def m_Words___init__ : List A → MRes := runM 2 2 b_Words___init__
abbrev s_Words_ahead : Stmt := clsM 10 1
abbrev N_Words_ahead : List Str := ["self"]
theorem sc_Words_ahead : FnScope ["self"] ["self"] (defScope s_Words_ahead) := ⟨rfl, rfl, rfl, by decide +kernel, rfl, by decide +kernel, by decide +kernel⟩
def b_Words_ahead : State → Out :=
      (sSeq (sIf (liftB (asB (x2 fLt (xFld "Words" "at" (xVar 0)) (xLen (qL (xFld "Words" "all_words" (xVar 0))))))) (sRet (lift (xIx (qL (xFld "Words" "all_words" (xVar 0))) (xFld "Words" "at" (xVar 0))))) sNext)
      (sRet (lift (xC .non))))
def m_Words_ahead : List D → Option D := runP 1 1 b_Words_ahead
abbrev s_Words_takes : Stmt := clsM 10 2
abbrev N_Words_takes : List Str := ["self", "word"]
theorem sc_Words_takes : FnScope ["self", "word"] ["self", "word"] (defScope s_Words_takes) := ⟨rfl, rfl, rfl, by decide +kernel, rfl, by decide +kernel, by decide +kernel⟩
def b_Words_takes : State → Out :=
      (sSeq (sIf (liftB (asB (x2 fNe (xLend 0 (xMeth [("Words", m_Words_ahead)] "ahead" (xVar 0) aNil)) (xVar 1)))) (sRet (lift (xC (.bl false)))) sNext)
      (sSeq (sFldO 0 "Words" "at" (lift (x2 fAdd (xFldO 0 "Words" "at") (xC (.int 1)))))
      (sRet (lift (xC (.bl true))))))
def m_Words_takes : List A → MRes := runM 2 2 b_Words_takes
abbrev s_Words_need : Stmt := clsM 10 3
abbrev N_Words_need : List Str := ["self", "word"]
theorem sc_Words_need : FnScope ["self", "word"] ["self", "word"] (defScope s_Words_need) := ⟨rfl, rfl, rfl, by decide +kernel, rfl, by decide +kernel, by decide +kernel⟩
def b_Words_need : State → Out :=
      (sIf (rNot (rB (rMethM 0 "Words" "takes" (noExcM m_Words_takes) (acons (lift (xVar 1)) anil)))) (sRaise1 "NoText" "at" (xFldO 0 "Words" "at")) sNext)
def m_Words_need : List A → MRes := runM 2 2 b_Words_need
abbrev s_Words_word : Stmt := clsM 10 4
abbrev N_Words_word : List Str := ["self", "found"]
theorem sc_Words_word : FnScope ["self", "found"] ["self"] (defScope s_Words_word) := ⟨rfl, rfl, rfl, by decide +kernel, rfl, by decide +kernel, by decide +kernel⟩
def b_Words_word : State → Out :=
      (sSeq (sSet 1 (lift (xLend 0 (xMeth [("Words", m_Words_ahead)] "ahead" (xVar 0) aNil))))
      (sSeq (sIf (liftB (tbOr (asB (x2 fIsN (xVar 1) (xC .non))) (tbNot (asB (xCall m_is_word (aCons (xVar 1) aNil)))))) (sRaise1 "NoText" "at" (xFldO 0 "Words" "at")) sNext)
      (sSeq (sFldO 0 "Words" "at" (lift (x2 fAdd (xFldO 0 "Words" "at") (xC (.int 1)))))
      (sRet (lift (xVar 1))))))
def m_Words_word : List A → MRes := runM 2 1 b_Words_word
abbrev s_Words_end : Stmt := clsM 10 5
abbrev N_Words_end : List Str := ["self"]
theorem sc_Words_end : FnScope ["self"] ["self"] (defScope s_Words_end) := ⟨rfl, rfl, rfl, by decide +kernel, rfl, by decide +kernel, by decide +kernel⟩
def b_Words_end : State → Out :=
      (sIf (liftB (asB (x2 fNotN (xLend 0 (xMeth [("Words", m_Words_ahead)] "ahead" (xVar 0) aNil)) (xC .non)))) (sRaise1 "NoText" "at" (xFldO 0 "Words" "at")) sNext)
def m_Words_end : List A → MRes := runM 1 1 b_Words_end
abbrev s_parts_up_to : Stmt := topS 14
abbrev N_parts_up_to : List Str := ["words", "end", "parts"]
theorem sc_parts_up_to : FnScope ["words", "end", "parts"] ["words", "end"] (defScope s_parts_up_to) := ⟨rfl, rfl, rfl, by decide +kernel, rfl, by decide +kernel, by decide +kernel⟩
def bl_parts_up_to_1 (mm_parts_up_to : List A → MRes) (mm_whole_writing : List A → MRes) : State → Out :=
      (sApp 2 (rCallM mm_whole_writing (aslot 0 anil)))
def bt_parts_up_to_2 (mm_parts_up_to : List A → MRes) (mm_whole_writing : List A → MRes) : State → Res Bool :=
      (rNot (rB (rMethM 0 "Words" "takes" (noExcM m_Words_takes) (acons (lift (xVar 1)) anil))))
def b_parts_up_to (mm_parts_up_to : List A → MRes) (mm_whole_writing : List A → MRes) : State → Out :=
      (sSeq (sSetL 2 (liftL (fun α => bnd (aNil α) lenOk)))
      (sSeq (fun α => loopW (bt_parts_up_to_2 mm_parts_up_to mm_whole_writing)
      (bl_parts_up_to_1 mm_parts_up_to mm_whole_writing) ((fun _ => 1000) α) α)
      (sRet (lift (xTupL (qO 2))))))
abbrev s_whole_writing : Stmt := topS 15
abbrev N_whole_writing : List Str := ["words", "side", "one", "other", "kind"]
theorem sc_whole_writing : FnScope ["words", "side", "one", "other", "kind"] ["words"] (defScope s_whole_writing) := ⟨rfl, rfl, rfl, by decide +kernel, rfl, by decide +kernel, by decide +kernel⟩
def bl_whole_writing_1 (mm_parts_up_to : List A → MRes) (mm_whole_writing : List A → MRes) : State → Out :=
      (sIf (rB (rMethM 0 "Words" "takes" (noExcM m_Words_takes) (acons (lift (xVar 1)) anil))) (sRet (rTup (acons (lift (xVar 1)) (acons (rCallM mm_whole_writing (aslot 0 anil)) anil)))) sNext)
def bl_whole_writing_2 (mm_parts_up_to : List A → MRes) (mm_whole_writing : List A → MRes) : State → Out :=
      (sIf (rB (rMethM 0 "Words" "takes" (noExcM m_Words_takes) (acons (lift (x1 (fIxC [("row", .str "["), ("bag", .str "{"), ("choice", .str "<"), ("ring", .str "((")]) (xVar 4))) anil))) (sRet (rTup (acons (lift (xVar 4)) (acons (rCallM mm_parts_up_to (aslot 0 (acons (lift (x1 (fIxC [("row", .str "]"), ("bag", .str "}"), ("choice", .str ">"), ("ring", .str "))")]) (xVar 4))) anil))) anil)))) sNext)
def b_whole_writing (mm_parts_up_to : List A → MRes) (mm_whole_writing : List A → MRes) : State → Out :=
      (sSeq (sIf (rB (rMethM 0 "Words" "takes" (noExcM m_Words_takes) (acons (lift (xC (.str "nothing"))) anil))) (sRet (lift (xTup (aCons (xC (.str "nothing")) aNil)))) sNext)
      (sSeq (sFor (qT (xTup (aCons (xC (.str "left")) (aCons (xC (.str "right")) aNil)))) (gN 1)
      (bl_whole_writing_1 mm_parts_up_to mm_whole_writing))
      (sSeq (sIf (rB (rMethM 0 "Words" "takes" (noExcM m_Words_takes) (acons (lift (xC (.str "("))) anil))) (sSeq (sSet 2 (rCallM mm_whole_writing (aslot 0 anil)))
      (sSeq (sSet 3 (rCallM mm_whole_writing (aslot 0 anil)))
      (sSeq (sDrop (rMethM 0 "Words" "need" m_Words_need (acons (lift (xC (.str ")"))) anil)))
      (sRet (lift (xTup (aCons (xC (.str "pair")) (aCons (xVar 2) (aCons (xVar 3) aNil))))))))) sNext)
      (sSeq (sFor (qT (xTup (aCons (xC (.str "row")) (aCons (xC (.str "bag")) (aCons (xC (.str "choice")) (aCons (xC (.str "ring")) aNil)))))) (gN 4)
      (bl_whole_writing_2 mm_parts_up_to mm_whole_writing))
      (sSeq (sIf (liftB (asB (x2 fIsN (xLend 0 (xMeth [("Words", m_Words_ahead)] "ahead" (xVar 0) aNil)) (xC .non)))) (sRaise1 "NoText" "at" (xFldO 0 "Words" "at")) sNext)
      (sRet (rTup (acons (lift (xC (.str "bead"))) (acons (rMethM 0 "Words" "word" m_Words_word anil) anil)))))))))
mutual
def mF_parts_up_to : Nat → List A → MRes
  | 0 => fun _ => .bad
  | n + 1 => runM 3 2 (b_parts_up_to (mF_parts_up_to n) (mF_whole_writing n))
def mF_whole_writing : Nat → List A → MRes
  | 0 => fun _ => .bad
  | n + 1 => runM 5 1 (b_whole_writing (mF_parts_up_to n) (mF_whole_writing n))
end
def m_parts_up_to : List A → MRes := mF_parts_up_to 200
def m_whole_writing : List A → MRes := mF_whole_writing 200
abbrev s_read_writing : Stmt := topS 16
abbrev N_read_writing : List Str := ["text", "words", "found"]
theorem sc_read_writing : FnScope ["text", "words", "found"] ["text"] (defScope s_read_writing) := ⟨rfl, rfl, rfl, by decide +kernel, rfl, by decide +kernel, by decide +kernel⟩
def b_read_writing : State → Out :=
      (sSeq (sSetB 1 (xMake "Words" m_Words___init__ (aCons (xVar 0) aNil)))
      (sSeq (sSet 2 (rCallM m_whole_writing (aslot 1 anil)))
      (sSeq (sDrop (rMethM 1 "Words" "end" m_Words_end anil))
      (sRet (lift (xVar 2))))))
def m_read_writing : List D → XR := runX 3 1 b_read_writing
abbrev s__law_cell : Stmt := topS 18
abbrev N__law_cell : List Str := ["_law_script", "_law_k"]
theorem sc__law_cell : FnScope ["_law_script", "_law_k"] ["_law_script", "_law_k"] (defScope s__law_cell) := ⟨rfl, rfl, rfl, by decide +kernel, rfl, by decide +kernel, by decide +kernel⟩
def b__law_cell : State → Out :=
      (sSeq (sIf (liftB (asB (x2 fLt (xVar 1) (xLen (qL (xVar 0)))))) (sRet (lift (xIx (qL (xVar 0)) (xVar 1)))) sNext)
      (sRet (lift (xC (.int 0)))))
def m__law_cell : List D → Option D := runP 2 2 b__law_cell
abbrev s__law_kept : Stmt := topS 19
abbrev N__law_kept : List Str := []
theorem sc__law_kept : FnScope [] [] (defScope s__law_kept) := ⟨rfl, rfl, rfl, by decide +kernel, rfl, by decide +kernel, by decide +kernel⟩
def b__law_kept : State → Out :=
      (sRetL (liftL (fun α => bnd ((aCons (xC (.str "nothing")) (aCons (xC (.str "bead")) (aCons (xC (.str "or")) (aCons (xC (.str "by")) (aCons (xC (.str "row")) (aCons (xC (.str "bag")) (aCons (xC (.str "choice")) (aCons (xC (.str "ring")) (aCons (xC (.str "of")) (aCons (xC (.str "left")) (aCons (xC (.str "right")) aNil))))))))))) α) lenOk)))
def m__law_kept : List D → Option (List D) := runL 0 0 b__law_kept
abbrev s__law_word : Stmt := topS 20
abbrev N__law_word : List Str := ["_law_cell_here", "_law_word_here", "_law_left", "_law_k"]
theorem sc__law_word : FnScope ["_law_cell_here", "_law_word_here", "_law_left", "_law_k"] ["_law_cell_here"] (defScope s__law_word) := ⟨rfl, rfl, rfl, by decide +kernel, rfl, by decide +kernel, by decide +kernel⟩
def bl__law_word_1 : State → Out :=
      (sSeq (sSet 1 (lift (x2 fCatS (xVar 1) (x2 fIxS (xC (.str "abcdefghijklmnopqrstuvwxyz")) (x2 fMod (xVar 2) (xC (.int 26)))))))
      (sSet 2 (lift (x2 fDiv (xVar 2) (xC (.int 26))))))
def b__law_word : State → Out :=
      (sSeq (sSet 1 (lift (xC (.str ""))))
      (sSeq (sSet 2 (lift (x2 fDiv (xVar 0) (xC (.int 8)))))
      (sSeq (sFor (xRng1 (aCons (x2 fAdd (xC (.int 1)) (x2 fMod (xVar 0) (xC (.int 8)))) aNil)) (gN 3)
      bl__law_word_1)
      (sSeq (sIf (liftB (asB (x2 (memD false) (xVar 1) (xL (fun α => bnd (aNil α) m__law_kept))))) (sSet 1 (lift (x2 fCatS (xVar 1) (xC (.str "x"))))) sNext)
      (sRet (lift (xVar 1)))))))
def m__law_word : List D → Option D := runP 4 1 b__law_word
abbrev s__law_is_word : Stmt := topS 21
abbrev N__law_is_word : List Str := ["_law_text", "_law_sign"]
theorem sc__law_is_word : FnScope ["_law_text", "_law_sign"] ["_law_text"] (defScope s__law_is_word) := ⟨rfl, rfl, rfl, by decide +kernel, rfl, by decide +kernel, by decide +kernel⟩
def bl__law_is_word_1 : State → Out :=
      (sIf (liftB (asB (x2 (fInS true) (xVar 1) (xC (.str "abcdefghijklmnopqrstuvwxyz"))))) (sRet (lift (xC (.bl false)))) sNext)
def b__law_is_word : State → Out :=
      (sSeq (sFor (xSigns (xVar 0)) (gN 1)
      bl__law_is_word_1)
      (sRet (lift (xB (tbAnd (asB (xChain fLe fLe (xC (.int 1)) (xCall fLenS (aCons (xVar 0) aNil)) (xC (.int 8)))) (asB (x2 (memD true) (xVar 0) (xL (fun α => bnd (aNil α) m__law_kept)))))))))
def m__law_is_word : List D → Option D := runP 2 1 b__law_is_word
abbrev s__law_pile : Stmt := topS 22
abbrev N__law_pile : List Str := ["_law_stack", "_law_cell_here", "_law_kind", "_law_turn", "_law_other", "_law_many", "_law_parts", "_law_part"]
theorem sc__law_pile : FnScope ["_law_stack", "_law_cell_here", "_law_kind", "_law_turn", "_law_other", "_law_many", "_law_parts", "_law_part"] ["_law_stack", "_law_cell_here"] (defScope s__law_pile) := ⟨rfl, rfl, rfl, by decide +kernel, rfl, by decide +kernel, by decide +kernel⟩
def bl__law_pile_1 : State → Out :=
      (sDrop (xPop 0))
def b__law_pile : State → Out :=
      (sSeq (sSet 2 (lift (x2 fMod (xVar 1) (xC (.int 12)))))
      (sSeq (sSet 3 (lift (x2 fDiv (xVar 1) (xC (.int 12)))))
      (sIf (liftB (tbAnd (asB (x2 (memD false) (xVar 2) (xTup (aCons (xC (.int 4)) (aCons (xC (.int 5)) aNil))))) (asB (x2 fGt (xLen (qO 0)) (xC (.int 0)))))) (sApp 0 (rTup (acons (lift (xIx (fun α => bnd ((aCons (xC (.str "left")) (aCons (xC (.str "right")) aNil)) α) lenOk) (x2 fSub (xVar 2) (xC (.int 4))))) (acons (xPop 0) anil)))) (sIf (liftB (tbAnd (asB (x2 fEq (xVar 2) (xC (.int 6)))) (asB (x2 fGt (xLen (qO 0)) (xC (.int 1)))))) (sSeq (sSet 4 (xPop 0))
      (sApp 0 (rTup (acons (lift (xC (.str "pair"))) (acons (xPop 0) (acons (lift (xVar 4)) anil)))))) (sIf (liftB (tbAnd (asB (x2 fGt (xVar 2) (xC (.int 6)))) (asB (x2 fLt (xVar 2) (xC (.int 11)))))) (sSeq (sSet 5 (lift (x2 fMod (xVar 3) (x2 fAdd (xC (.int 1)) (xLen (qO 0))))))
      (sSeq (sSet 6 (lift (xL (xSlL (qO 0) (oSome (x2 fSub (xLen (qO 0)) (xVar 5))) oNone))))
      (sSeq (sFor (qL (xVar 6)) (gN 7)
      bl__law_pile_1)
      (sApp 0 (lift (xTup (aCons (xIx (fun α => bnd ((aCons (xC (.str "row")) (aCons (xC (.str "bag")) (aCons (xC (.str "choice")) (aCons (xC (.str "ring")) aNil)))) α) lenOk) (x2 fSub (xVar 2) (xC (.int 7)))) (aCons (xTupL (qL (xVar 6))) aNil)))))))) (sIf (liftB (asB (x2 fEq (xVar 2) (xC (.int 0))))) (sApp 0 (lift (xTup (aCons (xC (.str "nothing")) aNil)))) (sApp 0 (lift (xTup (aCons (xC (.str "bead")) (aCons (xCall m__law_word (aCons (xVar 3) aNil)) aNil)))))))))))
def m__law_pile : List A → MRes := runM 8 2 b__law_pile
abbrev s__law_writing : Stmt := topS 23
abbrev N__law_writing : List Str := ["_law_cells", "_law_stack", "_law_cell_here"]
theorem sc__law_writing : FnScope ["_law_cells", "_law_stack", "_law_cell_here"] ["_law_cells"] (defScope s__law_writing) := ⟨rfl, rfl, rfl, by decide +kernel, rfl, by decide +kernel, by decide +kernel⟩
def bl__law_writing_1 : State → Out :=
      (sDrop (rCallM (noExcM m__law_pile) (aslot 1 (acons (lift (xVar 2)) anil))))
def b__law_writing : State → Out :=
      (sSeq (sSetL 1 (liftL (fun α => bnd (aNil α) lenOk)))
      (sSeq (sFor (qL (xVar 0)) (gN 2)
      bl__law_writing_1)
      (sSeq (sIf (liftB (asB (x2 fEq (xLen (qO 1)) (xC (.int 1))))) (sRet (lift (xIx (qO 1) (xC (.int 0))))) sNext)
      (sRet (lift (xTup (aCons (xC (.str "row")) (aCons (xTupL (qO 1)) aNil))))))))
def m__law_writing : List D → Option D := runP 3 1 b__law_writing
abbrev s__law_written : Stmt := topS 24
abbrev N__law_written : List Str := ["_law_figure", "_law_at", "_law_words", "_law_part"]
theorem sc__law_written : FnScope ["_law_figure", "_law_at", "_law_words", "_law_part"] ["_law_figure"] (defScope s__law_written) := ⟨rfl, rfl, rfl, by decide +kernel, rfl, by decide +kernel, by decide +kernel⟩
def b__law_written (mm__law_written : List D → Option D) : State → Out :=
      (sSeq (sIf (liftB (asB (x2 fEq (xIx (qT (xVar 0)) (xC (.int 0))) (xC (.str "nothing"))))) (sRet (lift (xC (.str "nothing")))) sNext)
      (sSeq (sIf (liftB (asB (x2 fEq (xIx (qT (xVar 0)) (xC (.int 0))) (xC (.str "bead"))))) (sRet (lift (xIx (qT (xVar 0)) (xC (.int 1))))) sNext)
      (sSeq (sIf (liftB (asB (x2 (memD false) (xIx (qT (xVar 0)) (xC (.int 0))) (xTup (aCons (xC (.str "left")) (aCons (xC (.str "right")) aNil)))))) (sRet (lift (x2 fCatS (x2 fCatS (xIx (qT (xVar 0)) (xC (.int 0))) (xC (.str " "))) (xCall mm__law_written (aCons (xIx (qT (xVar 0)) (xC (.int 1))) aNil))))) sNext)
      (sSeq (sIf (liftB (asB (x2 fEq (xIx (qT (xVar 0)) (xC (.int 0))) (xC (.str "pair"))))) (sRet (lift (x2 fCatS (x2 fCatS (x2 fCatS (x2 fCatS (xC (.str "( ")) (xCall mm__law_written (aCons (xIx (qT (xVar 0)) (xC (.int 1))) aNil))) (xC (.str " "))) (xCall mm__law_written (aCons (xIx (qT (xVar 0)) (xC (.int 2))) aNil))) (xC (.str " )"))))) sNext)
      (sSeq (sSet 1 (lift (xIdx (fun α => bnd ((aCons (xC (.str "row")) (aCons (xC (.str "bag")) (aCons (xC (.str "choice")) (aCons (xC (.str "ring")) aNil)))) α) lenOk) (xIx (qT (xVar 0)) (xC (.int 0))))))
      (sSeq (sSet 2 (lift (xL (xCat (fun α => bnd ((aCons (xIx (fun α => bnd ((aCons (xC (.str "[")) (aCons (xC (.str "{")) (aCons (xC (.str "<")) (aCons (xC (.str "((")) aNil)))) α) lenOk) (xVar 1)) aNil) α) lenOk) (xLc [3] (qT (xIx (qT (xVar 0)) (xC (.int 1)))) (gN 3) tbYes (xCall mm__law_written (aCons (xVar 3) aNil)))))))
      (sRet (lift (xJoin (xC (.str " ")) (xCat (qL (xVar 2)) (fun α => bnd ((aCons (xIx (fun α => bnd ((aCons (xC (.str "]")) (aCons (xC (.str "}")) (aCons (xC (.str ">")) (aCons (xC (.str "))")) aNil)))) α) lenOk) (xVar 1)) aNil) α) lenOk)))))))))))
def mF__law_written : Nat → List D → Option D
  | 0 => fun _ => none
  | n + 1 => runP 4 1 (b__law_written (mF__law_written n))
def m__law_written : List D → Option D := mF__law_written 100
abbrev s__law_new_word : Stmt := topS 25
abbrev N__law_new_word : List Str := ["_law_cell_here", "_law_some"]
theorem sc__law_new_word : FnScope ["_law_cell_here", "_law_some"] ["_law_cell_here"] (defScope s__law_new_word) := ⟨rfl, rfl, rfl, by decide +kernel, rfl, by decide +kernel, by decide +kernel⟩
def b__law_new_word : State → Out :=
      (sSeq (sSet 1 (lift (xL (xCat (fun α => bnd (aNil α) m__law_kept) (fun α => bnd ((aCons (xC (.str "(")) (aCons (xC (.str ")")) (aCons (xC (.str "((")) (aCons (xC (.str "))")) (aCons (xC (.str "[")) (aCons (xC (.str "]")) (aCons (xC (.str "{")) (aCons (xC (.str "}")) (aCons (xC (.str "<")) (aCons (xC (.str ">")) aNil)))))))))) α) lenOk)))))
      (sSeq (sSet 1 (lift (xL (xCat (qL (xVar 1)) (fun α => bnd ((aCons (xC (.str "")) (aCons (xC (.str "red")) (aCons (xC (.str "reds")) (aCons (xC (.str "Red")) (aCons (xC (.str "a1")) (aCons (xC (.str "abcdefghi")) aNil)))))) α) lenOk)))))
      (sSeq (sIf (liftB (asB (x2 fEq (x2 fMod (xVar 0) (xC (.int 4))) (xC (.int 3))))) (sRet (lift (xCall m__law_word (aCons (x2 fDiv (xVar 0) (xC (.int 4))) aNil)))) sNext)
      (sRet (lift (xIx (qL (xVar 1)) (x2 fMod (x2 fDiv (xVar 0) (xC (.int 4))) (xC (.int 27)))))))))
def m__law_new_word : List D → Option D := runP 2 1 b__law_new_word
abbrev s__law_changed : Stmt := topS 26
abbrev N__law_changed : List Str := ["_law_words", "_law_cell_here", "_law_at", "_law_fresh"]
theorem sc__law_changed : FnScope ["_law_words", "_law_cell_here", "_law_at", "_law_fresh"] ["_law_words", "_law_cell_here"] (defScope s__law_changed) := ⟨rfl, rfl, rfl, by decide +kernel, rfl, by decide +kernel, by decide +kernel⟩
def b__law_changed : State → Out :=
      (sSeq (sSet 2 (lift (x2 fMod (x2 fDiv (xVar 1) (xC (.int 5))) (x2 fAdd (xLen (qL (xVar 0))) (xC (.int 1))))))
      (sSeq (sSet 3 (lift (xCall m__law_new_word (aCons (x2 fDiv (xVar 1) (xC (.int 64))) aNil))))
      (sSeq (sIf (liftB (asB (x2 fEq (x2 fMod (xVar 1) (xC (.int 5))) (xC (.int 0))))) (sRet (lift (xL (xCat (xCat (xSlL (qL (xVar 0)) oNone (oSome (xVar 2))) (fun α => bnd ((aCons (xVar 3) aNil) α) lenOk)) (xSlL (qL (xVar 0)) (oSome (xVar 2)) oNone))))) sNext)
      (sSeq (sIf (liftB (asB (x2 fEq (x2 fMod (xVar 1) (xC (.int 5))) (xC (.int 1))))) (sRet (lift (xL (xCat (xSlL (qL (xVar 0)) oNone (oSome (xVar 2))) (xSlL (qL (xVar 0)) (oSome (x2 fAdd (xVar 2) (xC (.int 1)))) oNone))))) sNext)
      (sSeq (sIf (liftB (asB (x2 fEq (x2 fMod (xVar 1) (xC (.int 5))) (xC (.int 2))))) (sRet (lift (xL (xCat (xCat (xSlL (qL (xVar 0)) oNone (oSome (xVar 2))) (fun α => bnd ((aCons (xVar 3) aNil) α) lenOk)) (xSlL (qL (xVar 0)) (oSome (x2 fAdd (xVar 2) (xC (.int 1)))) oNone))))) sNext)
      (sSeq (sIf (liftB (asB (x2 fEq (x2 fMod (xVar 1) (xC (.int 5))) (xC (.int 3))))) (sRet (lift (xL (xSlL (qL (xVar 0)) oNone (oSome (xVar 2)))))) sNext)
      (sRet (lift (xVar 0)))))))))
def m__law_changed : List D → Option D := runP 4 2 b__law_changed
abbrev s__law_done : Stmt := topS 27
abbrev N__law_done : List Str := ["_law_frames"]
theorem sc__law_done : FnScope ["_law_frames"] ["_law_frames"] (defScope s__law_done) := ⟨rfl, rfl, rfl, by decide +kernel, rfl, by decide +kernel, by decide +kernel⟩
def bl__law_done_1 : State → Out :=
      (sDrop (xPop 0))
def bt__law_done_2 : State → Res Bool :=
      (liftB (asB (x2 fEq (xIx (qT (xIx (qO 0) (x1 fNeg (xC (.int 1))))) (xC (.int 0))) (xC (.str "side")))))
def b__law_done : State → Out :=
      (sSeq (fun α => loopW bt__law_done_2
      bl__law_done_1 ((fun _ => 1000) α) α)
      (sApp 0 (rTup (acons (lift (xIx (qT (xIx (qO 0) (x1 fNeg (xC (.int 1))))) (xC (.int 0)))) (acons (r2 fAdd (rIxS (xPop 0) (xC (.int 1))) (lift (xC (.int 1)))) anil)))))
def m__law_done : List A → MRes := runM 1 1 b__law_done
abbrev s__law_takes : Stmt := topS 28
abbrev N__law_takes : List Str := ["_law_frames", "_law_word_here", "_law_end", "_law_many"]
theorem sc__law_takes : FnScope ["_law_frames", "_law_word_here", "_law_end", "_law_many"] ["_law_frames", "_law_word_here"] (defScope s__law_takes) := ⟨rfl, rfl, rfl, by decide +kernel, rfl, by decide +kernel, by decide +kernel⟩
def b__law_takes : State → Out :=
      (sSeq (sSet 2 (lift (xIx (qT (xIx (qO 0) (x1 fNeg (xC (.int 1))))) (xC (.int 0)))))
      (sSeq (sSet 3 (lift (xIx (qT (xIx (qO 0) (x1 fNeg (xC (.int 1))))) (xC (.int 1)))))
      (sSeq (sIf (liftB (tbOr (tbAnd (asB (x2 fEq (xVar 2) (xC (.str "end")))) (asB (x2 fEq (xVar 3) (xC (.int 1))))) (tbAnd (asB (x2 fEq (xVar 2) (xC (.str ")")))) (tbAnd (asB (x2 fEq (xVar 3) (xC (.int 2)))) (asB (x2 fNe (xVar 1) (xC (.str ")")))))))) (sRet (lift (xC (.bl false)))) sNext)
      (sSeq (sIf (liftB (asB (x2 (memD false) (xVar 1) (xTup (aCons (xC (.str ")")) (aCons (xC (.str "))")) (aCons (xC (.str "]")) (aCons (xC (.str "}")) (aCons (xC (.str ">")) aNil))))))))) (sSeq (sIf (liftB (tbOr (asB (x2 fNe (xVar 1) (xVar 2))) (tbAnd (asB (x2 fEq (xVar 1) (xC (.str ")")))) (asB (x2 fNe (xVar 3) (xC (.int 2))))))) (sRet (lift (xC (.bl false)))) sNext)
      (sSeq (sDrop (xPop 0))
      (sDrop (rCallM (noExcM m__law_done) (aslot 0 anil))))) (sIf (liftB (asB (x2 (memD false) (xVar 1) (xTup (aCons (xC (.str "(")) (aCons (xC (.str "((")) (aCons (xC (.str "[")) (aCons (xC (.str "{")) (aCons (xC (.str "<")) aNil))))))))) (sApp 0 (lift (xTup (aCons (xIx (fun α => bnd ((aCons (xC (.str ")")) (aCons (xC (.str "))")) (aCons (xC (.str "]")) (aCons (xC (.str "}")) (aCons (xC (.str ">")) aNil))))) α) lenOk) (xIdx (fun α => bnd ((aCons (xC (.str "(")) (aCons (xC (.str "((")) (aCons (xC (.str "[")) (aCons (xC (.str "{")) (aCons (xC (.str "<")) aNil))))) α) lenOk) (xVar 1))) (aCons (xC (.int 0)) aNil))))) (sIf (liftB (asB (x2 (memD false) (xVar 1) (xTup (aCons (xC (.str "left")) (aCons (xC (.str "right")) aNil)))))) (sApp 0 (lift (xTup (aCons (xC (.str "side")) (aCons (xC (.int 0)) aNil))))) (sIf (liftB (tbOr (asB (x2 fEq (xVar 1) (xC (.str "nothing")))) (asB (xCall m__law_is_word (aCons (xVar 1) aNil))))) (sDrop (rCallM (noExcM m__law_done) (aslot 0 anil))) (sRet (lift (xC (.bl false))))))))
      (sRet (lift (xC (.bl true))))))))
def m__law_takes : List A → MRes := runM 4 2 b__law_takes
abbrev s__law_fault : Stmt := topS 29
abbrev N__law_fault : List Str := ["_law_words", "_law_frames", "_law_at", "_law_word_here"]
theorem sc__law_fault : FnScope ["_law_words", "_law_frames", "_law_at", "_law_word_here"] ["_law_words"] (defScope s__law_fault) := ⟨rfl, rfl, rfl, by decide +kernel, rfl, by decide +kernel, by decide +kernel⟩
def bl__law_fault_1 : State → Out :=
      (sIf (rNot (rB (rCallM (noExcM m__law_takes) (aslot 1 (acons (lift (xVar 3)) anil))))) (sRet (lift (xVar 2))) sNext)
def b__law_fault : State → Out :=
      (sSeq (sSetL 1 (liftL (fun α => bnd ((aCons (xTup (aCons (xC (.str "end")) (aCons (xC (.int 0)) aNil))) aNil) α) lenOk)))
      (sSeq (sFor (xEnum (xVar 0)) (gT 2 (gsC (gN 2) (gsC (gN 3) gsN)))
      bl__law_fault_1)
      (sSeq (sIf (liftB (tLend 1 (asB (x2 fEqQ (xVar 1) (xL (fun α => bnd ((aCons (xTup (aCons (xC (.str "end")) (aCons (xC (.int 1)) aNil))) aNil) α) lenOk)))))) (sRet (lift (xC .non))) sNext)
      (sRet (lift (xLen (qL (xVar 0))))))))
def m__law_fault : List D → Option D := runP 4 1 b__law_fault
abbrev s__law_refused : Stmt := topS 30
abbrev N__law_refused : List Str := ["_law_text", "_law_caught", "_law_found", "e", "_law_others"]
theorem sc__law_refused : FnScope ["_law_text", "_law_caught", "_law_found", "e", "_law_others"] ["_law_text"] (defScope s__law_refused) := ⟨rfl, rfl, rfl, by decide +kernel, rfl, by decide +kernel, by decide +kernel⟩
def b__law_refused : State → Out :=
      (sSeq (sSet 1 (lift (xC .non)))
      (sSeq (sSet 2 (lift (xC .non)))
      (sHold 2 3 1 m_read_writing (aCons (xVar 0) aNil) ["NoText"] (sIfT (asB (x2 fIsN (xVar 1) (xC .non))) (sRet (lift (xIx (fun α => bnd ((aCons (xC .non) (aCons (x1 fNeg (xC (.int 1))) aNil)) α) lenOk) (xCall fInt1 (aCons (xB (tbNot (asB (xCall fIsi (aCons (xVar 2) (aCons (xC (.ty "tuple")) aNil)))))) aNil)))))) (fun xq ad => sIfA 1 (sSeq (sSet 4 (lift (xB (tbOr (asB (xIsE ad 1 [("NoText", false)] xq.name)) (asB (xB (tbOr (asB (xIsE ad 1 [("NoText", false)] xq.name)) (asB (xIsE ad 1 [("NoText", false)] xq.name)))))))))
      (sSeq (sIf (liftB (tbOr (tbNot (asB (xIsE ad 1 [("NoText", true)] xq.name))) (tbOr (tbNot (asB (xIsE ad 1 [("NoText", true)] xq.name))) (asB (xVar 4))))) (sRet (lift (x1 fNeg (xC (.int 1))))) sNext)
      (sSeq (sIf (liftB (tbOr (tbNot (asB (xCall fIsi (aCons (xFldE ad 1 "at" xq.fs) (aCons (xC (.ty "int")) aNil))))) (asB (xCall fIsi (aCons (xFldE ad 1 "at" xq.fs) (aCons (xC (.ty "bool")) aNil)))))) (sRet (lift (x1 fNeg (xC (.int 1))))) sNext)
      (sRet (lift (xFldE ad 1 "at" xq.fs))))))))))
def m__law_refused : List D → Option D := runP 5 1 b__law_refused
abbrev s__law_mixed : Stmt := topS 31
abbrev N__law_mixed : List Str := ["_law_script", "_law_few", "_law_many", "_law_raw", "_law_numbers", "_law_k", "_law_cell_here"]
theorem sc__law_mixed : FnScope ["_law_script", "_law_few", "_law_many", "_law_raw", "_law_numbers", "_law_k", "_law_cell_here"] ["_law_script", "_law_few"] (defScope s__law_mixed) := ⟨rfl, rfl, rfl, by decide +kernel, rfl, by decide +kernel, by decide +kernel⟩
def bl__law_mixed_1 : State → Out :=
      (sSeq (sSet 6 (lift (x2 fDiv (xCall m__law_cell (aCons (xVar 0) (aCons (xVar 5) aNil))) (x2 fAdd (xC (.int 1)) (xCall fInt1 (aCons (x2 fEq (xVar 5) (xC (.int 0))) aNil))))))
      (sSeq (sIf (liftB (tbOr (tbNot (asB (xVar 3))) (asB (x2 fGe (xVar 5) (xLen (qL (xVar 0))))))) (sSeq (sSet 6 (lift (x2 fMod (x2 fMul (x2 fAdd (x2 fMod (xVar 6) (x2 fPow (xC (.int 10)) (xC (.int 15)))) (x2 fMul (xC (.int 7919)) (xVar 5))) (xC (.int 48271))) (xC (.int 2147483647)))))
      (sSet 6 (lift (x2 fMod (x2 fMul (xVar 6) (xC (.int 69621))) (xC (.int 2147483629)))))) sNext)
      (sApp 4 (lift (xVar 6)))))
def b__law_mixed : State → Out :=
      (sSeq (sSet 2 (lift (xCall fMax2 (aCons (xVar 1) (aCons (xCall fMin2 (aCons (xC (.int 63)) (aCons (xLen (qL (xVar 0))) aNil))) aNil)))))
      (sSeq (sSet 3 (lift (x2 fEq (x2 fMod (xCall m__law_cell (aCons (xVar 0) (aCons (xC (.int 0)) aNil))) (xC (.int 2))) (xC (.int 0)))))
      (sSeq (sSetL 4 (liftL (fun α => bnd (aNil α) lenOk)))
      (sSeq (sFor (xRng1 (aCons (xVar 2) aNil)) (gN 5)
      bl__law_mixed_1)
      (sRetO 4)))))
def m__law_mixed : List D → Option (List D) := runL 7 2 b__law_mixed
abbrev s_law : Stmt := topS 32
abbrev N_law : List Str := ["_law_script", "_law_words", "_law_begin", "_law_k", "_law_text"]
theorem sc_law : FnScope ["_law_script", "_law_words", "_law_begin", "_law_k", "_law_text"] ["_law_script"] (defScope s_law) := ⟨rfl, rfl, rfl, by decide +kernel, rfl, by decide +kernel, by decide +kernel⟩
def bl_law_1 : State → Out :=
      (sSet 1 (lift (xCall m__law_changed (aCons (xVar 1) (aCons (x2 fMod (xCall m__law_cell (aCons (xVar 0) (aCons (x2 fAdd (xC (.int 2)) (xVar 3)) aNil))) (x2 fPow (xC (.int 10)) (xC (.int 12)))) aNil)))))
def b_law : State → Out :=
      (sSeq (sSet 0 (lift (xL (fun α => bnd ((aCons (xVar 0) (aCons (xC (.int 21)) aNil)) α) m__law_mixed))))
      (sSeq (sSet 1 (lift (xL (xSplit (xCall m__law_written (aCons (xCall m__law_writing (aCons (xL (xSlL (qL (xVar 0)) (oSome (xC (.int 5))) (oSome (xC (.int 21))))) aNil)) aNil)) (xC (.str " "))))))
      (sSeq (sIf (liftB (asB (x2 fEq (x2 fMod (xCall m__law_cell (aCons (xVar 0) (aCons (xC (.int 0)) aNil))) (xC (.int 3))) (xC (.int 1))))) (sSeq (sSet 2 (lift (xIx (fun α => bnd ((aCons (xC (.str "(")) (aCons (xC (.str "((")) (aCons (xC (.str "[")) (aCons (xC (.str "{")) (aCons (xC (.str "<")) (aCons (xC (.str "left")) aNil)))))) α) lenOk) (x2 fMod (x2 fDiv (xCall m__law_cell (aCons (xVar 0) (aCons (xC (.int 1)) aNil))) (xC (.int 13))) (xC (.int 6))))))
      (sSet 1 (lift (xL (xCat (xRep (fun α => bnd ((aCons (xVar 2) aNil) α) lenOk) (x2 fMod (xCall m__law_cell (aCons (xVar 0) (aCons (xC (.int 1)) aNil))) (xC (.int 13)))) (qL (xVar 1))))))) sNext)
      (sSeq (sFor (xRng1 (aCons (x2 fMod (x2 fDiv (xCall m__law_cell (aCons (xVar 0) (aCons (xC (.int 0)) aNil))) (xC (.int 3))) (xC (.int 4))) aNil)) (gN 3)
      bl_law_1)
      (sSeq (sSet 4 (lift (xJoin (xC (.str " ")) (qL (xVar 1)))))
      (sRet (lift (x2 fEq (xCall m__law_refused (aCons (xVar 4) aNil)) (xCall m__law_fault (aCons (xL (xSplit (xVar 4) (xC (.str " ")))) aNil))))))))))
def m_law : List D → Option D := runP 5 1 b_law
section
variable {P : Program} {w : World} {K : PySem.W.Frag} {mg : Str → Option Value} {base : Heap} {cls : String → Addr}
abbrev s_NoText___init__ : Stmt := clsM 2 0
theorem sc_NoText___init__ : FnScope ["self", "at"] ["self", "at"] (defScope s_NoText___init__) := ⟨rfl, rfl, rfl, by decide +kernel, rfl, by decide +kernel, by decide +kernel⟩
theorem ok_NoText___init__ {f C B : Addr} {fd : FuncData} (F : Fun K "__init__" "NoText.__init__" s_NoText___init__ f fd) (T : OexC K C) (hno : PySem.W.findIn K (.ref C) "at" = some none) (gB : mg "FigureError" = some (.ref B)) (rd : ClX.CRead K B (.type "type")) (cv : PySem.W.findCls K (.ref B) (.type "type") "__init__" = some (.val (.builtin "ValueError.__init__"))) :
    FnOk P w K mg base CX0 1 f fd ["self", "at"] (spXI C "at") :=
  fn_XI F sc_NoText___init__ T hno fun cdv A outer s0 H E hr => pss_cons (ps_expr (pe_vei (x := "FigureError") rfl gB rd cv (pa_cons (pv 0) (pa_cons pe_str pa_nil)))) (pss_one (ps_ost (pv 0) (pv 1)))
theorem ok_is_word {f : Addr} {fd : FuncData} (F : Fun K "is_word" "is_word" s_is_word f fd) (Z : Zs mg) (Y : Ks K mg cls) {a_KEPT : Addr} (c_KEPT : mg "KEPT" = some (.ref a_KEPT) ∧ (∀ F, Rep ⟨K, cls⟩ F (.tup [.str "nothing", .str "bead", .str "or", .str "by", .str "row", .str "bag", .str "choice", .str "ring", .str "of", .str "left", .str "right"]) (.ref a_KEPT)) ∧ ∀ H, tyV K "tuple" (.ref a_KEPT) H) (c_LETTERS : ∃ u, mg "LETTERS" = some u ∧ RelV (.str "abcdefghijklmnopqrstuvwxyz") u) :
    FnOk P w K mg base CX0 1 f fd ["text"] (spP ⟨K, cls⟩ m_is_word) := by
  have nd := sc_is_word.nd
  refine fn_P b_is_word F sc_is_word (n := 2) (kk := 1) rfl rfl (by decide) rfl (fun cdv A outer s0 H E hr => ?_)
  refine ⟨_, (pss_cons (ps_if (PW.pt (pw_or (pt_cmpR op_lt (pe_callB call_len_str (by rfl) Z.z_len PySem.boot_len (pa_cons (pv 0) pa_nil)) pe_int (nomark _)) (pw_or (pt_cmpR op_gt (pe_callB call_len_str (by rfl) Z.z_len PySem.boot_len (pa_cons (pv 0) pa_nil)) pe_int (nomark _)) (pw_or1 (pt_cmpR (in_q (K := K) rfl) (pv 0) (pe_glob (v := .ref a_KEPT) rfl c_KEPT.1 rfl) (by rfl)))))) (pss_one (ps_ret pe_bl)) pss_nil)
      (pss_cons (ps_for PassesOwn.never rfl (pi_str (pv 0)) (pg_name (i := 1) nd rfl (by first | exact Or.inl rfl | exact Or.inr rfl))
      (pss_one (ps_if (pt_cmpR op_notIn_sign (pv 1) (pe_gs rfl c_LETTERS) (by rfl)) (pss_one (ps_ret pe_bl)) pss_nil)))
      (pss_one (ps_ret pe_bl)))), ?_⟩
  exact (st_seq (st_if (ete_p (et_or (et_test (ev_op rv_lt (ev_callB rc_lenS (ea_cons (ev_var 0) ea_nil)) ev_int)) (et_or (et_test (ev_op rv_gt (ev_callB rc_lenS (ea_cons (ev_var 0) ea_nil)) ev_int)) (et_test (ev_op rv_in (ev_var 0) (ev_top c_KEPT.2.1)))))) (st_ret (ee_p ev_bl)) st_next)
      (st_seq (st_for (ei_str (ev_var 0)) (eg_name 1)
      (st_if (ete_p (et_test (ev_op rv_nis (ev_var 1) ev_str))) (st_ret (ee_p ev_bl)) st_next))
      (st_ret (ee_p ev_bl))))
theorem ok_Words___init__ {f : Addr} {fd : FuncData} (F : Fun K "__init__" "Words.__init__" s_Words___init__ f fd) (Z : Zs mg) (Y : Ks K mg cls) :
    FnOk P w K mg base CX0 1 f fd ["self", "text"] (spM ⟨K, cls⟩ m_Words___init__) := by
  have nd := sc_Words___init__.nd
  refine fn_M b_Words___init__ F sc_Words___init__ (n := 2) (kk := 2) rfl rfl (by decide) rfl (fun cdv A outer s0 H E hr => ?_)
  refine ⟨_, (pss_cons (pe_ps_fldK (K := K) rfl (pv 0) (pe_split (pv 1) pe_str))
      (pss_one (pe_ps_fldK (K := K) rfl (pv 0) pe_int))), ?_⟩
  exact (st_seq (st_fldO (i := 0) Y.kc_Words Y.kn_Words_all_words (ee_p (el_d (el_split (ev_var 1) ev_str))))
      (st_fldO (i := 0) Y.kc_Words Y.kn_Words_at (ee_p ev_int)))
theorem ok_Words_ahead {f : Addr} {fd : FuncData} (F : Fun K "ahead" "Words.ahead" s_Words_ahead f fd) (Z : Zs mg) (Y : Ks K mg cls) :
    FnOk P w K mg base CX0 1 f fd ["self"] (spP ⟨K, cls⟩ m_Words_ahead) := by
  have nd := sc_Words_ahead.nd
  refine fn_P b_Words_ahead F sc_Words_ahead (n := 1) (kk := 1) rfl rfl (by decide) rfl (fun cdv A outer s0 H E hr => ?_)
  refine ⟨_, (pss_cons (ps_if (pt_cmpR op_lt (pe_fldK (K := K) rfl (pv 0)) (pe_callB (len_q (K := K) rfl) (by rfl) Z.z_len PySem.boot_len (pa_cons (pe_fldK (K := K) rfl (pv 0)) pa_nil)) (nomark _)) (pss_one (ps_ret (pe_ix (ixl (K := K) rfl) (pe_fldK (K := K) rfl (pv 0)) (pe_fldK (K := K) rfl (pv 0)) (fun _ _ => rfl)))) pss_nil)
      (pss_one (ps_ret pe_non))), ?_⟩
  exact (st_seq (st_if (ete_p (et_test (ev_op rv_lt (ev_fld Y.kc_Words Y.kn_Words_at (ev_var 0)) (ev_lenL (eq_l (ev_fld Y.kc_Words Y.kn_Words_all_words (ev_var 0))))))) (st_ret (ee_p (ev_ixL (eq_l (ev_fld Y.kc_Words Y.kn_Words_all_words (ev_var 0))) (ev_fld Y.kc_Words Y.kn_Words_at (ev_var 0))))) st_next)
      (st_ret (ee_p ev_non)))
theorem ok_Words_takes {f : Addr} {fd : FuncData} (F : Fun K "takes" "Words.takes" s_Words_takes f fd) (Z : Zs mg) (Y : Ks K mg cls) (M_Words_ahead : CalM P w K mg base (cls "Words") "ahead" ["self"] 1 (spP ⟨K, cls⟩ m_Words_ahead)) :
    FnOk P w K mg base CX0 2 f fd ["self", "word"] (spM ⟨K, cls⟩ m_Words_takes) := by
  have nd := sc_Words_takes.nd
  refine fn_M b_Words_takes F sc_Words_takes (n := 2) (kk := 2) rfl rfl (by decide) rfl (fun cdv A outer s0 H E hr => ?_)
  refine ⟨_, (pss_cons (ps_if (pt_cmpR op_ne (pe_methV (tbl := [(cls "Words", spP ⟨K, cls⟩ m_Words_ahead)]) (List.forall_mem_cons.mpr ⟨pe_calm0 (pv 0) Y.kc_Words M_Words_ahead hr (by first | omega | exact Nat.le_refl _ | exact Nat.le_trans (by decide) (Nat.le_add_right _ _)), fun _ h => nomatch h⟩)) (pv 1) (nomark _)) (pss_one (ps_ret pe_bl)) pss_nil)
      (pss_cons (pe_ps_fldK (K := K) rfl (pv 0) (pe_op op_add (pe_fldK (K := K) rfl (pv 0)) pe_int))
      (pss_one (ps_ret pe_bl)))), ?_⟩
  exact (st_seq (st_if (ete_p (et_test (ev_op rv_ne (ev_lend 0 (ev_meth (tbl := [("Words", m_Words_ahead)]) (ev_var 0) ea_nil)) (ev_var 1)))) (st_ret (ee_p ev_bl)) st_next)
      (st_seq (st_fldO (i := 0) Y.kc_Words Y.kn_Words_at (ee_p (ev_op rv_add (ev_fldO 0 Y.kc_Words Y.kn_Words_at) ev_int)))
      (st_ret (ee_p ev_bl))))
theorem ok_Words_need {f : Addr} {fd : FuncData} (F : Fun K "need" "Words.need" s_Words_need f fd) (Z : Zs mg) (Y : Ks K mg cls) (M_Words_takes : CalM P w K mg base (cls "Words") "takes" ["self", "word"] 2 (spM ⟨K, cls⟩ m_Words_takes)) (X_NoText : ExM P w K mg base "NoText" (cls "NoText") "at" 1) :
    FnOk P w K mg base (L2.CX P w) 3 f fd ["self", "word"] (spM ⟨K, cls⟩ m_Words_need) := by
  have nd := sc_Words_need.nd
  refine fn_MX b_Words_need F sc_Words_need (n := 2) (kk := 2) rfl rfl (by decide) rfl (fun cdv A outer s0 H E hr => ?_)
  refine ⟨_, (pss_one (ps_if (pt_not (pt_val (pe_calm (pv 0) Y.kc_Words M_Words_takes hr (by first | omega | exact Nat.le_refl _ | exact Nat.le_trans (by decide) (Nat.le_add_right _ _)) (pa_cons (pv 1) pa_nil)))) (pss_one (ps_raise rfl (takes_of rfl rfl rfl rfl) (pmk_exm X_NoText hr (by first | omega | exact Nat.le_refl _ | exact Nat.le_trans (by decide) (Nat.le_add_right _ _)) rfl (pa_cons (pe_fldK (K := K) rfl (pv 0)) pa_nil)))) pss_nil)), ?_⟩
  exact (st_if (ete_not (ete_B (ee_methM0 (i := 0) (eae_cons (ee_p (ev_var 1)) eae_nil)))) (st_raise1 (nm := "NoText") (ev_fldO 0 Y.kc_Words Y.kn_Words_at)) st_next)
theorem ok_Words_word {f : Addr} {fd : FuncData} (F : Fun K "word" "Words.word" s_Words_word f fd) (Z : Zs mg) (Y : Ks K mg cls) (C_is_word : Cal P w K mg base "is_word" ["text"] 1 (spP ⟨K, cls⟩ m_is_word)) (M_Words_ahead : CalM P w K mg base (cls "Words") "ahead" ["self"] 1 (spP ⟨K, cls⟩ m_Words_ahead)) (X_NoText : ExM P w K mg base "NoText" (cls "NoText") "at" 1) :
    FnOk P w K mg base (L2.CX P w) 3 f fd ["self"] (spM ⟨K, cls⟩ m_Words_word) := by
  have nd := sc_Words_word.nd
  refine fn_MX b_Words_word F sc_Words_word (n := 2) (kk := 1) rfl rfl (by decide) rfl (fun cdv A outer s0 H E hr => ?_)
  refine ⟨_, (pss_cons (ps_set (i := 1) nd rfl (by first | exact Or.inl rfl | exact Or.inr rfl) (pe_methV (tbl := [(cls "Words", spP ⟨K, cls⟩ m_Words_ahead)]) (List.forall_mem_cons.mpr ⟨pe_calm0 (pv 0) Y.kc_Words M_Words_ahead hr (by first | omega | exact Nat.le_refl _ | exact Nat.le_trans (by decide) (Nat.le_add_right _ _)), fun _ h => nomatch h⟩)))
      (pss_cons (ps_if (PW.pt (pw_or (pt_cmpR op_isN (pv 1) pe_non (nomark _)) (pw_or1 (pt_not (pt_val (pe_cal C_is_word hr (by first | omega | exact Nat.le_refl _ | exact Nat.le_trans (by decide) (Nat.le_add_right _ _)) rfl (pa_cons (pv 1) pa_nil))))))) (pss_one (ps_raise rfl (takes_of rfl rfl rfl rfl) (pmk_exm X_NoText hr (by first | omega | exact Nat.le_refl _ | exact Nat.le_trans (by decide) (Nat.le_add_right _ _)) rfl (pa_cons (pe_fldK (K := K) rfl (pv 0)) pa_nil)))) pss_nil)
      (pss_cons (pe_ps_fldK (K := K) rfl (pv 0) (pe_op op_add (pe_fldK (K := K) rfl (pv 0)) pe_int))
      (pss_one (ps_ret (pv 1)))))), ?_⟩
  exact (st_seq (st_set (i := 1) (ee_p (ev_lend 0 (ev_meth (tbl := [("Words", m_Words_ahead)]) (ev_var 0) ea_nil))))
      (st_seq (st_if (ete_p (et_or (et_test (ev_op rv_isN (ev_var 1) ev_non)) (et_not (et_B (ev_call (ea_cons (ev_var 1) ea_nil)))))) (st_raise1 (nm := "NoText") (ev_fldO 0 Y.kc_Words Y.kn_Words_at)) st_next)
      (st_seq (st_fldO (i := 0) Y.kc_Words Y.kn_Words_at (ee_p (ev_op rv_add (ev_fldO 0 Y.kc_Words Y.kn_Words_at) ev_int)))
      (st_ret (ee_p (ev_var 1))))))
theorem ok_Words_end {f : Addr} {fd : FuncData} (F : Fun K "end" "Words.end" s_Words_end f fd) (Z : Zs mg) (Y : Ks K mg cls) (M_Words_ahead : CalM P w K mg base (cls "Words") "ahead" ["self"] 1 (spP ⟨K, cls⟩ m_Words_ahead)) (X_NoText : ExM P w K mg base "NoText" (cls "NoText") "at" 1) :
    FnOk P w K mg base (L2.CX P w) 3 f fd ["self"] (spM ⟨K, cls⟩ m_Words_end) := by
  have nd := sc_Words_end.nd
  refine fn_MX b_Words_end F sc_Words_end (n := 1) (kk := 1) rfl rfl (by decide) rfl (fun cdv A outer s0 H E hr => ?_)
  refine ⟨_, (pss_one (ps_if (pt_cmpR op_notN (pe_methV (tbl := [(cls "Words", spP ⟨K, cls⟩ m_Words_ahead)]) (List.forall_mem_cons.mpr ⟨pe_calm0 (pv 0) Y.kc_Words M_Words_ahead hr (by first | omega | exact Nat.le_refl _ | exact Nat.le_trans (by decide) (Nat.le_add_right _ _)), fun _ h => nomatch h⟩)) pe_non (nomark _)) (pss_one (ps_raise rfl (takes_of rfl rfl rfl rfl) (pmk_exm X_NoText hr (by first | omega | exact Nat.le_refl _ | exact Nat.le_trans (by decide) (Nat.le_add_right _ _)) rfl (pa_cons (pe_fldK (K := K) rfl (pv 0)) pa_nil)))) pss_nil)), ?_⟩
  exact (st_if (ete_p (et_test (ev_op rv_notN (ev_lend 0 (ev_meth (tbl := [("Words", m_Words_ahead)]) (ev_var 0) ea_nil)) ev_non))) (st_raise1 (nm := "NoText") (ev_fldO 0 Y.kc_Words Y.kn_Words_at)) st_next)
theorem okF_parts_up_to  {f_parts_up_to : Addr} {fd_parts_up_to : FuncData} (F_parts_up_to : Fun K "parts_up_to" "parts_up_to" s_parts_up_to f_parts_up_to fd_parts_up_to) (bF_parts_up_to : Binds K fd_parts_up_to ["words", "end"] []) (gF_parts_up_to : mg "parts_up_to" = some (.ref f_parts_up_to)) {f_whole_writing : Addr} {fd_whole_writing : FuncData} (F_whole_writing : Fun K "whole_writing" "whole_writing" s_whole_writing f_whole_writing fd_whole_writing) (bF_whole_writing : Binds K fd_whole_writing ["words"] []) (gF_whole_writing : mg "whole_writing" = some (.ref f_whole_writing)) (Z : Zs mg) (Y : Ks K mg cls) {a_BEGINS : Addr} (c_BEGINS : mg "BEGINS" = some (.ref a_BEGINS) ∧ ∀ p ∈ ([("row", .str "["), ("bag", .str "{"), ("choice", .str "<"), ("ring", .str "((")] : List (Str × D)), flat p.2 = true ∧ KDct K w a_BEGINS p.1 (dv p.2)) {a_ENDS : Addr} (c_ENDS : mg "ENDS" = some (.ref a_ENDS) ∧ ∀ p ∈ ([("row", .str "]"), ("bag", .str "}"), ("choice", .str ">"), ("ring", .str "))")] : List (Str × D)), flat p.2 = true ∧ KDct K w a_ENDS p.1 (dv p.2)) (M_Words_takes : CalM P w K mg base (cls "Words") "takes" ["self", "word"] 2 (spM ⟨K, cls⟩ m_Words_takes)) (M_Words_ahead : CalM P w K mg base (cls "Words") "ahead" ["self"] 1 (spP ⟨K, cls⟩ m_Words_ahead)) (M_Words_need : CalMX P w K mg base (cls "Words") "need" ["self", "word"] 3 (spM ⟨K, cls⟩ m_Words_need)) (M_Words_word : CalMX P w K mg base (cls "Words") "word" ["self"] 3 (spM ⟨K, cls⟩ m_Words_word)) (X_NoText : ExM P w K mg base "NoText" (cls "NoText") "at" 1) : ∀ n : Nat, (CalX P w K mg base "parts_up_to" ["words", "end"] (3 + n) (spM ⟨K, cls⟩ (mF_parts_up_to n))) ∧ (CalX P w K mg base "whole_writing" ["words"] (3 + n) (spM ⟨K, cls⟩ (mF_whole_writing n))) := by
  intro n
  induction n with
  | zero => exact ⟨CalX.vacuous gF_parts_up_to F_parts_up_to.kp bF_parts_up_to (no_M fun _ => by unfold mF_parts_up_to; rfl), CalX.vacuous gF_whole_writing F_whole_writing.kp bF_whole_writing (no_M fun _ => by unfold mF_whole_writing; rfl)⟩
  | succ n ih =>
    obtain ⟨C_parts_up_to, C_whole_writing⟩ := ih
    have G_parts_up_to : FnOk P w K mg base (L2.CX P w) (3 + n + 1) f_parts_up_to fd_parts_up_to ["words", "end"] (spM ⟨K, cls⟩ (mF_parts_up_to (n + 1))) := by
      have nd := sc_parts_up_to.nd
      unfold mF_parts_up_to
      refine fn_MX (b_parts_up_to (mF_parts_up_to n) (mF_whole_writing n)) F_parts_up_to sc_parts_up_to (n := 3) (kk := 2) rfl rfl (by decide) rfl (fun cdv A outer s0 H E hr => ?_)
      refine ⟨_, (pss_cons (ps_set (i := 2) nd rfl (by first | exact Or.inl rfl | exact Or.inr rfl) (pe_lst pa_nil))
      (pss_cons (ps_while (passes_of rfl) (pt_not (pt_val (pe_calm (pv 0) Y.kc_Words M_Words_takes hr (by first | omega | exact Nat.le_refl _ | exact Nat.le_trans (by decide) (Nat.le_add_right _ _)) (pa_cons (pv 1) pa_nil))))
      (pss_one (ps_expr (pe_bm PySem.F.plainAttrs_list PySem.F.slot_list_append PySem.F.type_list_append mt_append (pv 2) (pa_cons (pe_calXE C_whole_writing (takes_of rfl rfl rfl rfl) hr (by first | omega | exact Nat.le_refl _ | exact Nat.le_trans (by decide) (Nat.le_add_right _ _)) rfl (pa_cons (pv 0) pa_nil)) pa_nil)))))
      (pss_one (ps_ret (pe_callTy (tuple_q (K := K) rfl) (by rfl) Z.z_tuple (by decide +kernel) (pa_cons (pv 2) pa_nil)))))), ?_⟩
      exact (st_seq (st_setL (i := 2) (ele_p (el_lst ea_nil)))
      (st_seq (st_while (fun _ => 1000) (ete_not (ete_B (ee_methM0 (i := 0) (eae_cons (ee_p (ev_var 1)) eae_nil))))
      (st_app (i := 2) (ee_callM (eae_slot 0 eae_nil))))
      (st_ret (ee_p (ev_tupL (eq_o 2))))))
    have G_whole_writing : FnOk P w K mg base (L2.CX P w) (3 + n + 1) f_whole_writing fd_whole_writing ["words"] (spM ⟨K, cls⟩ (mF_whole_writing (n + 1))) := by
      have nd := sc_whole_writing.nd
      unfold mF_whole_writing
      refine fn_MX (b_whole_writing (mF_parts_up_to n) (mF_whole_writing n)) F_whole_writing sc_whole_writing (n := 5) (kk := 1) rfl rfl (by decide) rfl (fun cdv A outer s0 H E hr => ?_)
      refine ⟨_, (pss_cons (ps_if (pt_val (pe_calm (pv 0) Y.kc_Words M_Words_takes hr (by first | omega | exact Nat.le_refl _ | exact Nat.le_trans (by decide) (Nat.le_add_right _ _)) (pa_cons pe_str pa_nil))) (pss_one (ps_ret (pe_tup (pa_cons pe_str pa_nil)))) pss_nil)
      (pss_cons (ps_for (passes_of rfl) rfl (pit (K := K) rfl (pe_tup (pa_cons pe_str (pa_cons pe_str pa_nil)))) (pg_name (i := 1) nd rfl (by first | exact Or.inl rfl | exact Or.inr rfl))
      (pss_one (ps_if (pt_val (pe_calm (pv 0) Y.kc_Words M_Words_takes hr (by first | omega | exact Nat.le_refl _ | exact Nat.le_trans (by decide) (Nat.le_add_right _ _)) (pa_cons (pv 1) pa_nil))) (pss_one (ps_ret (pe_tup (pa_cons (pv 1) (pa_cons (pe_calXE C_whole_writing (takes_of rfl rfl rfl rfl) hr (by first | omega | exact Nat.le_refl _ | exact Nat.le_trans (by decide) (Nat.le_add_right _ _)) rfl (pa_cons (pv 0) pa_nil)) pa_nil))))) pss_nil)))
      (pss_cons (ps_if (pt_val (pe_calm (pv 0) Y.kc_Words M_Words_takes hr (by first | omega | exact Nat.le_refl _ | exact Nat.le_trans (by decide) (Nat.le_add_right _ _)) (pa_cons pe_str pa_nil))) (pss_cons (ps_set (i := 2) nd rfl (by first | exact Or.inl rfl | exact Or.inr rfl) (pe_calXE C_whole_writing (takes_of rfl rfl rfl rfl) hr (by first | omega | exact Nat.le_refl _ | exact Nat.le_trans (by decide) (Nat.le_add_right _ _)) rfl (pa_cons (pv 0) pa_nil)))
      (pss_cons (ps_set (i := 3) nd rfl (by first | exact Or.inl rfl | exact Or.inr rfl) (pe_calXE C_whole_writing (takes_of rfl rfl rfl rfl) hr (by first | omega | exact Nat.le_refl _ | exact Nat.le_trans (by decide) (Nat.le_add_right _ _)) rfl (pa_cons (pv 0) pa_nil)))
      (pss_cons (ps_expr (pe_calmX (pv 0) Y.kc_Words M_Words_need (takes_of rfl rfl rfl rfl) hr (by first | omega | exact Nat.le_refl _ | exact Nat.le_trans (by decide) (Nat.le_add_right _ _)) (pa_cons pe_str pa_nil)))
      (pss_one (ps_ret (pe_tup (pa_cons pe_str (pa_cons (pv 2) (pa_cons (pv 3) pa_nil))))))))) pss_nil)
      (pss_cons (ps_for (passes_of rfl) rfl (pit (K := K) rfl (pe_tup (pa_cons pe_str (pa_cons pe_str (pa_cons pe_str (pa_cons pe_str pa_nil)))))) (pg_name (i := 4) nd rfl (by first | exact Or.inl rfl | exact Or.inr rfl))
      (pss_one (ps_if (pt_val (pe_calm (pv 0) Y.kc_Words M_Words_takes hr (by first | omega | exact Nat.le_refl _ | exact Nat.le_trans (by decide) (Nat.le_add_right _ _)) (pa_cons (pe_ix (ixd (K := K) (w := w) rfl rfl) (pe_glob (v := .ref a_BEGINS) rfl c_BEGINS.1 rfl) (pv 4) (fun _ _ => rfl)) pa_nil))) (pss_one (ps_ret (pe_tup (pa_cons (pv 4) (pa_cons (pe_calXE C_parts_up_to (takes_of rfl rfl rfl rfl) hr (by first | omega | exact Nat.le_refl _ | exact Nat.le_trans (by decide) (Nat.le_add_right _ _)) rfl (pa_cons (pv 0) (pa_cons (pe_ix (ixd (K := K) (w := w) rfl rfl) (pe_glob (v := .ref a_ENDS) rfl c_ENDS.1 rfl) (pv 4) (fun _ _ => rfl)) pa_nil))) pa_nil))))) pss_nil)))
      (pss_cons (ps_if (pt_cmpR op_isN (pe_methV (tbl := [(cls "Words", spP ⟨K, cls⟩ m_Words_ahead)]) (List.forall_mem_cons.mpr ⟨pe_calm0 (pv 0) Y.kc_Words M_Words_ahead hr (by first | omega | exact Nat.le_refl _ | exact Nat.le_trans (by decide) (Nat.le_add_right _ _)), fun _ h => nomatch h⟩)) pe_non (nomark _)) (pss_one (ps_raise rfl (takes_of rfl rfl rfl rfl) (pmk_exm X_NoText hr (by first | omega | exact Nat.le_refl _ | exact Nat.le_trans (by decide) (Nat.le_add_right _ _)) rfl (pa_cons (pe_fldK (K := K) rfl (pv 0)) pa_nil)))) pss_nil)
      (pss_one (ps_ret (pe_tup (pa_cons pe_str (pa_cons (pe_calmX0 (pv 0) Y.kc_Words M_Words_word (takes_of rfl rfl rfl rfl) hr (by first | omega | exact Nat.le_refl _ | exact Nat.le_trans (by decide) (Nat.le_add_right _ _))) pa_nil)))))))))), ?_⟩
      exact (st_seq (st_if (ete_B (ee_methM0 (i := 0) (eae_cons (ee_p ev_str) eae_nil))) (st_ret (ee_p (ev_tup (ea_cons ev_str ea_nil)))) st_next)
      (st_seq (st_for (ei_tup (ev_tup (ea_cons ev_str (ea_cons ev_str ea_nil))) rfl) (eg_name 1)
      (st_if (ete_B (ee_methM0 (i := 0) (eae_cons (ee_p (ev_var 1)) eae_nil))) (st_ret (ee_tup (eae_cons (ee_p (ev_var 1)) (eae_cons (ee_callM (eae_slot 0 eae_nil)) eae_nil)))) st_next))
      (st_seq (st_if (ete_B (ee_methM0 (i := 0) (eae_cons (ee_p ev_str) eae_nil))) (st_seq (st_set (i := 2) (ee_callM (eae_slot 0 eae_nil)))
      (st_seq (st_set (i := 3) (ee_callM (eae_slot 0 eae_nil)))
      (st_seq (st_drop (ee_methM (i := 0) (eae_cons (ee_p ev_str) eae_nil)))
      (st_ret (ee_p (ev_tup (ea_cons ev_str (ea_cons (ev_var 2) (ea_cons (ev_var 3) ea_nil))))))))) st_next)
      (st_seq (st_for (ei_tup (ev_tup (ea_cons ev_str (ea_cons ev_str (ea_cons ev_str (ea_cons ev_str ea_nil))))) rfl) (eg_name 4)
      (st_if (ete_B (ee_methM0 (i := 0) (eae_cons (ee_p (ev_ixC c_BEGINS.2 (ev_var 4))) eae_nil))) (st_ret (ee_tup (eae_cons (ee_p (ev_var 4)) (eae_cons (ee_callM (eae_slot 0 (eae_cons (ee_p (ev_ixC c_ENDS.2 (ev_var 4))) eae_nil))) eae_nil)))) st_next))
      (st_seq (st_if (ete_p (et_test (ev_op rv_isN (ev_lend 0 (ev_meth (tbl := [("Words", m_Words_ahead)]) (ev_var 0) ea_nil)) ev_non))) (st_raise1 (nm := "NoText") (ev_fldO 0 Y.kc_Words Y.kn_Words_at)) st_next)
      (st_ret (ee_tup (eae_cons (ee_p ev_str) (eae_cons (ee_methM (i := 0) eae_nil) eae_nil)))))))))
    exact ⟨⟨f_parts_up_to, fd_parts_up_to, G_parts_up_to, gF_parts_up_to, F_parts_up_to.kp, bF_parts_up_to⟩, ⟨f_whole_writing, fd_whole_writing, G_whole_writing, gF_whole_writing, F_whole_writing.kp, bF_whole_writing⟩⟩
theorem ok_read_writing {f : Addr} {fd : FuncData} (F : Fun K "read_writing" "read_writing" s_read_writing f fd) (Z : Zs mg) (Y : Ks K mg cls) (C_whole_writing : CalX P w K mg base "whole_writing" ["words"] 203 (spM ⟨K, cls⟩ m_whole_writing)) (M_Words_end : CalMX P w K mg base (cls "Words") "end" ["self"] 3 (spM ⟨K, cls⟩ m_Words_end)) (I_Words : CalI P w K mg base "Words" (cls "Words") ["self", "text"] 1 (spM ⟨K, cls⟩ m_Words___init__)) :
    FnOk P w K mg base (L2.CX P w) 204 f fd ["text"] (spX ⟨K, cls⟩ m_read_writing) := by
  have nd := sc_read_writing.nd
  refine fn_X b_read_writing F sc_read_writing (n := 3) (kk := 1) rfl rfl (by decide) rfl (fun cdv A outer s0 H E hr => ?_)
  refine ⟨_, (pss_cons (ps_set (i := 1) nd rfl (by first | exact Or.inl rfl | exact Or.inr rfl) (pe_cali I_Words hr (by first | omega | exact Nat.le_refl _ | exact Nat.le_trans (by decide) (Nat.le_add_right _ _)) rfl (pa_cons (pv 0) pa_nil)))
      (pss_cons (ps_set (i := 2) nd rfl (by first | exact Or.inl rfl | exact Or.inr rfl) (pe_calXE C_whole_writing (takes_of rfl rfl rfl rfl) hr (by first | omega | exact Nat.le_refl _ | exact Nat.le_trans (by decide) (Nat.le_add_right _ _)) rfl (pa_cons (pv 1) pa_nil)))
      (pss_cons (ps_expr (pe_calmX0 (pv 1) Y.kc_Words M_Words_end (takes_of rfl rfl rfl rfl) hr (by first | omega | exact Nat.le_refl _ | exact Nat.le_trans (by decide) (Nat.le_add_right _ _))))
      (pss_one (ps_ret (pv 2)))))), ?_⟩
  exact (st_seq (st_setB (i := 1) (eb_make (c := "Words") (m := m_Words___init__) (ea_cons (ev_var 0) ea_nil)))
      (st_seq (st_set (i := 2) (ee_callM (eae_slot 1 eae_nil)))
      (st_seq (st_drop (ee_methM (i := 1) eae_nil))
      (st_ret (ee_p (ev_var 2))))))
theorem ok__law_cell {f : Addr} {fd : FuncData} (F : Fun K "_law_cell" "_law_cell" s__law_cell f fd) (Z : Zs mg) (Y : Ks K mg cls) :
    FnOk P w K mg base CX0 1 f fd ["_law_script", "_law_k"] (spP ⟨K, cls⟩ m__law_cell) := by
  have nd := sc__law_cell.nd
  refine fn_P b__law_cell F sc__law_cell (n := 2) (kk := 2) rfl rfl (by decide) rfl (fun cdv A outer s0 H E hr => ?_)
  refine ⟨_, (pss_cons (ps_if (pt_cmpR op_lt (pv 1) (pe_callB (len_q (K := K) rfl) (by rfl) Z.z_len PySem.boot_len (pa_cons (pv 0) pa_nil)) (nomark _)) (pss_one (ps_ret (pe_ix (ixl (K := K) rfl) (pv 0) (pv 1) (fun _ _ => rfl)))) pss_nil)
      (pss_one (ps_ret pe_int))), ?_⟩
  exact (st_seq (st_if (ete_p (et_test (ev_op rv_lt (ev_var 1) (ev_lenL (eq_l (ev_var 0)))))) (st_ret (ee_p (ev_ixL (eq_l (ev_var 0)) (ev_var 1)))) st_next)
      (st_ret (ee_p ev_int)))
theorem ok__law_kept {f : Addr} {fd : FuncData} (F : Fun K "_law_kept" "_law_kept" s__law_kept f fd) (Z : Zs mg) (Y : Ks K mg cls) :
    FnOk P w K mg base CX0 1 f fd [] (spL ⟨K, cls⟩ m__law_kept) := by
  have nd := sc__law_kept.nd
  refine fn_L b__law_kept F sc__law_kept (n := 0) (kk := 0) rfl rfl (by decide) rfl (fun cdv A outer s0 H E hr => ?_)
  refine ⟨_, (pss_one (ps_ret (pe_lst (pa_cons pe_str (pa_cons pe_str (pa_cons pe_str (pa_cons pe_str (pa_cons pe_str (pa_cons pe_str (pa_cons pe_str (pa_cons pe_str (pa_cons pe_str (pa_cons pe_str (pa_cons pe_str pa_nil)))))))))))))), ?_⟩
  exact (st_retL (ele_p (el_lst (ea_cons ev_str (ea_cons ev_str (ea_cons ev_str (ea_cons ev_str (ea_cons ev_str (ea_cons ev_str (ea_cons ev_str (ea_cons ev_str (ea_cons ev_str (ea_cons ev_str (ea_cons ev_str ea_nil))))))))))))))
theorem ok__law_word {f : Addr} {fd : FuncData} (F : Fun K "_law_word" "_law_word" s__law_word f fd) (Z : Zs mg) (Y : Ks K mg cls) (C__law_kept : Cal P w K mg base "_law_kept" [] 1 (spL ⟨K, cls⟩ m__law_kept)) :
    FnOk P w K mg base CX0 2 f fd ["_law_cell_here"] (spP ⟨K, cls⟩ m__law_word) := by
  have nd := sc__law_word.nd
  refine fn_P b__law_word F sc__law_word (n := 4) (kk := 1) rfl rfl (by decide) rfl (fun cdv A outer s0 H E hr => ?_)
  refine ⟨_, (pss_cons (ps_set (i := 1) nd rfl (by first | exact Or.inl rfl | exact Or.inr rfl) pe_str)
      (pss_cons (ps_set (i := 2) nd rfl (by first | exact Or.inl rfl | exact Or.inr rfl) (pe_op op_fdiv (pv 0) pe_int))
      (pss_cons (ps_for PassesOwn.never rfl (pi_range1 (by rfl) Z.z_range (pa_cons (pe_op op_add pe_int (pe_op op_mod (pv 0) pe_int)) pa_nil)) (pg_name (i := 3) nd rfl (by first | exact Or.inl rfl | exact Or.inr rfl))
      (pss_cons (ps_set (i := 1) nd rfl (by first | exact Or.inl rfl | exact Or.inr rfl) (pe_op op_add_str (pv 1) (pe_ix ix_str pe_str (pe_op op_mod (pv 2) pe_int) (fun _ _ => rfl))))
      (pss_one (ps_set (i := 2) nd rfl (by first | exact Or.inl rfl | exact Or.inr rfl) (pe_op op_fdiv (pv 2) pe_int)))))
      (pss_cons (ps_if (pt_cmpR (in_q (K := K) rfl) (pv 1) (pe_cal0 C__law_kept hr (by first | omega | exact Nat.le_refl _ | exact Nat.le_trans (by decide) (Nat.le_add_right _ _)) rfl) (by rfl)) (pss_one (ps_set (i := 1) nd rfl (by first | exact Or.inl rfl | exact Or.inr rfl) (pe_op op_add_str (pv 1) pe_str))) pss_nil)
      (pss_one (ps_ret (pv 1))))))), ?_⟩
  exact (st_seq (st_set (i := 1) (ee_p ev_str))
      (st_seq (st_set (i := 2) (ee_p (ev_op rv_div (ev_var 0) ev_int)))
      (st_seq (st_for (ei_rng1 (ea_cons (ev_op rv_add ev_int (ev_op rv_mod (ev_var 0) ev_int)) ea_nil)) (eg_name 3)
      (st_seq (st_set (i := 1) (ee_p (ev_op rv_catS (ev_var 1) (ev_op rv_ixS ev_str (ev_op rv_mod (ev_var 2) ev_int)))))
      (st_set (i := 2) (ee_p (ev_op rv_div (ev_var 2) ev_int)))))
      (st_seq (st_if (ete_p (et_test (ev_op rv_in (ev_var 1) (el_d (el_call ea_nil))))) (st_set (i := 1) (ee_p (ev_op rv_catS (ev_var 1) ev_str))) st_next)
      (st_ret (ee_p (ev_var 1)))))))
theorem ok__law_is_word {f : Addr} {fd : FuncData} (F : Fun K "_law_is_word" "_law_is_word" s__law_is_word f fd) (Z : Zs mg) (Y : Ks K mg cls) (C__law_kept : Cal P w K mg base "_law_kept" [] 1 (spL ⟨K, cls⟩ m__law_kept)) :
    FnOk P w K mg base CX0 2 f fd ["_law_text"] (spP ⟨K, cls⟩ m__law_is_word) := by
  have nd := sc__law_is_word.nd
  refine fn_P b__law_is_word F sc__law_is_word (n := 2) (kk := 1) rfl rfl (by decide) rfl (fun cdv A outer s0 H E hr => ?_)
  refine ⟨_, (pss_cons (ps_for PassesOwn.never rfl (pi_str (pv 0)) (pg_name (i := 1) nd rfl (by first | exact Or.inl rfl | exact Or.inr rfl))
      (pss_one (ps_if (pt_cmpR op_notIn_sign (pv 1) pe_str (by rfl)) (pss_one (ps_ret pe_bl)) pss_nil)))
      (pss_one (ps_ret (pe_and (pe_chain op_le op_le pe_int (pe_callB call_len_str (by rfl) Z.z_len PySem.boot_len (pa_cons (pv 0) pa_nil)) pe_int) (pe_one (pe_cmpR (nin_q (K := K) rfl) (pv 0) (pe_cal0 C__law_kept hr (by first | omega | exact Nat.le_refl _ | exact Nat.le_trans (by decide) (Nat.le_add_right _ _)) rfl) (by rfl))))))), ?_⟩
  exact (st_seq (st_for (ei_str (ev_var 0)) (eg_name 1)
      (st_if (ete_p (et_test (ev_op rv_nis (ev_var 1) ev_str))) (st_ret (ee_p ev_bl)) st_next))
      (st_ret (ee_p (ev_andV (ev_chain rv_le rv_le ev_int (ev_callB rc_lenS (ea_cons (ev_var 0) ea_nil)) ev_int) (ev_op rv_in (ev_var 0) (el_d (el_call ea_nil)))))))
theorem ok__law_pile {f : Addr} {fd : FuncData} (F : Fun K "_law_pile" "_law_pile" s__law_pile f fd) (Z : Zs mg) (Y : Ks K mg cls) (C__law_word : Cal P w K mg base "_law_word" ["_law_cell_here"] 2 (spP ⟨K, cls⟩ m__law_word)) :
    FnOk P w K mg base CX0 3 f fd ["_law_stack", "_law_cell_here"] (spM ⟨K, cls⟩ m__law_pile) := by
  have nd := sc__law_pile.nd
  refine fn_M b__law_pile F sc__law_pile (n := 8) (kk := 2) rfl rfl (by decide) rfl (fun cdv A outer s0 H E hr => ?_)
  refine ⟨_, (pss_cons (ps_set (i := 2) nd rfl (by first | exact Or.inl rfl | exact Or.inr rfl) (pe_op op_mod (pv 1) pe_int))
      (pss_cons (ps_set (i := 3) nd rfl (by first | exact Or.inl rfl | exact Or.inr rfl) (pe_op op_fdiv (pv 1) pe_int))
      (pss_one (ps_if (PW.pt (pw_and (pt_cmpR (in_q (K := K) rfl) (pv 2) (pe_tup (pa_cons pe_int (pa_cons pe_int pa_nil))) (by rfl)) (pw_and1 (pt_cmpR op_gt (pe_callB (len_q (K := K) rfl) (by rfl) Z.z_len PySem.boot_len (pa_cons (pv 0) pa_nil)) pe_int (nomark _))))) (pss_one (ps_expr (pe_bm PySem.F.plainAttrs_list PySem.F.slot_list_append PySem.F.type_list_append mt_append (pv 0) (pa_cons (pe_tup (pa_cons (pe_ix (ixl (K := K) rfl) (pe_lst (pa_cons pe_str (pa_cons pe_str pa_nil))) (pe_op op_sub (pv 2) pe_int) (fun _ _ => rfl)) (pa_cons (pe_pop (K := K) rfl (pv 0)) pa_nil))) pa_nil)))) (pss_one (ps_if (PW.pt (pw_and (pt_cmpR op_eq (pv 2) pe_int (nomark _)) (pw_and1 (pt_cmpR op_gt (pe_callB (len_q (K := K) rfl) (by rfl) Z.z_len PySem.boot_len (pa_cons (pv 0) pa_nil)) pe_int (nomark _))))) (pss_cons (ps_set (i := 4) nd rfl (by first | exact Or.inl rfl | exact Or.inr rfl) (pe_pop (K := K) rfl (pv 0)))
      (pss_one (ps_expr (pe_bm PySem.F.plainAttrs_list PySem.F.slot_list_append PySem.F.type_list_append mt_append (pv 0) (pa_cons (pe_tup (pa_cons pe_str (pa_cons (pe_pop (K := K) rfl (pv 0)) (pa_cons (pv 4) pa_nil)))) pa_nil))))) (pss_one (ps_if (PW.pt (pw_and (pt_cmpR op_gt (pv 2) pe_int (nomark _)) (pw_and1 (pt_cmpR op_lt (pv 2) pe_int (nomark _))))) (pss_cons (ps_set (i := 5) nd rfl (by first | exact Or.inl rfl | exact Or.inr rfl) (pe_op op_mod (pv 3) (pe_op op_add pe_int (pe_callB (len_q (K := K) rfl) (by rfl) Z.z_len PySem.boot_len (pa_cons (pv 0) pa_nil)))))
      (pss_cons (ps_set (i := 6) nd rfl (by first | exact Or.inl rfl | exact Or.inr rfl) (pe_slice (sll (K := K) rfl) (pv 0) (po_some (pe_op op_sub (pe_callB (len_q (K := K) rfl) (by rfl) Z.z_len PySem.boot_len (pa_cons (pv 0) pa_nil)) (pv 5))) po_none))
      (pss_cons (ps_for PassesOwn.never rfl (pil (K := K) rfl (pv 6)) (pg_name (i := 7) nd rfl (by first | exact Or.inl rfl | exact Or.inr rfl))
      (pss_one (ps_expr (pe_pop (K := K) rfl (pv 0)))))
      (pss_one (ps_expr (pe_bm PySem.F.plainAttrs_list PySem.F.slot_list_append PySem.F.type_list_append mt_append (pv 0) (pa_cons (pe_tup (pa_cons (pe_ix (ixl (K := K) rfl) (pe_lst (pa_cons pe_str (pa_cons pe_str (pa_cons pe_str (pa_cons pe_str pa_nil))))) (pe_op op_sub (pv 2) pe_int) (fun _ _ => rfl)) (pa_cons (pe_callTy (tuple_q (K := K) rfl) (by rfl) Z.z_tuple (by decide +kernel) (pa_cons (pv 6) pa_nil)) pa_nil))) pa_nil))))))) (pss_one (ps_if (pt_cmpR op_eq (pv 2) pe_int (nomark _)) (pss_one (ps_expr (pe_bm PySem.F.plainAttrs_list PySem.F.slot_list_append PySem.F.type_list_append mt_append (pv 0) (pa_cons (pe_tup (pa_cons pe_str pa_nil)) pa_nil)))) (pss_one (ps_expr (pe_bm PySem.F.plainAttrs_list PySem.F.slot_list_append PySem.F.type_list_append mt_append (pv 0) (pa_cons (pe_tup (pa_cons pe_str (pa_cons (pe_cal C__law_word hr (by first | omega | exact Nat.le_refl _ | exact Nat.le_trans (by decide) (Nat.le_add_right _ _)) rfl (pa_cons (pv 3) pa_nil)) pa_nil))) pa_nil)))))))))))))), ?_⟩
  exact (st_seq (st_set (i := 2) (ee_p (ev_op rv_mod (ev_var 1) ev_int)))
      (st_seq (st_set (i := 3) (ee_p (ev_op rv_div (ev_var 1) ev_int)))
      (st_if (ete_p (et_and (et_test (ev_op rv_in (ev_var 2) (ev_tup (ea_cons ev_int (ea_cons ev_int ea_nil))))) (et_test (ev_op rv_gt (ev_lenL (eq_o 0)) ev_int)))) (st_app (i := 0) (ee_tup (eae_cons (ee_p (ev_ixL (eq_n (el_lst (ea_cons ev_str (ea_cons ev_str ea_nil)))) (ev_op rv_sub (ev_var 2) ev_int))) (eae_cons (ee_pop 0) eae_nil)))) (st_if (ete_p (et_and (et_test (ev_op rv_eq (ev_var 2) ev_int)) (et_test (ev_op rv_gt (ev_lenL (eq_o 0)) ev_int)))) (st_seq (st_set (i := 4) (ee_pop 0))
      (st_app (i := 0) (ee_tup (eae_cons (ee_p ev_str) (eae_cons (ee_pop 0) (eae_cons (ee_p (ev_var 4)) eae_nil)))))) (st_if (ete_p (et_and (et_test (ev_op rv_gt (ev_var 2) ev_int)) (et_test (ev_op rv_lt (ev_var 2) ev_int)))) (st_seq (st_set (i := 5) (ee_p (ev_op rv_mod (ev_var 3) (ev_op rv_add ev_int (ev_lenL (eq_o 0))))))
      (st_seq (st_set (i := 6) (ee_p (el_d (el_slL (eq_o 0) (eo_some (ev_op rv_sub (ev_lenL (eq_o 0)) (ev_var 5))) eo_none))))
      (st_seq (st_for (ei_list (ev_var 6) rfl) (eg_name 7)
      (st_drop (ee_pop 0)))
      (st_app (i := 0) (ee_p (ev_tup (ea_cons (ev_ixL (eq_n (el_lst (ea_cons ev_str (ea_cons ev_str (ea_cons ev_str (ea_cons ev_str ea_nil)))))) (ev_op rv_sub (ev_var 2) ev_int)) (ea_cons (ev_tupL (eq_l (ev_var 6))) ea_nil)))))))) (st_if (ete_p (et_test (ev_op rv_eq (ev_var 2) ev_int))) (st_app (i := 0) (ee_p (ev_tup (ea_cons ev_str ea_nil)))) (st_app (i := 0) (ee_p (ev_tup (ea_cons ev_str (ea_cons (ev_call (ea_cons (ev_var 3) ea_nil)) ea_nil)))))))))))
theorem ok__law_writing {f : Addr} {fd : FuncData} (F : Fun K "_law_writing" "_law_writing" s__law_writing f fd) (Z : Zs mg) (Y : Ks K mg cls) (C__law_pile : Cal P w K mg base "_law_pile" ["_law_stack", "_law_cell_here"] 3 (spM ⟨K, cls⟩ m__law_pile)) :
    FnOk P w K mg base CX0 4 f fd ["_law_cells"] (spP ⟨K, cls⟩ m__law_writing) := by
  have nd := sc__law_writing.nd
  refine fn_P b__law_writing F sc__law_writing (n := 3) (kk := 1) rfl rfl (by decide) rfl (fun cdv A outer s0 H E hr => ?_)
  refine ⟨_, (pss_cons (ps_set (i := 1) nd rfl (by first | exact Or.inl rfl | exact Or.inr rfl) (pe_lst pa_nil))
      (pss_cons (ps_for PassesOwn.never rfl (pil (K := K) rfl (pv 0)) (pg_name (i := 2) nd rfl (by first | exact Or.inl rfl | exact Or.inr rfl))
      (pss_one (ps_expr (pe_cal C__law_pile hr (by first | omega | exact Nat.le_refl _ | exact Nat.le_trans (by decide) (Nat.le_add_right _ _)) rfl (pa_cons (pv 1) (pa_cons (pv 2) pa_nil))))))
      (pss_cons (ps_if (pt_cmpR op_eq (pe_callB (len_q (K := K) rfl) (by rfl) Z.z_len PySem.boot_len (pa_cons (pv 1) pa_nil)) pe_int (nomark _)) (pss_one (ps_ret (pe_ix (ixl (K := K) rfl) (pv 1) pe_int (fun _ _ => rfl)))) pss_nil)
      (pss_one (ps_ret (pe_tup (pa_cons pe_str (pa_cons (pe_callTy (tuple_q (K := K) rfl) (by rfl) Z.z_tuple (by decide +kernel) (pa_cons (pv 1) pa_nil)) pa_nil)))))))), ?_⟩
  exact (st_seq (st_setL (i := 1) (ele_p (el_lst ea_nil)))
      (st_seq (st_for (ei_list (ev_var 0) rfl) (eg_name 2)
      (st_drop (ee_callM0 (eae_slot 1 (eae_cons (ee_p (ev_var 2)) eae_nil)))))
      (st_seq (st_if (ete_p (et_test (ev_op rv_eq (ev_lenL (eq_o 1)) ev_int))) (st_ret (ee_p (ev_ixL (eq_o 1) ev_int))) st_next)
      (st_ret (ee_p (ev_tup (ea_cons ev_str (ea_cons (ev_tupL (eq_o 1)) ea_nil))))))))
theorem okF__law_written  {f__law_written : Addr} {fd__law_written : FuncData} (F__law_written : Fun K "_law_written" "_law_written" s__law_written f__law_written fd__law_written) (bF__law_written : Binds K fd__law_written ["_law_figure"] []) (gF__law_written : mg "_law_written" = some (.ref f__law_written)) (Z : Zs mg) (Y : Ks K mg cls) : ∀ n : Nat, (Cal P w K mg base "_law_written" ["_law_figure"] (0 + n) (spP ⟨K, cls⟩ (mF__law_written n))) := by
  intro n
  induction n with
  | zero => exact Cal.vacuous gF__law_written F__law_written.kp bF__law_written (no_P fun _ => by unfold mF__law_written; rfl)
  | succ n ih =>
    have C__law_written := ih
    have G__law_written : FnOk P w K mg base CX0 (0 + n + 1) f__law_written fd__law_written ["_law_figure"] (spP ⟨K, cls⟩ (mF__law_written (n + 1))) := by
      have nd := sc__law_written.nd
      unfold mF__law_written
      refine fn_P (b__law_written (mF__law_written n)) F__law_written sc__law_written (n := 4) (kk := 1) rfl rfl (by decide) rfl (fun cdv A outer s0 H E hr => ?_)
      refine ⟨_, (pss_cons (ps_if (pt_cmpR op_eq (pe_ix (ixt (K := K) rfl) (pv 0) pe_int (fun _ _ => rfl)) pe_str (nomark _)) (pss_one (ps_ret pe_str)) pss_nil)
      (pss_cons (ps_if (pt_cmpR op_eq (pe_ix (ixt (K := K) rfl) (pv 0) pe_int (fun _ _ => rfl)) pe_str (nomark _)) (pss_one (ps_ret (pe_ix (ixt (K := K) rfl) (pv 0) pe_int (fun _ _ => rfl)))) pss_nil)
      (pss_cons (ps_if (pt_cmpR (in_q (K := K) rfl) (pe_ix (ixt (K := K) rfl) (pv 0) pe_int (fun _ _ => rfl)) (pe_tup (pa_cons pe_str (pa_cons pe_str pa_nil))) (by rfl)) (pss_one (ps_ret (pe_op op_add_str (pe_op op_add_str (pe_ix (ixt (K := K) rfl) (pv 0) pe_int (fun _ _ => rfl)) pe_str) (pe_cal C__law_written hr (by first | omega | exact Nat.le_refl _ | exact Nat.le_trans (by decide) (Nat.le_add_right _ _)) rfl (pa_cons (pe_ix (ixt (K := K) rfl) (pv 0) pe_int (fun _ _ => rfl)) pa_nil))))) pss_nil)
      (pss_cons (ps_if (pt_cmpR op_eq (pe_ix (ixt (K := K) rfl) (pv 0) pe_int (fun _ _ => rfl)) pe_str (nomark _)) (pss_one (ps_ret (pe_op op_add_str (pe_op op_add_str (pe_op op_add_str (pe_op op_add_str pe_str (pe_cal C__law_written hr (by first | omega | exact Nat.le_refl _ | exact Nat.le_trans (by decide) (Nat.le_add_right _ _)) rfl (pa_cons (pe_ix (ixt (K := K) rfl) (pv 0) pe_int (fun _ _ => rfl)) pa_nil))) pe_str) (pe_cal C__law_written hr (by first | omega | exact Nat.le_refl _ | exact Nat.le_trans (by decide) (Nat.le_add_right _ _)) rfl (pa_cons (pe_ix (ixt (K := K) rfl) (pv 0) pe_int (fun _ _ => rfl)) pa_nil))) pe_str))) pss_nil)
      (pss_cons (ps_set (i := 1) nd rfl (by first | exact Or.inl rfl | exact Or.inr rfl) (pe_bm PySem.F.plainAttrs_list PySem.F.slot_list_index PySem.F.type_list_index (mt_idxL (K := K) rfl) (pe_lst (pa_cons pe_str (pa_cons pe_str (pa_cons pe_str (pa_cons pe_str pa_nil))))) (pa_cons (pe_ix (ixt (K := K) rfl) (pv 0) pe_int (fun _ _ => rfl)) pa_nil)))
      (pss_cons (ps_set (i := 2) nd rfl (by first | exact Or.inl rfl | exact Or.inr rfl) (pe_op (cat_q (K := K) rfl) (pe_lst (pa_cons (pe_ix (ixl (K := K) rfl) (pe_lst (pa_cons pe_str (pa_cons pe_str (pa_cons pe_str (pa_cons pe_str pa_nil))))) (pv 1) (fun _ _ => rfl)) pa_nil)) (pe_lc (own := [("_law_part", 3)]) rfl nd (pit (K := K) rfl (pe_ix (ixt (K := K) rfl) (pv 0) pe_int (fun _ _ => rfl))) (blkOk_by (N := N__law_written) (sc := defScope s__law_written) (by decide +kernel)) (fun _ _ _ _ _ => (pg_name (i := 3) nd rfl (Or.inl rfl))) (fun _ _ _ _ _ => pts_nil) (fun _ _ _ _ _ => (pe_cal C__law_written hr (by first | omega | exact Nat.le_refl _ | exact Nat.le_trans (by decide) (Nat.le_add_right _ _)) rfl (pa_cons (pv 3) pa_nil))))))
      (pss_one (ps_ret (pe_joinK (K := K) rfl pe_str (pe_op (cat_q (K := K) rfl) (pv 2) (pe_lst (pa_cons (pe_ix (ixl (K := K) rfl) (pe_lst (pa_cons pe_str (pa_cons pe_str (pa_cons pe_str (pa_cons pe_str pa_nil))))) (pv 1) (fun _ _ => rfl)) pa_nil)))))))))))), ?_⟩
      exact (st_seq (st_if (ete_p (et_test (ev_op rv_eq (ev_ixT (eq_t (ev_var 0)) ev_int) ev_str))) (st_ret (ee_p ev_str)) st_next)
      (st_seq (st_if (ete_p (et_test (ev_op rv_eq (ev_ixT (eq_t (ev_var 0)) ev_int) ev_str))) (st_ret (ee_p (ev_ixT (eq_t (ev_var 0)) ev_int))) st_next)
      (st_seq (st_if (ete_p (et_test (ev_op rv_in (ev_ixT (eq_t (ev_var 0)) ev_int) (ev_tup (ea_cons ev_str (ea_cons ev_str ea_nil)))))) (st_ret (ee_p (ev_op rv_catS (ev_op rv_catS (ev_ixT (eq_t (ev_var 0)) ev_int) ev_str) (ev_call (ea_cons (ev_ixT (eq_t (ev_var 0)) ev_int) ea_nil))))) st_next)
      (st_seq (st_if (ete_p (et_test (ev_op rv_eq (ev_ixT (eq_t (ev_var 0)) ev_int) ev_str))) (st_ret (ee_p (ev_op rv_catS (ev_op rv_catS (ev_op rv_catS (ev_op rv_catS ev_str (ev_call (ea_cons (ev_ixT (eq_t (ev_var 0)) ev_int) ea_nil))) ev_str) (ev_call (ea_cons (ev_ixT (eq_t (ev_var 0)) ev_int) ea_nil))) ev_str))) st_next)
      (st_seq (st_set (i := 1) (ee_p (ev_idxL (eq_n (el_lst (ea_cons ev_str (ea_cons ev_str (ea_cons ev_str (ea_cons ev_str ea_nil)))))) (ev_ixT (eq_t (ev_var 0)) ev_int))))
      (st_seq (st_set (i := 2) (ee_p (el_d (el_cat (eq_n (el_lst (ea_cons (ev_ixL (eq_n (el_lst (ea_cons ev_str (ea_cons ev_str (ea_cons ev_str (ea_cons ev_str ea_nil)))))) (ev_var 1)) ea_nil))) (eq_n (el_lc (vs := [3]) (ei_tup (ev_ixT (eq_t (ev_var 0)) ev_int) rfl) (eg_name 3) (by decide) et_yes (ev_call (ea_cons (ev_var 3) ea_nil))))))))
      (st_ret (ee_p (ev_joinL rfl ev_str (eq_n (el_cat (eq_l (ev_var 2)) (eq_n (el_lst (ea_cons (ev_ixL (eq_n (el_lst (ea_cons ev_str (ea_cons ev_str (ea_cons ev_str (ea_cons ev_str ea_nil)))))) (ev_var 1)) ea_nil))))))))))))))
    exact ⟨f__law_written, fd__law_written, G__law_written, gF__law_written, F__law_written.kp, bF__law_written⟩
theorem ok__law_new_word {f : Addr} {fd : FuncData} (F : Fun K "_law_new_word" "_law_new_word" s__law_new_word f fd) (Z : Zs mg) (Y : Ks K mg cls) (C__law_kept : Cal P w K mg base "_law_kept" [] 1 (spL ⟨K, cls⟩ m__law_kept)) (C__law_word : Cal P w K mg base "_law_word" ["_law_cell_here"] 2 (spP ⟨K, cls⟩ m__law_word)) :
    FnOk P w K mg base CX0 3 f fd ["_law_cell_here"] (spP ⟨K, cls⟩ m__law_new_word) := by
  have nd := sc__law_new_word.nd
  refine fn_P b__law_new_word F sc__law_new_word (n := 2) (kk := 1) rfl rfl (by decide) rfl (fun cdv A outer s0 H E hr => ?_)
  refine ⟨_, (pss_cons (ps_set (i := 1) nd rfl (by first | exact Or.inl rfl | exact Or.inr rfl) (pe_op (cat_q (K := K) rfl) (pe_cal0 C__law_kept hr (by first | omega | exact Nat.le_refl _ | exact Nat.le_trans (by decide) (Nat.le_add_right _ _)) rfl) (pe_lst (pa_cons pe_str (pa_cons pe_str (pa_cons pe_str (pa_cons pe_str (pa_cons pe_str (pa_cons pe_str (pa_cons pe_str (pa_cons pe_str (pa_cons pe_str (pa_cons pe_str pa_nil)))))))))))))
      (pss_cons (ps_set (i := 1) nd rfl (by first | exact Or.inl rfl | exact Or.inr rfl) (pe_op (cat_q (K := K) rfl) (pv 1) (pe_lst (pa_cons pe_str (pa_cons pe_str (pa_cons pe_str (pa_cons pe_str (pa_cons pe_str (pa_cons pe_str pa_nil)))))))))
      (pss_cons (ps_if (pt_cmpR op_eq (pe_op op_mod (pv 0) pe_int) pe_int (nomark _)) (pss_one (ps_ret (pe_cal C__law_word hr (by first | omega | exact Nat.le_refl _ | exact Nat.le_trans (by decide) (Nat.le_add_right _ _)) rfl (pa_cons (pe_op op_fdiv (pv 0) pe_int) pa_nil)))) pss_nil)
      (pss_one (ps_ret (pe_ix (ixl (K := K) rfl) (pv 1) (pe_op op_mod (pe_op op_fdiv (pv 0) pe_int) pe_int) (fun _ _ => rfl))))))), ?_⟩
  exact (st_seq (st_set (i := 1) (ee_p (el_d (el_cat (eq_n (el_call ea_nil)) (eq_n (el_lst (ea_cons ev_str (ea_cons ev_str (ea_cons ev_str (ea_cons ev_str (ea_cons ev_str (ea_cons ev_str (ea_cons ev_str (ea_cons ev_str (ea_cons ev_str (ea_cons ev_str ea_nil))))))))))))))))
      (st_seq (st_set (i := 1) (ee_p (el_d (el_cat (eq_l (ev_var 1)) (eq_n (el_lst (ea_cons ev_str (ea_cons ev_str (ea_cons ev_str (ea_cons ev_str (ea_cons ev_str (ea_cons ev_str ea_nil))))))))))))
      (st_seq (st_if (ete_p (et_test (ev_op rv_eq (ev_op rv_mod (ev_var 0) ev_int) ev_int))) (st_ret (ee_p (ev_call (ea_cons (ev_op rv_div (ev_var 0) ev_int) ea_nil)))) st_next)
      (st_ret (ee_p (ev_ixL (eq_l (ev_var 1)) (ev_op rv_mod (ev_op rv_div (ev_var 0) ev_int) ev_int)))))))
theorem ok__law_changed {f : Addr} {fd : FuncData} (F : Fun K "_law_changed" "_law_changed" s__law_changed f fd) (Z : Zs mg) (Y : Ks K mg cls) (C__law_new_word : Cal P w K mg base "_law_new_word" ["_law_cell_here"] 3 (spP ⟨K, cls⟩ m__law_new_word)) :
    FnOk P w K mg base CX0 4 f fd ["_law_words", "_law_cell_here"] (spP ⟨K, cls⟩ m__law_changed) := by
  have nd := sc__law_changed.nd
  refine fn_P b__law_changed F sc__law_changed (n := 4) (kk := 2) rfl rfl (by decide) rfl (fun cdv A outer s0 H E hr => ?_)
  refine ⟨_, (pss_cons (ps_set (i := 2) nd rfl (by first | exact Or.inl rfl | exact Or.inr rfl) (pe_op op_mod (pe_op op_fdiv (pv 1) pe_int) (pe_op op_add (pe_callB (len_q (K := K) rfl) (by rfl) Z.z_len PySem.boot_len (pa_cons (pv 0) pa_nil)) pe_int)))
      (pss_cons (ps_set (i := 3) nd rfl (by first | exact Or.inl rfl | exact Or.inr rfl) (pe_cal C__law_new_word hr (by first | omega | exact Nat.le_refl _ | exact Nat.le_trans (by decide) (Nat.le_add_right _ _)) rfl (pa_cons (pe_op op_fdiv (pv 1) pe_int) pa_nil)))
      (pss_cons (ps_if (pt_cmpR op_eq (pe_op op_mod (pv 1) pe_int) pe_int (nomark _)) (pss_one (ps_ret (pe_op (cat_q (K := K) rfl) (pe_op (cat_q (K := K) rfl) (pe_slice (sll (K := K) rfl) (pv 0) po_none (po_some (pv 2))) (pe_lst (pa_cons (pv 3) pa_nil))) (pe_slice (sll (K := K) rfl) (pv 0) (po_some (pv 2)) po_none)))) pss_nil)
      (pss_cons (ps_if (pt_cmpR op_eq (pe_op op_mod (pv 1) pe_int) pe_int (nomark _)) (pss_one (ps_ret (pe_op (cat_q (K := K) rfl) (pe_slice (sll (K := K) rfl) (pv 0) po_none (po_some (pv 2))) (pe_slice (sll (K := K) rfl) (pv 0) (po_some (pe_op op_add (pv 2) pe_int)) po_none)))) pss_nil)
      (pss_cons (ps_if (pt_cmpR op_eq (pe_op op_mod (pv 1) pe_int) pe_int (nomark _)) (pss_one (ps_ret (pe_op (cat_q (K := K) rfl) (pe_op (cat_q (K := K) rfl) (pe_slice (sll (K := K) rfl) (pv 0) po_none (po_some (pv 2))) (pe_lst (pa_cons (pv 3) pa_nil))) (pe_slice (sll (K := K) rfl) (pv 0) (po_some (pe_op op_add (pv 2) pe_int)) po_none)))) pss_nil)
      (pss_cons (ps_if (pt_cmpR op_eq (pe_op op_mod (pv 1) pe_int) pe_int (nomark _)) (pss_one (ps_ret (pe_slice (sll (K := K) rfl) (pv 0) po_none (po_some (pv 2))))) pss_nil)
      (pss_one (ps_ret (pv 0))))))))), ?_⟩
  exact (st_seq (st_set (i := 2) (ee_p (ev_op rv_mod (ev_op rv_div (ev_var 1) ev_int) (ev_op rv_add (ev_lenL (eq_l (ev_var 0))) ev_int))))
      (st_seq (st_set (i := 3) (ee_p (ev_call (ea_cons (ev_op rv_div (ev_var 1) ev_int) ea_nil))))
      (st_seq (st_if (ete_p (et_test (ev_op rv_eq (ev_op rv_mod (ev_var 1) ev_int) ev_int))) (st_ret (ee_p (el_d (el_cat (eq_n (el_cat (eq_n (el_slL (eq_l (ev_var 0)) eo_none (eo_some (ev_var 2)))) (eq_n (el_lst (ea_cons (ev_var 3) ea_nil))))) (eq_n (el_slL (eq_l (ev_var 0)) (eo_some (ev_var 2)) eo_none)))))) st_next)
      (st_seq (st_if (ete_p (et_test (ev_op rv_eq (ev_op rv_mod (ev_var 1) ev_int) ev_int))) (st_ret (ee_p (el_d (el_cat (eq_n (el_slL (eq_l (ev_var 0)) eo_none (eo_some (ev_var 2)))) (eq_n (el_slL (eq_l (ev_var 0)) (eo_some (ev_op rv_add (ev_var 2) ev_int)) eo_none)))))) st_next)
      (st_seq (st_if (ete_p (et_test (ev_op rv_eq (ev_op rv_mod (ev_var 1) ev_int) ev_int))) (st_ret (ee_p (el_d (el_cat (eq_n (el_cat (eq_n (el_slL (eq_l (ev_var 0)) eo_none (eo_some (ev_var 2)))) (eq_n (el_lst (ea_cons (ev_var 3) ea_nil))))) (eq_n (el_slL (eq_l (ev_var 0)) (eo_some (ev_op rv_add (ev_var 2) ev_int)) eo_none)))))) st_next)
      (st_seq (st_if (ete_p (et_test (ev_op rv_eq (ev_op rv_mod (ev_var 1) ev_int) ev_int))) (st_ret (ee_p (el_d (el_slL (eq_l (ev_var 0)) eo_none (eo_some (ev_var 2)))))) st_next)
      (st_ret (ee_p (ev_var 0)))))))))
theorem ok__law_done {f : Addr} {fd : FuncData} (F : Fun K "_law_done" "_law_done" s__law_done f fd) (Z : Zs mg) (Y : Ks K mg cls) :
    FnOk P w K mg base CX0 1 f fd ["_law_frames"] (spM ⟨K, cls⟩ m__law_done) := by
  have nd := sc__law_done.nd
  refine fn_M b__law_done F sc__law_done (n := 1) (kk := 1) rfl rfl (by decide) rfl (fun cdv A outer s0 H E hr => ?_)
  refine ⟨_, (pss_cons (ps_while PassesOwn.never (pt_cmpR op_eq (pe_ix (ixt (K := K) rfl) (pe_ix (ixl (K := K) rfl) (pv 0) (pe_un un_neg pe_int) (fun _ _ => rfl)) pe_int (fun _ _ => rfl)) pe_str (nomark _))
      (pss_one (ps_expr (pe_pop (K := K) rfl (pv 0)))))
      (pss_one (ps_expr (pe_bm PySem.F.plainAttrs_list PySem.F.slot_list_append PySem.F.type_list_append mt_append (pv 0) (pa_cons (pe_tup (pa_cons (pe_ix (ixt (K := K) rfl) (pe_ix (ixl (K := K) rfl) (pv 0) (pe_un un_neg pe_int) (fun _ _ => rfl)) pe_int (fun _ _ => rfl)) (pa_cons (pe_op op_add (pe_ix (ixt (K := K) rfl) (pe_pop (K := K) rfl (pv 0)) pe_int (fun _ _ => rfl)) pe_int) pa_nil))) pa_nil))))), ?_⟩
  exact (st_seq (st_while (fun _ => 1000) (ete_p (et_test (ev_op rv_eq (ev_ixT (eq_t (ev_ixL (eq_o 0) (ev_un ru_neg ev_int))) ev_int) ev_str)))
      (st_drop (ee_pop 0)))
      (st_app (i := 0) (ee_tup (eae_cons (ee_p (ev_ixT (eq_t (ev_ixL (eq_o 0) (ev_un ru_neg ev_int))) ev_int)) (eae_cons (ee_op rv_add (ee_ixS (ee_pop 0) ev_int) (ee_p ev_int)) eae_nil)))))
theorem ok__law_takes {f : Addr} {fd : FuncData} (F : Fun K "_law_takes" "_law_takes" s__law_takes f fd) (Z : Zs mg) (Y : Ks K mg cls) (C__law_done : Cal P w K mg base "_law_done" ["_law_frames"] 1 (spM ⟨K, cls⟩ m__law_done)) (C__law_is_word : Cal P w K mg base "_law_is_word" ["_law_text"] 2 (spP ⟨K, cls⟩ m__law_is_word)) :
    FnOk P w K mg base CX0 3 f fd ["_law_frames", "_law_word_here"] (spM ⟨K, cls⟩ m__law_takes) := by
  have nd := sc__law_takes.nd
  refine fn_M b__law_takes F sc__law_takes (n := 4) (kk := 2) rfl rfl (by decide) rfl (fun cdv A outer s0 H E hr => ?_)
  refine ⟨_, (pss_cons (ps_set (i := 2) nd rfl (by first | exact Or.inl rfl | exact Or.inr rfl) (pe_ix (ixt (K := K) rfl) (pe_ix (ixl (K := K) rfl) (pv 0) (pe_un un_neg pe_int) (fun _ _ => rfl)) pe_int (fun _ _ => rfl)))
      (pss_cons (ps_set (i := 3) nd rfl (by first | exact Or.inl rfl | exact Or.inr rfl) (pe_ix (ixt (K := K) rfl) (pe_ix (ixl (K := K) rfl) (pv 0) (pe_un un_neg pe_int) (fun _ _ => rfl)) pe_int (fun _ _ => rfl)))
      (pss_cons (ps_if (PW.pt (pw_or (PW.pt (pw_and (pt_cmpR op_eq (pv 2) pe_str (nomark _)) (pw_and1 (pt_cmpR op_eq (pv 3) pe_int (nomark _))))) (pw_or1 (PW.pt (pw_and (pt_cmpR op_eq (pv 2) pe_str (nomark _)) (pw_and (pt_cmpR op_eq (pv 3) pe_int (nomark _)) (pw_and1 (pt_cmpR op_ne (pv 1) pe_str (nomark _))))))))) (pss_one (ps_ret pe_bl)) pss_nil)
      (pss_cons (ps_if (pt_cmpR (in_q (K := K) rfl) (pv 1) (pe_tup (pa_cons pe_str (pa_cons pe_str (pa_cons pe_str (pa_cons pe_str (pa_cons pe_str pa_nil)))))) (by rfl)) (pss_cons (ps_if (PW.pt (pw_or (pt_cmpR op_ne (pv 1) (pv 2) (nomark _)) (pw_or1 (PW.pt (pw_and (pt_cmpR op_eq (pv 1) pe_str (nomark _)) (pw_and1 (pt_cmpR op_ne (pv 3) pe_int (nomark _)))))))) (pss_one (ps_ret pe_bl)) pss_nil)
      (pss_cons (ps_expr (pe_pop (K := K) rfl (pv 0)))
      (pss_one (ps_expr (pe_cal C__law_done hr (by first | omega | exact Nat.le_refl _ | exact Nat.le_trans (by decide) (Nat.le_add_right _ _)) rfl (pa_cons (pv 0) pa_nil)))))) (pss_one (ps_if (pt_cmpR (in_q (K := K) rfl) (pv 1) (pe_tup (pa_cons pe_str (pa_cons pe_str (pa_cons pe_str (pa_cons pe_str (pa_cons pe_str pa_nil)))))) (by rfl)) (pss_one (ps_expr (pe_bm PySem.F.plainAttrs_list PySem.F.slot_list_append PySem.F.type_list_append mt_append (pv 0) (pa_cons (pe_tup (pa_cons (pe_ix (ixl (K := K) rfl) (pe_lst (pa_cons pe_str (pa_cons pe_str (pa_cons pe_str (pa_cons pe_str (pa_cons pe_str pa_nil)))))) (pe_bm PySem.F.plainAttrs_list PySem.F.slot_list_index PySem.F.type_list_index (mt_idxL (K := K) rfl) (pe_lst (pa_cons pe_str (pa_cons pe_str (pa_cons pe_str (pa_cons pe_str (pa_cons pe_str pa_nil)))))) (pa_cons (pv 1) pa_nil)) (fun _ _ => rfl)) (pa_cons pe_int pa_nil))) pa_nil)))) (pss_one (ps_if (pt_cmpR (in_q (K := K) rfl) (pv 1) (pe_tup (pa_cons pe_str (pa_cons pe_str pa_nil))) (by rfl)) (pss_one (ps_expr (pe_bm PySem.F.plainAttrs_list PySem.F.slot_list_append PySem.F.type_list_append mt_append (pv 0) (pa_cons (pe_tup (pa_cons pe_str (pa_cons pe_int pa_nil))) pa_nil)))) (pss_one (ps_if (PW.pt (pw_or (pt_cmpR op_eq (pv 1) pe_str (nomark _)) (pw_or1 (pt_val (pe_cal C__law_is_word hr (by first | omega | exact Nat.le_refl _ | exact Nat.le_trans (by decide) (Nat.le_add_right _ _)) rfl (pa_cons (pv 1) pa_nil)))))) (pss_one (ps_expr (pe_cal C__law_done hr (by first | omega | exact Nat.le_refl _ | exact Nat.le_trans (by decide) (Nat.le_add_right _ _)) rfl (pa_cons (pv 0) pa_nil)))) (pss_one (ps_ret pe_bl)))))))))
      (pss_one (ps_ret pe_bl)))))), ?_⟩
  exact (st_seq (st_set (i := 2) (ee_p (ev_ixT (eq_t (ev_ixL (eq_o 0) (ev_un ru_neg ev_int))) ev_int)))
      (st_seq (st_set (i := 3) (ee_p (ev_ixT (eq_t (ev_ixL (eq_o 0) (ev_un ru_neg ev_int))) ev_int)))
      (st_seq (st_if (ete_p (et_or (et_and (et_test (ev_op rv_eq (ev_var 2) ev_str)) (et_test (ev_op rv_eq (ev_var 3) ev_int))) (et_and (et_test (ev_op rv_eq (ev_var 2) ev_str)) (et_and (et_test (ev_op rv_eq (ev_var 3) ev_int)) (et_test (ev_op rv_ne (ev_var 1) ev_str)))))) (st_ret (ee_p ev_bl)) st_next)
      (st_seq (st_if (ete_p (et_test (ev_op rv_in (ev_var 1) (ev_tup (ea_cons ev_str (ea_cons ev_str (ea_cons ev_str (ea_cons ev_str (ea_cons ev_str ea_nil))))))))) (st_seq (st_if (ete_p (et_or (et_test (ev_op rv_ne (ev_var 1) (ev_var 2))) (et_and (et_test (ev_op rv_eq (ev_var 1) ev_str)) (et_test (ev_op rv_ne (ev_var 3) ev_int))))) (st_ret (ee_p ev_bl)) st_next)
      (st_seq (st_drop (ee_pop 0))
      (st_drop (ee_callM0 (eae_slot 0 eae_nil))))) (st_if (ete_p (et_test (ev_op rv_in (ev_var 1) (ev_tup (ea_cons ev_str (ea_cons ev_str (ea_cons ev_str (ea_cons ev_str (ea_cons ev_str ea_nil))))))))) (st_app (i := 0) (ee_p (ev_tup (ea_cons (ev_ixL (eq_n (el_lst (ea_cons ev_str (ea_cons ev_str (ea_cons ev_str (ea_cons ev_str (ea_cons ev_str ea_nil))))))) (ev_idxL (eq_n (el_lst (ea_cons ev_str (ea_cons ev_str (ea_cons ev_str (ea_cons ev_str (ea_cons ev_str ea_nil))))))) (ev_var 1))) (ea_cons ev_int ea_nil))))) (st_if (ete_p (et_test (ev_op rv_in (ev_var 1) (ev_tup (ea_cons ev_str (ea_cons ev_str ea_nil)))))) (st_app (i := 0) (ee_p (ev_tup (ea_cons ev_str (ea_cons ev_int ea_nil))))) (st_if (ete_p (et_or (et_test (ev_op rv_eq (ev_var 1) ev_str)) (et_B (ev_call (ea_cons (ev_var 1) ea_nil))))) (st_drop (ee_callM0 (eae_slot 0 eae_nil))) (st_ret (ee_p ev_bl))))))
      (st_ret (ee_p ev_bl))))))
theorem ok__law_fault {f : Addr} {fd : FuncData} (F : Fun K "_law_fault" "_law_fault" s__law_fault f fd) (Z : Zs mg) (Y : Ks K mg cls) (C__law_takes : Cal P w K mg base "_law_takes" ["_law_frames", "_law_word_here"] 3 (spM ⟨K, cls⟩ m__law_takes)) :
    FnOk P w K mg base CX0 4 f fd ["_law_words"] (spP ⟨K, cls⟩ m__law_fault) := by
  have nd := sc__law_fault.nd
  refine fn_P b__law_fault F sc__law_fault (n := 4) (kk := 1) rfl rfl (by decide) rfl (fun cdv A outer s0 H E hr => ?_)
  refine ⟨_, (pss_cons (ps_set (i := 1) nd rfl (by first | exact Or.inl rfl | exact Or.inr rfl) (pe_lst (pa_cons (pe_tup (pa_cons pe_str (pa_cons pe_int pa_nil))) pa_nil)))
      (pss_cons (ps_for PassesOwn.never rfl (pienum (K := K) rfl (by rfl) Z.z_enumerate (pa_cons (pv 0) pa_nil)) (pg_tup (by rfl) (pgs_cons (pg_name (i := 2) nd rfl (by first | exact Or.inl rfl | exact Or.inr rfl)) (pgs_cons (pg_name (i := 3) nd rfl (by first | exact Or.inl rfl | exact Or.inr rfl)) pgs_nil)))
      (pss_one (ps_if (pt_not (pt_val (pe_cal C__law_takes hr (by first | omega | exact Nat.le_refl _ | exact Nat.le_trans (by decide) (Nat.le_add_right _ _)) rfl (pa_cons (pv 1) (pa_cons (pv 3) pa_nil))))) (pss_one (ps_ret (pv 2))) pss_nil)))
      (pss_cons (ps_if (pt_cmpR (eq_q (K := K) rfl (units_of hr)) (pv 1) (pe_lst (pa_cons (pe_tup (pa_cons pe_str (pa_cons pe_int pa_nil))) pa_nil)) (nomark _)) (pss_one (ps_ret pe_non)) pss_nil)
      (pss_one (ps_ret (pe_callB (len_q (K := K) rfl) (by rfl) Z.z_len PySem.boot_len (pa_cons (pv 0) pa_nil))))))), ?_⟩
  exact (st_seq (st_setL (i := 1) (ele_p (el_lst (ea_cons (ev_tup (ea_cons ev_str (ea_cons ev_int ea_nil))) ea_nil))))
      (st_seq (st_for (ei_enum (ev_var 0)) (eg_tup (egs_cons (eg_name 2) (egs_cons (eg_name 3) egs_nil)))
      (st_if (ete_not (ete_B (ee_callM0 (eae_slot 1 (eae_cons (ee_p (ev_var 3)) eae_nil))))) (st_ret (ee_p (ev_var 2))) st_next))
      (st_seq (st_if (ete_p (et_lend 1 (et_test (ev_op rv_eqQ (ev_var 1) (el_d (el_lst (ea_cons (ev_tup (ea_cons ev_str (ea_cons ev_int ea_nil))) ea_nil))))))) (st_ret (ee_p ev_non)) st_next)
      (st_ret (ee_p (ev_lenL (eq_l (ev_var 0))))))))
theorem ok__law_refused {f : Addr} {fd : FuncData} (F : Fun K "_law_refused" "_law_refused" s__law_refused f fd) (Z : Zs mg) (Y : Ks K mg cls) (C_read_writing : CalX P w K mg base "read_writing" ["text"] 204 (spX ⟨K, cls⟩ m_read_writing)) :
    FnOk P w K mg base CX0 205 f fd ["_law_text"] (spP ⟨K, cls⟩ m__law_refused) := by
  have nd := sc__law_refused.nd
  refine fn_P b__law_refused F sc__law_refused (n := 5) (kk := 1) rfl rfl (by decide) rfl (fun cdv A outer s0 H E hr => ?_)
  refine ⟨_, (pss_cons (ps_set (i := 1) nd rfl (by first | exact Or.inl rfl | exact Or.inr rfl) pe_non)
      (pss_cons (ps_set (i := 2) nd rfl (by first | exact Or.inl rfl | exact Or.inr rfl) pe_non)
      (pss_tryhold (i := 2) (j := 3) (ic := 1) rfl rfl nd rfl (by first | exact Or.inl rfl | exact Or.inr rfl) rfl rfl rfl rfl (by first | exact Or.inl rfl | exact Or.inr rfl) rfl (by first | exact Or.inl rfl | exact Or.inr (Or.inl rfl)) ⟨rfl, by decide, .inl Y.kg_FigureError⟩ C_read_writing hr (by first | omega | exact Nat.le_refl _ | exact Nat.le_trans (by decide) (Nat.le_add_right _ _)) rfl (fun W pn xe => (pa_cons (pv 0) pa_nil)) (pss_ifT (pt_cmpR op_isN (pv 1) pe_non (nomark _)) (pss_one (ps_ret (pe_ix (ixl (K := K) rfl) (pe_lst (pa_cons pe_non (pa_cons (pe_un un_neg pe_int) pa_nil))) (pe_callTy call_int1 (by rfl) Z.z_int (by decide +kernel) (pa_cons (pe_not (pe_callB (isi_q (K := K) rfl) (by rfl) Z.z_isinstance PyProof.Rows.boot_isinstance (pa_cons (pv 2) (pa_cons (pe_bltn (v := .ty "tuple") (by rfl) Z.z_tuple (by decide +kernel) rfl) pa_nil)))) pa_nil)) (fun _ _ => rfl))))) (fun ad dd oe od cls0 fs0 pn hz hf ho => pss_ifF (pt_cmp (pc_isN (pv 1))) (pss_cons (ps_set (i := 4) nd rfl (by first | exact Or.inl rfl | exact Or.inr rfl) (pe_or (pe_callB (call_isEK hz hf) (by rfl) Z.z_isinstance PyProof.Rows.boot_isinstance (pa_cons (pv 1) (pa_cons (pe_glob (v := .ref (cls "NoClass")) rfl Y.kg_NoClass rfl) pa_nil))) (pe_or (pe_callB (call_isEK hz hf) (by rfl) Z.z_isinstance PyProof.Rows.boot_isinstance (pa_cons (pv 1) (pa_cons (pe_glob (v := .ref (cls "NoLine")) rfl Y.kg_NoLine rfl) pa_nil))) (pe_one (pe_callB (call_isEK hz hf) (by rfl) Z.z_isinstance PyProof.Rows.boot_isinstance (pa_cons (pv 1) (pa_cons (pe_glob (v := .ref (cls "NoFit")) rfl Y.kg_NoFit rfl) pa_nil)))))))
      (pss_cons (ps_if (PW.pt (pw_or (pt_not (pt_val (pe_callB (call_isEK hz hf) (by rfl) Z.z_isinstance PyProof.Rows.boot_isinstance (pa_cons (pv 1) (pa_cons (pe_glob (v := .ref (cls "NoText")) rfl Y.kg_NoText rfl) pa_nil))))) (pw_or (pt_not (pt_val (pe_callB (call_isEK hz hf) (by rfl) Z.z_isinstance PyProof.Rows.boot_isinstance (pa_cons (pv 1) (pa_cons (pe_bltn (v := .ty "ValueError") (by rfl) Z.z_ValueError (by decide +kernel) rfl) pa_nil))))) (pw_or1 (pt_val (pv 4)))))) (pss_one (ps_ret (pe_un un_neg pe_int))) pss_nil)
      (pss_cons (ps_if (PW.pt (pw_or (pt_not (pt_val (pe_callB (isi_q (K := K) rfl) (by rfl) Z.z_isinstance PyProof.Rows.boot_isinstance (pa_cons (pe_xfK hz hf ho (pv 1)) (pa_cons (pe_bltn (v := .ty "int") (by rfl) Z.z_int (by decide +kernel) rfl) pa_nil))))) (pw_or1 (pt_val (pe_callB (isi_q (K := K) rfl) (by rfl) Z.z_isinstance PyProof.Rows.boot_isinstance (pa_cons (pe_xfK hz hf ho (pv 1)) (pa_cons (pe_bltn (v := .ty "bool") (by rfl) Z.z_bool (by decide +kernel) rfl) pa_nil))))))) (pss_one (ps_ret (pe_un un_neg pe_int))) pss_nil)
      (pss_one (ps_ret (pe_xfK hz hf ho (pv 1))))))))))), ?_⟩
  exact (st_seq (st_set (i := 1) (ee_p ev_non))
      (st_seq (st_set (i := 2) (ee_p ev_non))
      (st_hold (i := 2) (j := 3) (ic := 1) (caught := ["NoText"]) (List.forall_mem_cons.mpr ⟨Y.kx_NoText_FigureError, fun _ h => nomatch h⟩) (ea_cons (ev_var 0) ea_nil) (st_ifT (et_test (ev_op rv_isN (ev_var 1) ev_non)) (st_ret (ee_p (ev_ixL (eq_n (el_lst (ea_cons ev_non (ea_cons (ev_un ru_neg ev_int) ea_nil)))) (ev_callB rc_int1 (ea_cons (ev_notV (ev_callB rc_isi (ea_cons (ev_var 2) (ea_cons ev_ty ea_nil)))) ea_nil)))))) (fun xq ad gs0 F0 hm rf => st_ifA (i := 1) (st_seq (st_set (i := 4) (ee_p (ev_orV (ev_isE (tbl := [("NoText", false)]) (dc := .cls "NoClass") (cv := .ref (cls "NoClass")) (fun _ _ r u ru => by cases r; exact ru) (List.forall_mem_cons.mpr ⟨⟨Y.ke_NoText, Y.kk_NoText_NoClass⟩, fun _ h => nomatch h⟩) (ev_cls (e := ⟨K, cls⟩) (c := "NoClass"))) (ev_orV (ev_isE (tbl := [("NoText", false)]) (dc := .cls "NoLine") (cv := .ref (cls "NoLine")) (fun _ _ r u ru => by cases r; exact ru) (List.forall_mem_cons.mpr ⟨⟨Y.ke_NoText, Y.kk_NoText_NoLine⟩, fun _ h => nomatch h⟩) (ev_cls (e := ⟨K, cls⟩) (c := "NoLine"))) (ev_isE (tbl := [("NoText", false)]) (dc := .cls "NoFit") (cv := .ref (cls "NoFit")) (fun _ _ r u ru => by cases r; exact ru) (List.forall_mem_cons.mpr ⟨⟨Y.ke_NoText, Y.kk_NoText_NoFit⟩, fun _ h => nomatch h⟩) (ev_cls (e := ⟨K, cls⟩) (c := "NoFit")))))))
      (st_seq (st_if (ete_p (et_or (et_not (et_B (ev_isE (tbl := [("NoText", true)]) (dc := .cls "NoText") (cv := .ref (cls "NoText")) (fun _ _ r u ru => by cases r; exact ru) (List.forall_mem_cons.mpr ⟨⟨Y.ke_NoText, Y.kk_NoText_NoText⟩, fun _ h => nomatch h⟩) (ev_cls (e := ⟨K, cls⟩) (c := "NoText"))))) (et_or (et_not (et_B (ev_isE (tbl := [("NoText", true)]) (dc := .ty "ValueError") (cv := .type "ValueError") (fun _ _ r u ru => by cases r; exact ru) (List.forall_mem_cons.mpr ⟨⟨Y.ke_NoText, Y.kv_NoText_ValueError⟩, fun _ h => nomatch h⟩) ev_ty))) (et_B (ev_var 4))))) (st_ret (ee_p (ev_un ru_neg ev_int))) st_next)
      (st_seq (st_if (ete_p (et_or (et_not (et_B (ev_callB rc_isi (ea_cons (ev_xfE rf ((List.forall_mem_cons.mpr ⟨Y.kf_NoText, fun _ h => nomatch h⟩ : ∀ nm ∈ (["NoText"] : List String), XfC K (cls nm)) _ hm) ((List.forall_mem_cons.mpr ⟨Y.kh_NoText_at, fun _ h => nomatch h⟩ : ∀ nm ∈ (["NoText"] : List String), PySem.W.findIn K (.ref (cls nm)) "at" = some none) _ hm)) (ea_cons ev_ty ea_nil))))) (et_B (ev_callB rc_isi (ea_cons (ev_xfE rf ((List.forall_mem_cons.mpr ⟨Y.kf_NoText, fun _ h => nomatch h⟩ : ∀ nm ∈ (["NoText"] : List String), XfC K (cls nm)) _ hm) ((List.forall_mem_cons.mpr ⟨Y.kh_NoText_at, fun _ h => nomatch h⟩ : ∀ nm ∈ (["NoText"] : List String), PySem.W.findIn K (.ref (cls nm)) "at" = some none) _ hm)) (ea_cons ev_ty ea_nil)))))) (st_ret (ee_p (ev_un ru_neg ev_int))) st_next)
      (st_ret (ee_p (ev_xfE rf ((List.forall_mem_cons.mpr ⟨Y.kf_NoText, fun _ h => nomatch h⟩ : ∀ nm ∈ (["NoText"] : List String), XfC K (cls nm)) _ hm) ((List.forall_mem_cons.mpr ⟨Y.kh_NoText_at, fun _ h => nomatch h⟩ : ∀ nm ∈ (["NoText"] : List String), PySem.W.findIn K (.ref (cls nm)) "at" = some none) _ hm)))))))))))
theorem ok__law_mixed {f : Addr} {fd : FuncData} (F : Fun K "_law_mixed" "_law_mixed" s__law_mixed f fd) (Z : Zs mg) (Y : Ks K mg cls) (C__law_cell : Cal P w K mg base "_law_cell" ["_law_script", "_law_k"] 1 (spP ⟨K, cls⟩ m__law_cell)) :
    FnOk P w K mg base CX0 2 f fd ["_law_script", "_law_few"] (spL ⟨K, cls⟩ m__law_mixed) := by
  have nd := sc__law_mixed.nd
  refine fn_L b__law_mixed F sc__law_mixed (n := 7) (kk := 2) rfl rfl (by decide) rfl (fun cdv A outer s0 H E hr => ?_)
  refine ⟨_, (pss_cons (ps_set (i := 2) nd rfl (by first | exact Or.inl rfl | exact Or.inr rfl) (pe_callB (call_max2 rfl) (by rfl) Z.z_max PyProof.Rows.boot_max (pa_cons (pv 1) (pa_cons (pe_callB (call_min2 rfl) (by rfl) Z.z_min PyProof.Rows.boot_min (pa_cons pe_int (pa_cons (pe_callB (len_q (K := K) rfl) (by rfl) Z.z_len PySem.boot_len (pa_cons (pv 0) pa_nil)) pa_nil))) pa_nil))))
      (pss_cons (ps_set (i := 3) nd rfl (by first | exact Or.inl rfl | exact Or.inr rfl) (pe_cmpR op_eq (pe_op op_mod (pe_cal C__law_cell hr (by first | omega | exact Nat.le_refl _ | exact Nat.le_trans (by decide) (Nat.le_add_right _ _)) rfl (pa_cons (pv 0) (pa_cons pe_int pa_nil))) pe_int) pe_int (nomark _)))
      (pss_cons (ps_set (i := 4) nd rfl (by first | exact Or.inl rfl | exact Or.inr rfl) (pe_lst pa_nil))
      (pss_cons (ps_for PassesOwn.never rfl (pi_range1 (by rfl) Z.z_range (pa_cons (pv 2) pa_nil)) (pg_name (i := 5) nd rfl (by first | exact Or.inl rfl | exact Or.inr rfl))
      (pss_cons (ps_set (i := 6) nd rfl (by first | exact Or.inl rfl | exact Or.inr rfl) (pe_op op_fdiv (pe_cal C__law_cell hr (by first | omega | exact Nat.le_refl _ | exact Nat.le_trans (by decide) (Nat.le_add_right _ _)) rfl (pa_cons (pv 0) (pa_cons (pv 5) pa_nil))) (pe_op op_add pe_int (pe_callTy call_int1 (by rfl) Z.z_int (by decide +kernel) (pa_cons (pe_cmpR op_eq (pv 5) pe_int (nomark _)) pa_nil)))))
      (pss_cons (ps_if (PW.pt (pw_or (pt_not (pt_val (pv 3))) (pw_or1 (pt_cmpR op_ge (pv 5) (pe_callB (len_q (K := K) rfl) (by rfl) Z.z_len PySem.boot_len (pa_cons (pv 0) pa_nil)) (nomark _))))) (pss_cons (ps_set (i := 6) nd rfl (by first | exact Or.inl rfl | exact Or.inr rfl) (pe_op op_mod (pe_op op_mul (pe_op op_add (pe_op op_mod (pv 6) (pe_op op_pow pe_int pe_int)) (pe_op op_mul pe_int (pv 5))) pe_int) pe_int))
      (pss_one (ps_set (i := 6) nd rfl (by first | exact Or.inl rfl | exact Or.inr rfl) (pe_op op_mod (pe_op op_mul (pv 6) pe_int) pe_int)))) pss_nil)
      (pss_one (ps_expr (pe_bm PySem.F.plainAttrs_list PySem.F.slot_list_append PySem.F.type_list_append mt_append (pv 4) (pa_cons (pv 6) pa_nil)))))))
      (pss_one (ps_ret (pv 4))))))), ?_⟩
  exact (st_seq (st_set (i := 2) (ee_p (ev_callB rc_max2 (ea_cons (ev_var 1) (ea_cons (ev_callB rc_min2 (ea_cons ev_int (ea_cons (ev_lenL (eq_l (ev_var 0))) ea_nil))) ea_nil)))))
      (st_seq (st_set (i := 3) (ee_p (ev_op rv_eq (ev_op rv_mod (ev_call (ea_cons (ev_var 0) (ea_cons ev_int ea_nil))) ev_int) ev_int)))
      (st_seq (st_setL (i := 4) (ele_p (el_lst ea_nil)))
      (st_seq (st_for (ei_rng1 (ea_cons (ev_var 2) ea_nil)) (eg_name 5)
      (st_seq (st_set (i := 6) (ee_p (ev_op rv_div (ev_call (ea_cons (ev_var 0) (ea_cons (ev_var 5) ea_nil))) (ev_op rv_add ev_int (ev_callB rc_int1 (ea_cons (ev_op rv_eq (ev_var 5) ev_int) ea_nil))))))
      (st_seq (st_if (ete_p (et_or (et_not (et_B (ev_var 3))) (et_test (ev_op rv_ge (ev_var 5) (ev_lenL (eq_l (ev_var 0))))))) (st_seq (st_set (i := 6) (ee_p (ev_op rv_mod (ev_op rv_mul (ev_op rv_add (ev_op rv_mod (ev_var 6) (ev_op rv_pow ev_int ev_int)) (ev_op rv_mul ev_int (ev_var 5))) ev_int) ev_int)))
      (st_set (i := 6) (ee_p (ev_op rv_mod (ev_op rv_mul (ev_var 6) ev_int) ev_int)))) st_next)
      (st_app (i := 4) (ee_p (ev_var 6))))))
      (st_retO 4)))))
theorem ok_law {f : Addr} {fd : FuncData} (F : Fun K "law" "law" s_law f fd) (Z : Zs mg) (Y : Ks K mg cls) (C__law_cell : Cal P w K mg base "_law_cell" ["_law_script", "_law_k"] 1 (spP ⟨K, cls⟩ m__law_cell)) (C__law_changed : Cal P w K mg base "_law_changed" ["_law_words", "_law_cell_here"] 4 (spP ⟨K, cls⟩ m__law_changed)) (C__law_fault : Cal P w K mg base "_law_fault" ["_law_words"] 4 (spP ⟨K, cls⟩ m__law_fault)) (C__law_mixed : Cal P w K mg base "_law_mixed" ["_law_script", "_law_few"] 2 (spL ⟨K, cls⟩ m__law_mixed)) (C__law_refused : Cal P w K mg base "_law_refused" ["_law_text"] 205 (spP ⟨K, cls⟩ m__law_refused)) (C__law_writing : Cal P w K mg base "_law_writing" ["_law_cells"] 4 (spP ⟨K, cls⟩ m__law_writing)) (C__law_written : Cal P w K mg base "_law_written" ["_law_figure"] 100 (spP ⟨K, cls⟩ m__law_written)) :
    FnOk P w K mg base CX0 206 f fd ["_law_script"] (spP ⟨K, cls⟩ m_law) := by
  have nd := sc_law.nd
  refine fn_P b_law F sc_law (n := 5) (kk := 1) rfl rfl (by decide) rfl (fun cdv A outer s0 H E hr => ?_)
  refine ⟨_, (pss_cons (ps_set (i := 0) nd rfl (by first | exact Or.inl rfl | exact Or.inr rfl) (pe_cal C__law_mixed hr (by first | omega | exact Nat.le_refl _ | exact Nat.le_trans (by decide) (Nat.le_add_right _ _)) rfl (pa_cons (pv 0) (pa_cons pe_int pa_nil))))
      (pss_cons (ps_set (i := 1) nd rfl (by first | exact Or.inl rfl | exact Or.inr rfl) (pe_split (pe_cal C__law_written hr (by first | omega | exact Nat.le_refl _ | exact Nat.le_trans (by decide) (Nat.le_add_right _ _)) rfl (pa_cons (pe_cal C__law_writing hr (by first | omega | exact Nat.le_refl _ | exact Nat.le_trans (by decide) (Nat.le_add_right _ _)) rfl (pa_cons (pe_slice (sll (K := K) rfl) (pv 0) (po_some pe_int) (po_some pe_int)) pa_nil)) pa_nil)) pe_str))
      (pss_cons (ps_if (pt_cmpR op_eq (pe_op op_mod (pe_cal C__law_cell hr (by first | omega | exact Nat.le_refl _ | exact Nat.le_trans (by decide) (Nat.le_add_right _ _)) rfl (pa_cons (pv 0) (pa_cons pe_int pa_nil))) pe_int) pe_int (nomark _)) (pss_cons (ps_set (i := 2) nd rfl (by first | exact Or.inl rfl | exact Or.inr rfl) (pe_ix (ixl (K := K) rfl) (pe_lst (pa_cons pe_str (pa_cons pe_str (pa_cons pe_str (pa_cons pe_str (pa_cons pe_str (pa_cons pe_str pa_nil))))))) (pe_op op_mod (pe_op op_fdiv (pe_cal C__law_cell hr (by first | omega | exact Nat.le_refl _ | exact Nat.le_trans (by decide) (Nat.le_add_right _ _)) rfl (pa_cons (pv 0) (pa_cons pe_int pa_nil))) pe_int) pe_int) (fun _ _ => rfl)))
      (pss_one (ps_set (i := 1) nd rfl (by first | exact Or.inl rfl | exact Or.inr rfl) (pe_op (cat_q (K := K) rfl) (pe_op op_rep (pe_lst (pa_cons (pv 2) pa_nil)) (pe_op op_mod (pe_cal C__law_cell hr (by first | omega | exact Nat.le_refl _ | exact Nat.le_trans (by decide) (Nat.le_add_right _ _)) rfl (pa_cons (pv 0) (pa_cons pe_int pa_nil))) pe_int)) (pv 1))))) pss_nil)
      (pss_cons (ps_for PassesOwn.never rfl (pi_range1 (by rfl) Z.z_range (pa_cons (pe_op op_mod (pe_op op_fdiv (pe_cal C__law_cell hr (by first | omega | exact Nat.le_refl _ | exact Nat.le_trans (by decide) (Nat.le_add_right _ _)) rfl (pa_cons (pv 0) (pa_cons pe_int pa_nil))) pe_int) pe_int) pa_nil)) (pg_name (i := 3) nd rfl (by first | exact Or.inl rfl | exact Or.inr rfl))
      (pss_one (ps_set (i := 1) nd rfl (by first | exact Or.inl rfl | exact Or.inr rfl) (pe_cal C__law_changed hr (by first | omega | exact Nat.le_refl _ | exact Nat.le_trans (by decide) (Nat.le_add_right _ _)) rfl (pa_cons (pv 1) (pa_cons (pe_op op_mod (pe_cal C__law_cell hr (by first | omega | exact Nat.le_refl _ | exact Nat.le_trans (by decide) (Nat.le_add_right _ _)) rfl (pa_cons (pv 0) (pa_cons (pe_op op_add pe_int (pv 3)) pa_nil))) (pe_op op_pow pe_int pe_int)) pa_nil))))))
      (pss_cons (ps_set (i := 4) nd rfl (by first | exact Or.inl rfl | exact Or.inr rfl) (pe_joinK (K := K) rfl pe_str (pv 1)))
      (pss_one (ps_ret (pe_cmpR op_eq (pe_cal C__law_refused hr (by first | omega | exact Nat.le_refl _ | exact Nat.le_trans (by decide) (Nat.le_add_right _ _)) rfl (pa_cons (pv 4) pa_nil)) (pe_cal C__law_fault hr (by first | omega | exact Nat.le_refl _ | exact Nat.le_trans (by decide) (Nat.le_add_right _ _)) rfl (pa_cons (pe_split (pv 4) pe_str) pa_nil)) (nomark _))))))))), ?_⟩
  exact (st_seq (st_set (i := 0) (ee_p (el_d (el_call (ea_cons (ev_var 0) (ea_cons ev_int ea_nil))))))
      (st_seq (st_set (i := 1) (ee_p (el_d (el_split (ev_call (ea_cons (ev_call (ea_cons (el_d (el_slL (eq_l (ev_var 0)) (eo_some ev_int) (eo_some ev_int))) ea_nil)) ea_nil)) ev_str))))
      (st_seq (st_if (ete_p (et_test (ev_op rv_eq (ev_op rv_mod (ev_call (ea_cons (ev_var 0) (ea_cons ev_int ea_nil))) ev_int) ev_int))) (st_seq (st_set (i := 2) (ee_p (ev_ixL (eq_n (el_lst (ea_cons ev_str (ea_cons ev_str (ea_cons ev_str (ea_cons ev_str (ea_cons ev_str (ea_cons ev_str ea_nil)))))))) (ev_op rv_mod (ev_op rv_div (ev_call (ea_cons (ev_var 0) (ea_cons ev_int ea_nil))) ev_int) ev_int))))
      (st_set (i := 1) (ee_p (el_d (el_cat (eq_n (el_rep (el_lst (ea_cons (ev_var 2) ea_nil)) (ev_op rv_mod (ev_call (ea_cons (ev_var 0) (ea_cons ev_int ea_nil))) ev_int))) (eq_l (ev_var 1))))))) st_next)
      (st_seq (st_for (ei_rng1 (ea_cons (ev_op rv_mod (ev_op rv_div (ev_call (ea_cons (ev_var 0) (ea_cons ev_int ea_nil))) ev_int) ev_int) ea_nil)) (eg_name 3)
      (st_set (i := 1) (ee_p (ev_call (ea_cons (ev_var 1) (ea_cons (ev_op rv_mod (ev_call (ea_cons (ev_var 0) (ea_cons (ev_op rv_add ev_int (ev_var 3)) ea_nil))) (ev_op rv_pow ev_int ev_int)) ea_nil))))))
      (st_seq (st_set (i := 4) (ee_p (ev_joinL rfl ev_str (eq_l (ev_var 1)))))
      (st_ret (ee_p (ev_op rv_eq (ev_call (ea_cons (ev_var 4) ea_nil)) (ev_call (ea_cons (el_d (el_split (ev_var 4) ev_str)) ea_nil))))))))))
end
theorem all_mk {l : PySem.W.OpenLaw} {w : World} {K : PySem.W.Frag} {h : Heap} {mg : Str → Option Value} {fa : Addr} (X : K.In h) (G : h.Ns mainGlobals mg) (hfa : mg "law" = some (.ref fa))
    {od_is_word an_is_word od_Words___init__ an_Words___init__ od_Words_ahead an_Words_ahead od_Words_takes an_Words_takes od_Words_need an_Words_need od_Words_word an_Words_word od_Words_end an_Words_end od_parts_up_to an_parts_up_to od_whole_writing an_whole_writing od_read_writing an_read_writing od__law_cell an__law_cell od__law_kept an__law_kept od__law_word an__law_word od__law_is_word an__law_is_word od__law_pile an__law_pile od__law_writing an__law_writing od__law_written an__law_written od__law_new_word an__law_new_word od__law_changed an__law_changed od__law_done an__law_done od__law_takes an__law_takes od__law_fault an__law_fault od__law_refused an__law_refused od__law_mixed an__law_mixed od_law an_law : Option Addr} {sl_is_word sl_Words___init__ sl_Words_ahead sl_Words_takes sl_Words_need sl_Words_word sl_Words_end sl_parts_up_to sl_whole_writing sl_read_writing sl__law_cell sl__law_kept sl__law_word sl__law_is_word sl__law_pile sl__law_writing sl__law_written sl__law_new_word sl__law_changed sl__law_done sl__law_takes sl__law_fault sl__law_refused sl__law_mixed sl_law : Array (Option Value)} {oc_is_word kV_is_word dc_is_word pm_is_word cd_is_word ct_is_word oc_Words___init__ kV_Words___init__ dc_Words___init__ pm_Words___init__ cd_Words___init__ ct_Words___init__ oc_Words_ahead kV_Words_ahead dc_Words_ahead pm_Words_ahead cd_Words_ahead ct_Words_ahead oc_Words_takes kV_Words_takes dc_Words_takes pm_Words_takes cd_Words_takes ct_Words_takes oc_Words_need kV_Words_need dc_Words_need pm_Words_need cd_Words_need ct_Words_need oc_Words_word kV_Words_word dc_Words_word pm_Words_word cd_Words_word ct_Words_word oc_Words_end kV_Words_end dc_Words_end pm_Words_end cd_Words_end ct_Words_end oc_parts_up_to kV_parts_up_to dc_parts_up_to pm_parts_up_to cd_parts_up_to ct_parts_up_to oc_whole_writing kV_whole_writing dc_whole_writing pm_whole_writing cd_whole_writing ct_whole_writing oc_read_writing kV_read_writing dc_read_writing pm_read_writing cd_read_writing ct_read_writing oc__law_cell kV__law_cell dc__law_cell pm__law_cell cd__law_cell ct__law_cell oc__law_kept kV__law_kept dc__law_kept pm__law_kept cd__law_kept ct__law_kept oc__law_word kV__law_word dc__law_word pm__law_word cd__law_word ct__law_word oc__law_is_word kV__law_is_word dc__law_is_word pm__law_is_word cd__law_is_word ct__law_is_word oc__law_pile kV__law_pile dc__law_pile pm__law_pile cd__law_pile ct__law_pile oc__law_writing kV__law_writing dc__law_writing pm__law_writing cd__law_writing ct__law_writing oc__law_written kV__law_written dc__law_written pm__law_written cd__law_written ct__law_written oc__law_new_word kV__law_new_word dc__law_new_word pm__law_new_word cd__law_new_word ct__law_new_word oc__law_changed kV__law_changed dc__law_changed pm__law_changed cd__law_changed ct__law_changed oc__law_done kV__law_done dc__law_done pm__law_done cd__law_done ct__law_done oc__law_takes kV__law_takes dc__law_takes pm__law_takes cd__law_takes ct__law_takes oc__law_fault kV__law_fault dc__law_fault pm__law_fault cd__law_fault ct__law_fault oc__law_refused kV__law_refused dc__law_refused pm__law_refused cd__law_refused ct__law_refused oc__law_mixed kV__law_mixed dc__law_mixed pm__law_mixed cd__law_mixed ct__law_mixed oc_law kV_law dc_law pm_law cd_law ct_law : Value} {f_is_word f_Words___init__ f_Words_ahead f_Words_takes f_Words_need f_Words_word f_Words_end f_parts_up_to f_whole_writing f_read_writing f__law_cell f__law_kept f__law_word f__law_is_word f__law_pile f__law_writing f__law_written f__law_new_word f__law_changed f__law_done f__law_takes f__law_fault f__law_refused f__law_mixed f_law q_FigureError q_NoClass q_NoFit q_NoLine q_NoText q_Words : Addr} {xnm_NoText xq_NoText : Str} {xN_NoText : Addr} {xbs_NoText : List Value} {xsn_NoText : List Str} {xsub_NoText : List Value} {xab_NoText : Bool} {xcol_NoText : Option Bool} {xdd_NoText : Option Addr} {xm0_NoText xm1_NoText xm2_NoText xm3_NoText xm5_NoText : Option Value} {xod_NoText xan_NoText : Option Addr} {xsl_NoText : Array (Option Value)} {xoc_NoText xkV_NoText xdc_NoText xpm_NoText xcd_NoText xct_NoText : Value} {xf_NoText : Addr} {q_BEGINS : Addr} {o_BEGINS : Obj} {t_BEGINS_0 : Tok} {t_BEGINS_1 : Tok} {t_BEGINS_2 : Tok} {t_BEGINS_3 : Tok} {q_ENDS : Addr} {o_ENDS : Obj} {t_ENDS_0 : Tok} {t_ENDS_1 : Tok} {t_ENDS_2 : Tok} {t_ENDS_3 : Tok} {q_KEPT : Addr} {o_KEPT : Obj} {q_LETTERS : Tok}
    (a_is_word : PySem.W.nsIn K mainGlobals "is_word" = some (some (.ref f_is_word)))
    (a_parts_up_to : PySem.W.nsIn K mainGlobals "parts_up_to" = some (some (.ref f_parts_up_to)))
    (a_whole_writing : PySem.W.nsIn K mainGlobals "whole_writing" = some (some (.ref f_whole_writing)))
    (a_read_writing : PySem.W.nsIn K mainGlobals "read_writing" = some (some (.ref f_read_writing)))
    (a__law_cell : PySem.W.nsIn K mainGlobals "_law_cell" = some (some (.ref f__law_cell)))
    (a__law_kept : PySem.W.nsIn K mainGlobals "_law_kept" = some (some (.ref f__law_kept)))
    (a__law_word : PySem.W.nsIn K mainGlobals "_law_word" = some (some (.ref f__law_word)))
    (a__law_is_word : PySem.W.nsIn K mainGlobals "_law_is_word" = some (some (.ref f__law_is_word)))
    (a__law_pile : PySem.W.nsIn K mainGlobals "_law_pile" = some (some (.ref f__law_pile)))
    (a__law_writing : PySem.W.nsIn K mainGlobals "_law_writing" = some (some (.ref f__law_writing)))
    (a__law_written : PySem.W.nsIn K mainGlobals "_law_written" = some (some (.ref f__law_written)))
    (a__law_new_word : PySem.W.nsIn K mainGlobals "_law_new_word" = some (some (.ref f__law_new_word)))
    (a__law_changed : PySem.W.nsIn K mainGlobals "_law_changed" = some (some (.ref f__law_changed)))
    (a__law_done : PySem.W.nsIn K mainGlobals "_law_done" = some (some (.ref f__law_done)))
    (a__law_takes : PySem.W.nsIn K mainGlobals "_law_takes" = some (some (.ref f__law_takes)))
    (a__law_fault : PySem.W.nsIn K mainGlobals "_law_fault" = some (some (.ref f__law_fault)))
    (a__law_refused : PySem.W.nsIn K mainGlobals "_law_refused" = some (some (.ref f__law_refused)))
    (a__law_mixed : PySem.W.nsIn K mainGlobals "_law_mixed" = some (some (.ref f__law_mixed)))
    (a_law : PySem.W.nsIn K mainGlobals "law" = some (some (.ref f_law)))
    (qa_FigureError : PySem.W.nsIn K mainGlobals "FigureError" = some (some (.ref q_FigureError)))
    (qa_NoClass : PySem.W.nsIn K mainGlobals "NoClass" = some (some (.ref q_NoClass)))
    (qa_NoFit : PySem.W.nsIn K mainGlobals "NoFit" = some (some (.ref q_NoFit)))
    (qa_NoLine : PySem.W.nsIn K mainGlobals "NoLine" = some (some (.ref q_NoLine)))
    (qa_NoText : PySem.W.nsIn K mainGlobals "NoText" = some (some (.ref q_NoText)))
    (qa_Words : PySem.W.nsIn K mainGlobals "Words" = some (some (.ref q_Words)))
    (ma_Words_ahead : PySem.W.findIn K (.ref q_Words) "ahead" = some (some (.ref f_Words_ahead)))
    (ma_Words_end : PySem.W.findIn K (.ref q_Words) "end" = some (some (.ref f_Words_end)))
    (ma_Words_need : PySem.W.findIn K (.ref q_Words) "need" = some (some (.ref f_Words_need)))
    (ma_Words_takes : PySem.W.findIn K (.ref q_Words) "takes" = some (some (.ref f_Words_takes)))
    (ma_Words_word : PySem.W.findIn K (.ref q_Words) "word" = some (some (.ref f_Words_word)))
    (ia_Words : PySem.W.findIn K (.ref q_Words) "__init__" = some (some (.ref f_Words___init__)))
    (l_is_word : K.lookup f_is_word = some ⟨oc_is_word, od_is_word, .func (PySem.W.fnOf "is_word" "is_word" (defArgs s_is_word) (defBody s_is_word) (defScope s_is_word) .none kV_is_word dc_is_word pm_is_word an_is_word cd_is_word ct_is_word), sl_is_word⟩)
    (c_is_word : PySem.W.codeIn K cd_is_word "is_word" = true)
    (k_is_word : PySem.W.keepIn K (.ref f_is_word) = true)
    (l_Words___init__ : K.lookup f_Words___init__ = some ⟨oc_Words___init__, od_Words___init__, .func (PySem.W.fnOf "__init__" "Words.__init__" (defArgs s_Words___init__) (defBody s_Words___init__) (defScope s_Words___init__) .none kV_Words___init__ dc_Words___init__ pm_Words___init__ an_Words___init__ cd_Words___init__ ct_Words___init__), sl_Words___init__⟩)
    (c_Words___init__ : PySem.W.codeIn K cd_Words___init__ "Words.__init__" = true)
    (k_Words___init__ : PySem.W.keepIn K (.ref f_Words___init__) = true)
    (i_Words___init__ : PySem.W.isFn K (.ref f_Words___init__) = true)
    (l_Words_ahead : K.lookup f_Words_ahead = some ⟨oc_Words_ahead, od_Words_ahead, .func (PySem.W.fnOf "ahead" "Words.ahead" (defArgs s_Words_ahead) (defBody s_Words_ahead) (defScope s_Words_ahead) .none kV_Words_ahead dc_Words_ahead pm_Words_ahead an_Words_ahead cd_Words_ahead ct_Words_ahead), sl_Words_ahead⟩)
    (c_Words_ahead : PySem.W.codeIn K cd_Words_ahead "Words.ahead" = true)
    (k_Words_ahead : PySem.W.keepIn K (.ref f_Words_ahead) = true)
    (i_Words_ahead : PySem.W.isFn K (.ref f_Words_ahead) = true)
    (l_Words_takes : K.lookup f_Words_takes = some ⟨oc_Words_takes, od_Words_takes, .func (PySem.W.fnOf "takes" "Words.takes" (defArgs s_Words_takes) (defBody s_Words_takes) (defScope s_Words_takes) .none kV_Words_takes dc_Words_takes pm_Words_takes an_Words_takes cd_Words_takes ct_Words_takes), sl_Words_takes⟩)
    (c_Words_takes : PySem.W.codeIn K cd_Words_takes "Words.takes" = true)
    (k_Words_takes : PySem.W.keepIn K (.ref f_Words_takes) = true)
    (i_Words_takes : PySem.W.isFn K (.ref f_Words_takes) = true)
    (l_Words_need : K.lookup f_Words_need = some ⟨oc_Words_need, od_Words_need, .func (PySem.W.fnOf "need" "Words.need" (defArgs s_Words_need) (defBody s_Words_need) (defScope s_Words_need) .none kV_Words_need dc_Words_need pm_Words_need an_Words_need cd_Words_need ct_Words_need), sl_Words_need⟩)
    (c_Words_need : PySem.W.codeIn K cd_Words_need "Words.need" = true)
    (k_Words_need : PySem.W.keepIn K (.ref f_Words_need) = true)
    (i_Words_need : PySem.W.isFn K (.ref f_Words_need) = true)
    (l_Words_word : K.lookup f_Words_word = some ⟨oc_Words_word, od_Words_word, .func (PySem.W.fnOf "word" "Words.word" (defArgs s_Words_word) (defBody s_Words_word) (defScope s_Words_word) .none kV_Words_word dc_Words_word pm_Words_word an_Words_word cd_Words_word ct_Words_word), sl_Words_word⟩)
    (c_Words_word : PySem.W.codeIn K cd_Words_word "Words.word" = true)
    (k_Words_word : PySem.W.keepIn K (.ref f_Words_word) = true)
    (i_Words_word : PySem.W.isFn K (.ref f_Words_word) = true)
    (l_Words_end : K.lookup f_Words_end = some ⟨oc_Words_end, od_Words_end, .func (PySem.W.fnOf "end" "Words.end" (defArgs s_Words_end) (defBody s_Words_end) (defScope s_Words_end) .none kV_Words_end dc_Words_end pm_Words_end an_Words_end cd_Words_end ct_Words_end), sl_Words_end⟩)
    (c_Words_end : PySem.W.codeIn K cd_Words_end "Words.end" = true)
    (k_Words_end : PySem.W.keepIn K (.ref f_Words_end) = true)
    (i_Words_end : PySem.W.isFn K (.ref f_Words_end) = true)
    (l_parts_up_to : K.lookup f_parts_up_to = some ⟨oc_parts_up_to, od_parts_up_to, .func (PySem.W.fnOf "parts_up_to" "parts_up_to" (defArgs s_parts_up_to) (defBody s_parts_up_to) (defScope s_parts_up_to) .none kV_parts_up_to dc_parts_up_to pm_parts_up_to an_parts_up_to cd_parts_up_to ct_parts_up_to), sl_parts_up_to⟩)
    (c_parts_up_to : PySem.W.codeIn K cd_parts_up_to "parts_up_to" = true)
    (k_parts_up_to : PySem.W.keepIn K (.ref f_parts_up_to) = true)
    (l_whole_writing : K.lookup f_whole_writing = some ⟨oc_whole_writing, od_whole_writing, .func (PySem.W.fnOf "whole_writing" "whole_writing" (defArgs s_whole_writing) (defBody s_whole_writing) (defScope s_whole_writing) .none kV_whole_writing dc_whole_writing pm_whole_writing an_whole_writing cd_whole_writing ct_whole_writing), sl_whole_writing⟩)
    (c_whole_writing : PySem.W.codeIn K cd_whole_writing "whole_writing" = true)
    (k_whole_writing : PySem.W.keepIn K (.ref f_whole_writing) = true)
    (l_read_writing : K.lookup f_read_writing = some ⟨oc_read_writing, od_read_writing, .func (PySem.W.fnOf "read_writing" "read_writing" (defArgs s_read_writing) (defBody s_read_writing) (defScope s_read_writing) .none kV_read_writing dc_read_writing pm_read_writing an_read_writing cd_read_writing ct_read_writing), sl_read_writing⟩)
    (c_read_writing : PySem.W.codeIn K cd_read_writing "read_writing" = true)
    (k_read_writing : PySem.W.keepIn K (.ref f_read_writing) = true)
    (l__law_cell : K.lookup f__law_cell = some ⟨oc__law_cell, od__law_cell, .func (PySem.W.fnOf "_law_cell" "_law_cell" (defArgs s__law_cell) (defBody s__law_cell) (defScope s__law_cell) .none kV__law_cell dc__law_cell pm__law_cell an__law_cell cd__law_cell ct__law_cell), sl__law_cell⟩)
    (c__law_cell : PySem.W.codeIn K cd__law_cell "_law_cell" = true)
    (k__law_cell : PySem.W.keepIn K (.ref f__law_cell) = true)
    (l__law_kept : K.lookup f__law_kept = some ⟨oc__law_kept, od__law_kept, .func (PySem.W.fnOf "_law_kept" "_law_kept" (defArgs s__law_kept) (defBody s__law_kept) (defScope s__law_kept) .none kV__law_kept dc__law_kept pm__law_kept an__law_kept cd__law_kept ct__law_kept), sl__law_kept⟩)
    (c__law_kept : PySem.W.codeIn K cd__law_kept "_law_kept" = true)
    (k__law_kept : PySem.W.keepIn K (.ref f__law_kept) = true)
    (l__law_word : K.lookup f__law_word = some ⟨oc__law_word, od__law_word, .func (PySem.W.fnOf "_law_word" "_law_word" (defArgs s__law_word) (defBody s__law_word) (defScope s__law_word) .none kV__law_word dc__law_word pm__law_word an__law_word cd__law_word ct__law_word), sl__law_word⟩)
    (c__law_word : PySem.W.codeIn K cd__law_word "_law_word" = true)
    (k__law_word : PySem.W.keepIn K (.ref f__law_word) = true)
    (l__law_is_word : K.lookup f__law_is_word = some ⟨oc__law_is_word, od__law_is_word, .func (PySem.W.fnOf "_law_is_word" "_law_is_word" (defArgs s__law_is_word) (defBody s__law_is_word) (defScope s__law_is_word) .none kV__law_is_word dc__law_is_word pm__law_is_word an__law_is_word cd__law_is_word ct__law_is_word), sl__law_is_word⟩)
    (c__law_is_word : PySem.W.codeIn K cd__law_is_word "_law_is_word" = true)
    (k__law_is_word : PySem.W.keepIn K (.ref f__law_is_word) = true)
    (l__law_pile : K.lookup f__law_pile = some ⟨oc__law_pile, od__law_pile, .func (PySem.W.fnOf "_law_pile" "_law_pile" (defArgs s__law_pile) (defBody s__law_pile) (defScope s__law_pile) .none kV__law_pile dc__law_pile pm__law_pile an__law_pile cd__law_pile ct__law_pile), sl__law_pile⟩)
    (c__law_pile : PySem.W.codeIn K cd__law_pile "_law_pile" = true)
    (k__law_pile : PySem.W.keepIn K (.ref f__law_pile) = true)
    (l__law_writing : K.lookup f__law_writing = some ⟨oc__law_writing, od__law_writing, .func (PySem.W.fnOf "_law_writing" "_law_writing" (defArgs s__law_writing) (defBody s__law_writing) (defScope s__law_writing) .none kV__law_writing dc__law_writing pm__law_writing an__law_writing cd__law_writing ct__law_writing), sl__law_writing⟩)
    (c__law_writing : PySem.W.codeIn K cd__law_writing "_law_writing" = true)
    (k__law_writing : PySem.W.keepIn K (.ref f__law_writing) = true)
    (l__law_written : K.lookup f__law_written = some ⟨oc__law_written, od__law_written, .func (PySem.W.fnOf "_law_written" "_law_written" (defArgs s__law_written) (defBody s__law_written) (defScope s__law_written) .none kV__law_written dc__law_written pm__law_written an__law_written cd__law_written ct__law_written), sl__law_written⟩)
    (c__law_written : PySem.W.codeIn K cd__law_written "_law_written" = true)
    (k__law_written : PySem.W.keepIn K (.ref f__law_written) = true)
    (l__law_new_word : K.lookup f__law_new_word = some ⟨oc__law_new_word, od__law_new_word, .func (PySem.W.fnOf "_law_new_word" "_law_new_word" (defArgs s__law_new_word) (defBody s__law_new_word) (defScope s__law_new_word) .none kV__law_new_word dc__law_new_word pm__law_new_word an__law_new_word cd__law_new_word ct__law_new_word), sl__law_new_word⟩)
    (c__law_new_word : PySem.W.codeIn K cd__law_new_word "_law_new_word" = true)
    (k__law_new_word : PySem.W.keepIn K (.ref f__law_new_word) = true)
    (l__law_changed : K.lookup f__law_changed = some ⟨oc__law_changed, od__law_changed, .func (PySem.W.fnOf "_law_changed" "_law_changed" (defArgs s__law_changed) (defBody s__law_changed) (defScope s__law_changed) .none kV__law_changed dc__law_changed pm__law_changed an__law_changed cd__law_changed ct__law_changed), sl__law_changed⟩)
    (c__law_changed : PySem.W.codeIn K cd__law_changed "_law_changed" = true)
    (k__law_changed : PySem.W.keepIn K (.ref f__law_changed) = true)
    (l__law_done : K.lookup f__law_done = some ⟨oc__law_done, od__law_done, .func (PySem.W.fnOf "_law_done" "_law_done" (defArgs s__law_done) (defBody s__law_done) (defScope s__law_done) .none kV__law_done dc__law_done pm__law_done an__law_done cd__law_done ct__law_done), sl__law_done⟩)
    (c__law_done : PySem.W.codeIn K cd__law_done "_law_done" = true)
    (k__law_done : PySem.W.keepIn K (.ref f__law_done) = true)
    (l__law_takes : K.lookup f__law_takes = some ⟨oc__law_takes, od__law_takes, .func (PySem.W.fnOf "_law_takes" "_law_takes" (defArgs s__law_takes) (defBody s__law_takes) (defScope s__law_takes) .none kV__law_takes dc__law_takes pm__law_takes an__law_takes cd__law_takes ct__law_takes), sl__law_takes⟩)
    (c__law_takes : PySem.W.codeIn K cd__law_takes "_law_takes" = true)
    (k__law_takes : PySem.W.keepIn K (.ref f__law_takes) = true)
    (l__law_fault : K.lookup f__law_fault = some ⟨oc__law_fault, od__law_fault, .func (PySem.W.fnOf "_law_fault" "_law_fault" (defArgs s__law_fault) (defBody s__law_fault) (defScope s__law_fault) .none kV__law_fault dc__law_fault pm__law_fault an__law_fault cd__law_fault ct__law_fault), sl__law_fault⟩)
    (c__law_fault : PySem.W.codeIn K cd__law_fault "_law_fault" = true)
    (k__law_fault : PySem.W.keepIn K (.ref f__law_fault) = true)
    (l__law_refused : K.lookup f__law_refused = some ⟨oc__law_refused, od__law_refused, .func (PySem.W.fnOf "_law_refused" "_law_refused" (defArgs s__law_refused) (defBody s__law_refused) (defScope s__law_refused) .none kV__law_refused dc__law_refused pm__law_refused an__law_refused cd__law_refused ct__law_refused), sl__law_refused⟩)
    (c__law_refused : PySem.W.codeIn K cd__law_refused "_law_refused" = true)
    (k__law_refused : PySem.W.keepIn K (.ref f__law_refused) = true)
    (l__law_mixed : K.lookup f__law_mixed = some ⟨oc__law_mixed, od__law_mixed, .func (PySem.W.fnOf "_law_mixed" "_law_mixed" (defArgs s__law_mixed) (defBody s__law_mixed) (defScope s__law_mixed) .none kV__law_mixed dc__law_mixed pm__law_mixed an__law_mixed cd__law_mixed ct__law_mixed), sl__law_mixed⟩)
    (c__law_mixed : PySem.W.codeIn K cd__law_mixed "_law_mixed" = true)
    (k__law_mixed : PySem.W.keepIn K (.ref f__law_mixed) = true)
    (l_law : K.lookup f_law = some ⟨oc_law, od_law, .func (PySem.W.fnOf "law" "law" (defArgs s_law) (defBody s_law) (defScope s_law) .none kV_law dc_law pm_law an_law cd_law ct_law), sl_law⟩)
    (c_law : PySem.W.codeIn K cd_law "law" = true)
    (k_law : PySem.W.keepIn K (.ref f_law) = true)
    (mk_Words : PySem.W.makesIn K q_Words = true)
    (kk_Words : PySem.W.keepIn K (.ref q_Words) = true)
    (xrd_FigureError : PySem.W.readsIn K q_FigureError (.type "type") = true)
    (xga_FigureError : PySem.W.specialIn K (.ref q_FigureError) "__getattribute__" = some (some (.builtin "type.__getattribute__")))
    (xcv_FigureError : PySem.W.findCls K (.ref q_FigureError) (.type "type") "__init__" = some (.val (.builtin "ValueError.__init__")))
    (xL_NoText : K.lookup q_NoText = some (PySem.excClassObj xnm_NoText xq_NoText q_NoText xN_NoText xbs_NoText [.ref q_FigureError, .type "ValueError", .type "Exception", .type "BaseException", .type "object"] true xsn_NoText xsub_NoText xab_NoText xcol_NoText xdd_NoText xm0_NoText xm1_NoText xm2_NoText xm3_NoText xm5_NoText "ValueError.__new__"))
    (xsa_NoText : PySem.W.findIn K (.ref q_NoText) "__setattr__" = some (some (.builtin "object.__setattr__")))
    (xe_NoText : PySem.W.subIn K (.ref q_NoText) (.type "BaseException") = some true)
    (xt_NoText : PySem.W.typeIn K (.ref q_NoText) = some (.type "type"))
    (xk_NoText : PySem.W.keepIn K (.ref q_NoText) = true)
    (xh_NoText : PySem.W.hasDictIn K q_NoText = true)
    (xn_NoText : PySem.W.findIn K (.ref q_NoText) "at" = some none)
    (xi_NoText : PySem.W.findIn K (.ref q_NoText) "__init__" = some (some (.ref xf_NoText)))
    (xT_NoText : PySem.W.typeIn K (.ref xf_NoText) = some (.type "function"))
    (xl_NoText : K.lookup xf_NoText = some ⟨xoc_NoText, xod_NoText, .func (PySem.W.fnOf "__init__" "NoText.__init__" (defArgs s_NoText___init__) (defBody s_NoText___init__) (defScope s_NoText___init__) .none xkV_NoText xdc_NoText xpm_NoText xan_NoText xcd_NoText xct_NoText), xsl_NoText⟩)
    (xc_NoText : PySem.W.codeIn K xcd_NoText "NoText.__init__" = true)
    (xkf_NoText : PySem.W.keepIn K (.ref xf_NoText) = true)
    (pg_Words : PySem.W.plainGet K q_Words Str.empty = true)
    (hd_Words : PySem.W.hasDictIn K q_Words = true)
    (po_Words : PySem.W.plainOver K q_Words = true)
    (sa_Words : PySem.W.findIn K (.ref q_Words) "__setattr__" = some (some (.builtin "object.__setattr__")))
    (kn_Words_all_words : PySem.W.findIn K (.ref q_Words) "all_words" = some none)
    (kn_Words_at : PySem.W.findIn K (.ref q_Words) "at" = some none)
    (xs_NoText_FigureError : PySem.W.subIn K (.ref q_NoText) (.ref q_FigureError) = some true)
    (xe_FigureError : PySem.W.subIn K (.ref q_FigureError) (.type "BaseException") = some true)
    (xt_FigureError : PySem.W.typeIn K (.ref q_FigureError) = some (.type "type"))
    (xh_FigureError : PySem.W.hasDictIn K q_FigureError = true)
    (xg_NoText : PySem.W.findIn K (.ref q_NoText) "__getattribute__" = some (some (.builtin "BaseException.__getattribute__")))
    (xgg_NoText : PySem.W.findIn K (.ref q_NoText) "__getattr__" = some none)
    (xca_NoText : PySem.W.findIn K (.ref q_NoText) "__class__" = some (some (.builtin "object.__class__")))
    (xmr_NoText : PySem.W.mroIn K q_NoText (.type "object") = some true)
    (bn : PySem.W.specialIn K (.builtin "object.__class__") "__get__" = some (some (.builtin "getset_descriptor.__get__")))
    (bt : PySem.W.takesIn K (.builtin "object.__class__") = some true)
    (kk_NoText_NoClass : PySem.W.kitOne K (.ref q_NoText) (.ref q_NoClass) = some false)
    (kk_NoText_NoLine : PySem.W.kitOne K (.ref q_NoText) (.ref q_NoLine) = some false)
    (kk_NoText_NoFit : PySem.W.kitOne K (.ref q_NoText) (.ref q_NoFit) = some false)
    (kk_NoText_NoText : PySem.W.kitOne K (.ref q_NoText) (.ref q_NoText) = some true)
    (kv_NoText_ValueError : PySem.W.kitOne K (.ref q_NoText) (.type "ValueError") = some true)
    (ga_BEGINS : PySem.W.nsIn K mainGlobals "BEGINS" = some (some (.ref q_BEGINS)))
    (gl_BEGINS : K.lookup q_BEGINS = some o_BEGINS)
    (gr_BEGINS : isDic w o_BEGINS)
    (gv_BEGINS_0 : PySem.W.nsIn K q_BEGINS "row" = some (some (.str "[" t_BEGINS_0)))
    (gv_BEGINS_1 : PySem.W.nsIn K q_BEGINS "bag" = some (some (.str "{" t_BEGINS_1)))
    (gv_BEGINS_2 : PySem.W.nsIn K q_BEGINS "choice" = some (some (.str "<" t_BEGINS_2)))
    (gv_BEGINS_3 : PySem.W.nsIn K q_BEGINS "ring" = some (some (.str "((" t_BEGINS_3)))
    (ga_ENDS : PySem.W.nsIn K mainGlobals "ENDS" = some (some (.ref q_ENDS)))
    (gl_ENDS : K.lookup q_ENDS = some o_ENDS)
    (gr_ENDS : isDic w o_ENDS)
    (gv_ENDS_0 : PySem.W.nsIn K q_ENDS "row" = some (some (.str "]" t_ENDS_0)))
    (gv_ENDS_1 : PySem.W.nsIn K q_ENDS "bag" = some (some (.str "}" t_ENDS_1)))
    (gv_ENDS_2 : PySem.W.nsIn K q_ENDS "choice" = some (some (.str ">" t_ENDS_2)))
    (gv_ENDS_3 : PySem.W.nsIn K q_ENDS "ring" = some (some (.str "))" t_ENDS_3)))
    (ga_KEPT : PySem.W.nsIn K mainGlobals "KEPT" = some (some (.ref q_KEPT)))
    (gl_KEPT : K.lookup q_KEPT = some o_KEPT)
    (gr_KEPT : isTup [.str "nothing", .str "bead", .str "or", .str "by", .str "row", .str "bag", .str "choice", .str "ring", .str "of", .str "left", .str "right"] o_KEPT)
    (ga_LETTERS : PySem.W.nsIn K mainGlobals "LETTERS" = some (some (.str "abcdefghijklmnopqrstuvwxyz" q_LETTERS)))
    (zz_ValueError : PySem.W.nsIn K mainGlobals "ValueError" = some none)
    (zz_bool : PySem.W.nsIn K mainGlobals "bool" = some none)
    (zz_enumerate : PySem.W.nsIn K mainGlobals "enumerate" = some none)
    (zz_int : PySem.W.nsIn K mainGlobals "int" = some none)
    (zz_isinstance : PySem.W.nsIn K mainGlobals "isinstance" = some none)
    (zz_len : PySem.W.nsIn K mainGlobals "len" = some none)
    (zz_max : PySem.W.nsIn K mainGlobals "max" = some none)
    (zz_min : PySem.W.nsIn K mainGlobals "min" = some none)
    (zz_range : PySem.W.nsIn K mainGlobals "range" = some none)
    (zz_tuple : PySem.W.nsIn K mainGlobals "tuple" = some none)
    (goal : ∀ ns : List Int, ns.length ≤ 63 → m_law [.lst (ns.map .int)] = some (.bl true)) :
    ∃ fd : FuncData, (∀ (s : Shared) (v : Value), BindsTo s fd ⟨[v], []⟩ [("_law_script", v)]) ∧ ∀ base : Heap, K.In base → base.Ns mainGlobals mg → FnOk l.prog w K mg base CX0 206 fa fd ["_law_script"] (Ab.spLaw K) := by
  have e := hfa.symm.trans (PySem.W.mg_of X G a_law)
  cases e
  have Z : Zs mg := ⟨PySem.W.mg_none_of X G zz_ValueError, PySem.W.mg_none_of X G zz_bool, PySem.W.mg_none_of X G zz_enumerate, PySem.W.mg_none_of X G zz_int, PySem.W.mg_none_of X G zz_isinstance, PySem.W.mg_none_of X G zz_len, PySem.W.mg_none_of X G zz_max, PySem.W.mg_none_of X G zz_min, PySem.W.mg_none_of X G zz_range, PySem.W.mg_none_of X G zz_tuple⟩
  obtain ⟨cls, hcls⟩ : ∃ cls : String → Addr, cls = fun c => if c = "FigureError" then q_FigureError else if c = "NoClass" then q_NoClass else if c = "NoFit" then q_NoFit else if c = "NoLine" then q_NoLine else if c = "NoText" then q_NoText else if c = "Words" then q_Words else 0 := ⟨_, rfl⟩
  have e_FigureError : cls "FigureError" = q_FigureError := by rw [hcls]; rfl
  have e_NoClass : cls "NoClass" = q_NoClass := by rw [hcls]; rfl
  have e_NoFit : cls "NoFit" = q_NoFit := by rw [hcls]; rfl
  have e_NoLine : cls "NoLine" = q_NoLine := by rw [hcls]; rfl
  have e_NoText : cls "NoText" = q_NoText := by rw [hcls]; rfl
  have e_Words : cls "Words" = q_Words := by rw [hcls]; rfl
  have Y : Ks K mg cls := ⟨(by rw [e_Words]; exact ⟨pg_Words, hd_Words, po_Words, sa_Words⟩),
    (by rw [e_Words]; exact kn_Words_all_words),
    (by rw [e_Words]; exact kn_Words_at),
    (by simp only [e_FigureError, e_NoText]; exact PySem.W.exm_ref xe_FigureError xh_FigureError xt_FigureError xs_NoText_FigureError),
    (by rw [e_NoClass]; exact PySem.W.mg_of X G qa_NoClass),
    (by rw [e_NoText]; exact ⟨xg_NoText, xgg_NoText, xe_NoText, xh_NoText, xca_NoText, bn, bt, xmr_NoText⟩),
    (by simp only [e_NoClass, e_NoText]; exact kk_NoText_NoClass),
    (by rw [e_NoLine]; exact PySem.W.mg_of X G qa_NoLine),
    (by simp only [e_NoLine, e_NoText]; exact kk_NoText_NoLine),
    (by rw [e_NoFit]; exact PySem.W.mg_of X G qa_NoFit),
    (by simp only [e_NoFit, e_NoText]; exact kk_NoText_NoFit),
    (by rw [e_NoText]; exact PySem.W.mg_of X G qa_NoText),
    (by simp only [e_NoText]; exact kk_NoText_NoText),
    (by rw [e_NoText]; exact kv_NoText_ValueError),
    (by rw [e_NoText]; exact ⟨xg_NoText, xgg_NoText, xe_NoText, xh_NoText⟩),
    (by rw [e_NoText]; exact xn_NoText),
    (by rw [e_FigureError]; exact PySem.W.mg_of X G qa_FigureError)⟩
  have F_is_word := fun_mk (st := s_is_word) l_is_word c_is_word k_is_word
  have b_is_word := F_is_word.binds (ps := ["text"]) fun _ _ _ _ _ _ us hl => match us, hl with | [_], _ => rfl
  have F_Words___init__ := fun_mk (st := s_Words___init__) l_Words___init__ c_Words___init__ k_Words___init__
  have b_Words___init__ := F_Words___init__.binds (ps := ["self", "text"]) fun _ _ _ _ _ _ us hl => match us, hl with | [_, _], _ => rfl
  have F_Words_ahead := fun_mk (st := s_Words_ahead) l_Words_ahead c_Words_ahead k_Words_ahead
  have b_Words_ahead := F_Words_ahead.binds (ps := ["self"]) fun _ _ _ _ _ _ us hl => match us, hl with | [_], _ => rfl
  have F_Words_takes := fun_mk (st := s_Words_takes) l_Words_takes c_Words_takes k_Words_takes
  have b_Words_takes := F_Words_takes.binds (ps := ["self", "word"]) fun _ _ _ _ _ _ us hl => match us, hl with | [_, _], _ => rfl
  have F_Words_need := fun_mk (st := s_Words_need) l_Words_need c_Words_need k_Words_need
  have b_Words_need := F_Words_need.binds (ps := ["self", "word"]) fun _ _ _ _ _ _ us hl => match us, hl with | [_, _], _ => rfl
  have F_Words_word := fun_mk (st := s_Words_word) l_Words_word c_Words_word k_Words_word
  have b_Words_word := F_Words_word.binds (ps := ["self"]) fun _ _ _ _ _ _ us hl => match us, hl with | [_], _ => rfl
  have F_Words_end := fun_mk (st := s_Words_end) l_Words_end c_Words_end k_Words_end
  have b_Words_end := F_Words_end.binds (ps := ["self"]) fun _ _ _ _ _ _ us hl => match us, hl with | [_], _ => rfl
  have F_parts_up_to := fun_mk (st := s_parts_up_to) l_parts_up_to c_parts_up_to k_parts_up_to
  have b_parts_up_to := F_parts_up_to.binds (ps := ["words", "end"]) fun _ _ _ _ _ _ us hl => match us, hl with | [_, _], _ => rfl
  have F_whole_writing := fun_mk (st := s_whole_writing) l_whole_writing c_whole_writing k_whole_writing
  have b_whole_writing := F_whole_writing.binds (ps := ["words"]) fun _ _ _ _ _ _ us hl => match us, hl with | [_], _ => rfl
  have F_read_writing := fun_mk (st := s_read_writing) l_read_writing c_read_writing k_read_writing
  have b_read_writing := F_read_writing.binds (ps := ["text"]) fun _ _ _ _ _ _ us hl => match us, hl with | [_], _ => rfl
  have F__law_cell := fun_mk (st := s__law_cell) l__law_cell c__law_cell k__law_cell
  have b__law_cell := F__law_cell.binds (ps := ["_law_script", "_law_k"]) fun _ _ _ _ _ _ us hl => match us, hl with | [_, _], _ => rfl
  have F__law_kept := fun_mk (st := s__law_kept) l__law_kept c__law_kept k__law_kept
  have b__law_kept := F__law_kept.binds (ps := []) fun _ _ _ _ _ _ us hl => match us, hl with | [], _ => rfl
  have F__law_word := fun_mk (st := s__law_word) l__law_word c__law_word k__law_word
  have b__law_word := F__law_word.binds (ps := ["_law_cell_here"]) fun _ _ _ _ _ _ us hl => match us, hl with | [_], _ => rfl
  have F__law_is_word := fun_mk (st := s__law_is_word) l__law_is_word c__law_is_word k__law_is_word
  have b__law_is_word := F__law_is_word.binds (ps := ["_law_text"]) fun _ _ _ _ _ _ us hl => match us, hl with | [_], _ => rfl
  have F__law_pile := fun_mk (st := s__law_pile) l__law_pile c__law_pile k__law_pile
  have b__law_pile := F__law_pile.binds (ps := ["_law_stack", "_law_cell_here"]) fun _ _ _ _ _ _ us hl => match us, hl with | [_, _], _ => rfl
  have F__law_writing := fun_mk (st := s__law_writing) l__law_writing c__law_writing k__law_writing
  have b__law_writing := F__law_writing.binds (ps := ["_law_cells"]) fun _ _ _ _ _ _ us hl => match us, hl with | [_], _ => rfl
  have F__law_written := fun_mk (st := s__law_written) l__law_written c__law_written k__law_written
  have b__law_written := F__law_written.binds (ps := ["_law_figure"]) fun _ _ _ _ _ _ us hl => match us, hl with | [_], _ => rfl
  have F__law_new_word := fun_mk (st := s__law_new_word) l__law_new_word c__law_new_word k__law_new_word
  have b__law_new_word := F__law_new_word.binds (ps := ["_law_cell_here"]) fun _ _ _ _ _ _ us hl => match us, hl with | [_], _ => rfl
  have F__law_changed := fun_mk (st := s__law_changed) l__law_changed c__law_changed k__law_changed
  have b__law_changed := F__law_changed.binds (ps := ["_law_words", "_law_cell_here"]) fun _ _ _ _ _ _ us hl => match us, hl with | [_, _], _ => rfl
  have F__law_done := fun_mk (st := s__law_done) l__law_done c__law_done k__law_done
  have b__law_done := F__law_done.binds (ps := ["_law_frames"]) fun _ _ _ _ _ _ us hl => match us, hl with | [_], _ => rfl
  have F__law_takes := fun_mk (st := s__law_takes) l__law_takes c__law_takes k__law_takes
  have b__law_takes := F__law_takes.binds (ps := ["_law_frames", "_law_word_here"]) fun _ _ _ _ _ _ us hl => match us, hl with | [_, _], _ => rfl
  have F__law_fault := fun_mk (st := s__law_fault) l__law_fault c__law_fault k__law_fault
  have b__law_fault := F__law_fault.binds (ps := ["_law_words"]) fun _ _ _ _ _ _ us hl => match us, hl with | [_], _ => rfl
  have F__law_refused := fun_mk (st := s__law_refused) l__law_refused c__law_refused k__law_refused
  have b__law_refused := F__law_refused.binds (ps := ["_law_text"]) fun _ _ _ _ _ _ us hl => match us, hl with | [_], _ => rfl
  have F__law_mixed := fun_mk (st := s__law_mixed) l__law_mixed c__law_mixed k__law_mixed
  have b__law_mixed := F__law_mixed.binds (ps := ["_law_script", "_law_few"]) fun _ _ _ _ _ _ us hl => match us, hl with | [_, _], _ => rfl
  have F_law := fun_mk (st := s_law) l_law c_law k_law
  have b_law := F_law.binds (ps := ["_law_script"]) fun _ _ _ _ _ _ us hl => match us, hl with | [_], _ => rfl
  have c_BEGINS : mg "BEGINS" = some (.ref q_BEGINS) ∧ ∀ p ∈ ([("row", .str "["), ("bag", .str "{"), ("choice", .str "<"), ("ring", .str "((")] : List (Str × D)), flat p.2 = true ∧ KDct K w q_BEGINS p.1 (dv p.2) := ⟨PySem.W.mg_of X G ga_BEGINS, List.forall_mem_cons.mpr ⟨⟨rfl, kdct_mk gl_BEGINS gr_BEGINS gv_BEGINS_0 ⟨_, rfl⟩⟩, List.forall_mem_cons.mpr ⟨⟨rfl, kdct_mk gl_BEGINS gr_BEGINS gv_BEGINS_1 ⟨_, rfl⟩⟩, List.forall_mem_cons.mpr ⟨⟨rfl, kdct_mk gl_BEGINS gr_BEGINS gv_BEGINS_2 ⟨_, rfl⟩⟩, List.forall_mem_cons.mpr ⟨⟨rfl, kdct_mk gl_BEGINS gr_BEGINS gv_BEGINS_3 ⟨_, rfl⟩⟩, fun _ h => nomatch h⟩⟩⟩⟩⟩
  have c_ENDS : mg "ENDS" = some (.ref q_ENDS) ∧ ∀ p ∈ ([("row", .str "]"), ("bag", .str "}"), ("choice", .str ">"), ("ring", .str "))")] : List (Str × D)), flat p.2 = true ∧ KDct K w q_ENDS p.1 (dv p.2) := ⟨PySem.W.mg_of X G ga_ENDS, List.forall_mem_cons.mpr ⟨⟨rfl, kdct_mk gl_ENDS gr_ENDS gv_ENDS_0 ⟨_, rfl⟩⟩, List.forall_mem_cons.mpr ⟨⟨rfl, kdct_mk gl_ENDS gr_ENDS gv_ENDS_1 ⟨_, rfl⟩⟩, List.forall_mem_cons.mpr ⟨⟨rfl, kdct_mk gl_ENDS gr_ENDS gv_ENDS_2 ⟨_, rfl⟩⟩, List.forall_mem_cons.mpr ⟨⟨rfl, kdct_mk gl_ENDS gr_ENDS gv_ENDS_3 ⟨_, rfl⟩⟩, fun _ h => nomatch h⟩⟩⟩⟩⟩
  have c_KEPT : mg "KEPT" = some (.ref q_KEPT) ∧ (∀ F, Rep ⟨K, cls⟩ F (.tup [.str "nothing", .str "bead", .str "or", .str "by", .str "row", .str "bag", .str "choice", .str "ring", .str "of", .str "left", .str "right"]) (.ref q_KEPT)) ∧ ∀ H, tyV K "tuple" (.ref q_KEPT) H := ⟨PySem.W.mg_of X G ga_KEPT, top_tup gl_KEPT gr_KEPT, top_ty gl_KEPT gr_KEPT⟩
  have c_LETTERS : ∃ u, mg "LETTERS" = some u ∧ RelV (.str "abcdefghijklmnopqrstuvwxyz") u := ⟨_, PySem.W.mg_of X G ga_LETTERS, ⟨_, rfl⟩⟩
  refine ⟨PySem.W.fnOf "law" "law" (defArgs s_law) (defBody s_law) (defScope s_law) .none kV_law dc_law pm_law an_law cd_law ct_law, fun s v => .of_eq rfl, fun base bI bN => ?_⟩
  have xF_NoText := fun_mk (st := s_NoText___init__) xl_NoText xc_NoText xkf_NoText
  have xb_NoText := xF_NoText.binds (ps := ["self", "at"]) fun _ _ _ _ _ _ us hl => match us, hl with | [_, _], _ => rfl
  have xO_NoText : OexC K q_NoText := ⟨⟨_, _, _, _, _, _, _, _, _, _, _, _, _, _, _, xL_NoText, rfl⟩, xsa_NoText, xe_NoText, xt_NoText, xk_NoText⟩
  have X_NoText : ExM l.prog w K mg base "NoText" (cls "NoText") "at" 1 := by rw [e_NoText]; exact ⟨xO_NoText, ⟨_, _, _, xi_NoText, xT_NoText, ok_NoText___init__ xF_NoText xO_NoText xn_NoText (PySem.W.mg_of X G qa_FigureError) ⟨xrd_FigureError, xga_FigureError⟩ xcv_FigureError, xb_NoText⟩, PySem.W.mg_of X G qa_NoText⟩
  have C_is_word : Cal l.prog w K mg base "is_word" ["text"] 1 (spP ⟨K, cls⟩ m_is_word) := ⟨_, _, ok_is_word (P := l.prog) (w := w) (base := base) (cls := cls) F_is_word Z Y c_KEPT c_LETTERS, PySem.W.mg_of X G a_is_word, F_is_word.kp, b_is_word⟩
  have G_Words___init__ := ok_Words___init__ (P := l.prog) (w := w) (base := base) (cls := cls) F_Words___init__ Z Y
  have I_Words : CalI l.prog w K mg base "Words" (cls "Words") ["self", "text"] 1 (spM ⟨K, cls⟩ m_Words___init__) := ⟨_, _, G_Words___init__, by rw [e_Words]; exact ⟨mk_Words, ia_Words, i_Words___init__, kk_Words⟩, b_Words___init__, by rw [e_Words]; exact PySem.W.mg_of X G qa_Words⟩
  have G_Words_ahead := ok_Words_ahead (P := l.prog) (w := w) (base := base) (cls := cls) F_Words_ahead Z Y
  have M_Words_ahead : CalM l.prog w K mg base (cls "Words") "ahead" ["self"] 1 (spP ⟨K, cls⟩ m_Words_ahead) := ⟨_, _, G_Words_ahead, by rw [e_Words]; exact ⟨ma_Words_ahead, i_Words_ahead, k_Words_ahead⟩, b_Words_ahead⟩
  have G_Words_takes := ok_Words_takes (P := l.prog) (w := w) (base := base) (cls := cls) F_Words_takes Z Y M_Words_ahead
  have M_Words_takes : CalM l.prog w K mg base (cls "Words") "takes" ["self", "word"] 2 (spM ⟨K, cls⟩ m_Words_takes) := ⟨_, _, G_Words_takes, by rw [e_Words]; exact ⟨ma_Words_takes, i_Words_takes, k_Words_takes⟩, b_Words_takes⟩
  have G_Words_need := ok_Words_need (P := l.prog) (w := w) (base := base) (cls := cls) F_Words_need Z Y M_Words_takes X_NoText
  have M_Words_need : CalMX l.prog w K mg base (cls "Words") "need" ["self", "word"] 3 (spM ⟨K, cls⟩ m_Words_need) := ⟨_, _, G_Words_need, by rw [e_Words]; exact ⟨ma_Words_need, i_Words_need, k_Words_need⟩, b_Words_need⟩
  have G_Words_word := ok_Words_word (P := l.prog) (w := w) (base := base) (cls := cls) F_Words_word Z Y C_is_word M_Words_ahead X_NoText
  have M_Words_word : CalMX l.prog w K mg base (cls "Words") "word" ["self"] 3 (spM ⟨K, cls⟩ m_Words_word) := ⟨_, _, G_Words_word, by rw [e_Words]; exact ⟨ma_Words_word, i_Words_word, k_Words_word⟩, b_Words_word⟩
  have G_Words_end := ok_Words_end (P := l.prog) (w := w) (base := base) (cls := cls) F_Words_end Z Y M_Words_ahead X_NoText
  have M_Words_end : CalMX l.prog w K mg base (cls "Words") "end" ["self"] 3 (spM ⟨K, cls⟩ m_Words_end) := ⟨_, _, G_Words_end, by rw [e_Words]; exact ⟨ma_Words_end, i_Words_end, k_Words_end⟩, b_Words_end⟩
  obtain ⟨C_parts_up_to, C_whole_writing⟩ := okF_parts_up_to (P := l.prog) (w := w) (base := base) (cls := cls) F_parts_up_to b_parts_up_to (PySem.W.mg_of X G a_parts_up_to) F_whole_writing b_whole_writing (PySem.W.mg_of X G a_whole_writing) Z Y c_BEGINS c_ENDS M_Words_takes M_Words_ahead M_Words_need M_Words_word X_NoText 200
  have C_read_writing : CalX l.prog w K mg base "read_writing" ["text"] 204 (spX ⟨K, cls⟩ m_read_writing) := ⟨_, _, ok_read_writing (P := l.prog) (w := w) (base := base) (cls := cls) F_read_writing Z Y C_whole_writing M_Words_end I_Words, PySem.W.mg_of X G a_read_writing, F_read_writing.kp, b_read_writing⟩
  have C__law_cell : Cal l.prog w K mg base "_law_cell" ["_law_script", "_law_k"] 1 (spP ⟨K, cls⟩ m__law_cell) := ⟨_, _, ok__law_cell (P := l.prog) (w := w) (base := base) (cls := cls) F__law_cell Z Y, PySem.W.mg_of X G a__law_cell, F__law_cell.kp, b__law_cell⟩
  have C__law_kept : Cal l.prog w K mg base "_law_kept" [] 1 (spL ⟨K, cls⟩ m__law_kept) := ⟨_, _, ok__law_kept (P := l.prog) (w := w) (base := base) (cls := cls) F__law_kept Z Y, PySem.W.mg_of X G a__law_kept, F__law_kept.kp, b__law_kept⟩
  have C__law_word : Cal l.prog w K mg base "_law_word" ["_law_cell_here"] 2 (spP ⟨K, cls⟩ m__law_word) := ⟨_, _, ok__law_word (P := l.prog) (w := w) (base := base) (cls := cls) F__law_word Z Y C__law_kept, PySem.W.mg_of X G a__law_word, F__law_word.kp, b__law_word⟩
  have C__law_is_word : Cal l.prog w K mg base "_law_is_word" ["_law_text"] 2 (spP ⟨K, cls⟩ m__law_is_word) := ⟨_, _, ok__law_is_word (P := l.prog) (w := w) (base := base) (cls := cls) F__law_is_word Z Y C__law_kept, PySem.W.mg_of X G a__law_is_word, F__law_is_word.kp, b__law_is_word⟩
  have C__law_pile : Cal l.prog w K mg base "_law_pile" ["_law_stack", "_law_cell_here"] 3 (spM ⟨K, cls⟩ m__law_pile) := ⟨_, _, ok__law_pile (P := l.prog) (w := w) (base := base) (cls := cls) F__law_pile Z Y C__law_word, PySem.W.mg_of X G a__law_pile, F__law_pile.kp, b__law_pile⟩
  have C__law_writing : Cal l.prog w K mg base "_law_writing" ["_law_cells"] 4 (spP ⟨K, cls⟩ m__law_writing) := ⟨_, _, ok__law_writing (P := l.prog) (w := w) (base := base) (cls := cls) F__law_writing Z Y C__law_pile, PySem.W.mg_of X G a__law_writing, F__law_writing.kp, b__law_writing⟩
  have C__law_written := okF__law_written (P := l.prog) (w := w) (base := base) (cls := cls) F__law_written b__law_written (PySem.W.mg_of X G a__law_written) Z Y 100
  have C__law_new_word : Cal l.prog w K mg base "_law_new_word" ["_law_cell_here"] 3 (spP ⟨K, cls⟩ m__law_new_word) := ⟨_, _, ok__law_new_word (P := l.prog) (w := w) (base := base) (cls := cls) F__law_new_word Z Y C__law_kept C__law_word, PySem.W.mg_of X G a__law_new_word, F__law_new_word.kp, b__law_new_word⟩
  have C__law_changed : Cal l.prog w K mg base "_law_changed" ["_law_words", "_law_cell_here"] 4 (spP ⟨K, cls⟩ m__law_changed) := ⟨_, _, ok__law_changed (P := l.prog) (w := w) (base := base) (cls := cls) F__law_changed Z Y C__law_new_word, PySem.W.mg_of X G a__law_changed, F__law_changed.kp, b__law_changed⟩
  have C__law_done : Cal l.prog w K mg base "_law_done" ["_law_frames"] 1 (spM ⟨K, cls⟩ m__law_done) := ⟨_, _, ok__law_done (P := l.prog) (w := w) (base := base) (cls := cls) F__law_done Z Y, PySem.W.mg_of X G a__law_done, F__law_done.kp, b__law_done⟩
  have C__law_takes : Cal l.prog w K mg base "_law_takes" ["_law_frames", "_law_word_here"] 3 (spM ⟨K, cls⟩ m__law_takes) := ⟨_, _, ok__law_takes (P := l.prog) (w := w) (base := base) (cls := cls) F__law_takes Z Y C__law_done C__law_is_word, PySem.W.mg_of X G a__law_takes, F__law_takes.kp, b__law_takes⟩
  have C__law_fault : Cal l.prog w K mg base "_law_fault" ["_law_words"] 4 (spP ⟨K, cls⟩ m__law_fault) := ⟨_, _, ok__law_fault (P := l.prog) (w := w) (base := base) (cls := cls) F__law_fault Z Y C__law_takes, PySem.W.mg_of X G a__law_fault, F__law_fault.kp, b__law_fault⟩
  have C__law_refused : Cal l.prog w K mg base "_law_refused" ["_law_text"] 205 (spP ⟨K, cls⟩ m__law_refused) := ⟨_, _, ok__law_refused (P := l.prog) (w := w) (base := base) (cls := cls) F__law_refused Z Y C_read_writing, PySem.W.mg_of X G a__law_refused, F__law_refused.kp, b__law_refused⟩
  have C__law_mixed : Cal l.prog w K mg base "_law_mixed" ["_law_script", "_law_few"] 2 (spL ⟨K, cls⟩ m__law_mixed) := ⟨_, _, ok__law_mixed (P := l.prog) (w := w) (base := base) (cls := cls) F__law_mixed Z Y C__law_cell, PySem.W.mg_of X G a__law_mixed, F__law_mixed.kp, b__law_mixed⟩
  exact Ab.law_of (ok_law (P := l.prog) (w := w) (base := base) (cls := cls) F_law Z Y C__law_cell C__law_changed C__law_fault C__law_mixed C__law_refused C__law_writing C__law_written) goal
-- LEVEL 206
end
end W_k15
end
section
set_option maxRecDepth 100000
set_option maxHeartbeats 2000000
namespace W_k15
open PySem L2 PyProof.Rows PySem.Spec Ab
abbrev ABC : Str := "abcdefghijklmnopqrstuvwxyz"
def KS : List D := [.str "nothing", .str "bead", .str "or", .str "by", .str "row", .str "bag", .str "choice", .str "ring", .str "of", .str "left", .str "right"]
def inK (z : Str) : Bool := inV (.str z) (KS.map dv)
theorem mem_K1 (z : Str) : memD false (.str z) (.tup KS) = some (.bl (inK z)) := by unfold memD; rfl
theorem mem_K2 (z : Str) : memD false (.str z) (.lst KS) = some (.bl (inK z)) := by unfold memD; rfl
theorem mem_K3 (z : Str) : memD true (.str z) (.lst KS) = some (.bl (!inK z)) := by unfold memD; rfl
theorem v_kept : m__law_kept [] = some KS := by
  have : ∃ β, b__law_kept (inP 0 0 []) = .ret (.lst KS) β := by unfold b__law_kept inP; simp [KS]
  obtain ⟨β, h⟩ := this
  exact runL_lst rfl h
def lets (z : Str) : Bool := z.cps.toList.all fun c => decide (c ∈ ABC.cps)
theorem sign_loop (a : Option A) : ∀ (cs : List Nat) (b : Option A), (∃ y, loopF (gN 1) bl_is_word_1 (cs.map fun c => .str ⟨#[c]⟩) [a, b] = if (cs.all fun c => decide (c ∈ ABC.cps)) = true then .nxt [a, y] else .ret (.dat (.bl false)) [a, y])
  | [], b => ⟨b, rfl⟩
  | c :: cs, b => by
    by_cases h : c ∈ ABC.cps
    · obtain ⟨y, i⟩ := sign_loop a cs (some (.dat (.str ⟨#[c]⟩)))
      refine ⟨y, ?_⟩
      have e : bl_is_word_1 [a, some (.dat (.str ⟨#[c]⟩))] = .nxt [a, some (.dat (.str ⟨#[c]⟩))] := by
        unfold bl_is_word_1
        simp [h]
      show loopF _ _ (.str ⟨#[c]⟩ :: _) _ = _
      unfold loopF
      simp only [List.all_cons, decide_eq_true h, Bool.true_and]
      rw [← i]
      simp [e]
    · refine ⟨some (.dat (.str ⟨#[c]⟩)), ?_⟩
      have e : bl_is_word_1 [a, some (.dat (.str ⟨#[c]⟩))] = .ret (.dat (.bl false)) [a, some (.dat (.str ⟨#[c]⟩))] := by
        unfold bl_is_word_1
        simp [h]
      show loopF _ _ (.str ⟨#[c]⟩ :: _) _ = _
      unfold loopF
      simp only [List.all_cons, decide_eq_false h, Bool.false_and]
      simp [e]
def isW (z : Str) : Bool := decide (1 ≤ z.length ∧ z.length ≤ 8) && !inK z && lets z
theorem v_is_word (z : Str) (hz : z.length ≤ 100000) : m_is_word [.str z] = some (.bl (isW z)) := by
  obtain ⟨y, h⟩ := sign_loop (some (.dat (.str z))) z.cps.toList none
  have : ∃ β, b_is_word (inP 2 1 [.str z]) = .ret (.dat (.bl (isW z))) β := by
    unfold b_is_word inP
    show ∃ β, (sSeq (sIf (liftB (tbOr (asB (x2 fLt (xCall fLenS (aCons (xVar 0) aNil)) (xC (.int 1)))) (tbOr (asB (x2 fGt (xCall fLenS (aCons (xVar 0) aNil)) (xC (.int 8)))) (asB (x2 (memD false) (xVar 0) (xC (.tup KS))))))) _ _) _) _ = _
    unfold isW
    change loopF (gN 1) bl_is_word_1 (signs z) [some (.dat (.str z)), none] = (if lets z = true then .nxt [some (.dat (.str z)), y] else .ret (.dat (.bl false)) [some (.dat (.str z)), y]) at h
    by_cases h1 : z.length < 1
    · have : ¬ 1 ≤ z.length := by omega
      have a0 : (z.length : Int) < 1 := by omega
      simp [hz, a0, this]
    · by_cases h8 : z.length > 8
      · have : ¬ z.length ≤ 8 := by omega
        have h8' : (8 : Int) < z.length := by omega
        have a0 : ¬ (z.length : Int) < 1 := by omega
        simp [hz, a0, this, h8']
      · have a1 : 1 ≤ z.length := by omega
        have a2 : z.length ≤ 8 := by omega
        have a3 : ¬ (8 : Int) < z.length := by omega
        have a4 : ¬ (z.length : Int) < 1 := by omega
        cases hk : inK z
        · cases hl : lets z
          · rw [hl] at h
            simp [hz, a1, a2, a3, a4, mem_K1, hk, h]
          · rw [hl] at h
            simp [hz, a1, a2, a3, a4, mem_K1, hk, h]
        · simp [hz, a1, a2, a3, a4, mem_K1, hk]
  obtain ⟨β, e⟩ := this
  exact runP_dat rfl e
theorem abc_len : ABC.length = 26 := by decide +kernel
theorem abc_ix {i : Int} (h0 : 0 ≤ i) (h1 : i < 26) : ∃ c, fIxS (.str ABC) (.int i) = some (.str ⟨#[c]⟩) := ixS_at (by rw [abc_len]; decide) h0 (by rw [abc_len]; exact h1)
theorem catS_len (a b : Str) : (a ++ b).length = a.length + b.length := PySem.strLen_append a b
theorem abc_mem (c : Nat) (h : c ∈ ABC.cps.toList) : c ∈ ABC.cps := Array.mem_toList_iff.mp h
theorem atI_mem {β : Type} {xs : List β} {i : Int} {x : β} (h : atI xs i = some x) : x ∈ xs := by
  unfold atI at h
  cases hx : ixN xs.length i with
  | none => rw [hx] at h; cases h
  | some j => rw [hx] at h; exact List.mem_of_getElem? h
theorem ixS_mem {z : Str} {i : Int} {c : Nat} (h : fIxS (.str z) (.int i) = some (.str ⟨#[c]⟩)) : c ∈ z.cps := by
  have h : (if z.length ≤ 100000 then (atI z.cps.toList i).map fun c => D.str ⟨#[c]⟩ else none) = some (.str ⟨#[c]⟩) := h
  split at h
  · cases hx : atI z.cps.toList i with
    | none => rw [hx] at h; cases h
    | some c' =>
      rw [hx] at h
      cases h
      exact Array.mem_toList_iff.mp (atI_mem hx)
  · cases h
theorem lets_app (a b : Str) : lets (a ++ b) = (lets a && lets b) := by
  unfold lets
  rw [show (a ++ b).cps.toList = a.cps.toList ++ b.cps.toList from TL.tl_append a b, List.all_append]
theorem word_loop (a : Option A) : ∀ (xs : List D) (z : Str) (l : Int) (x3 : Option A), z.length + xs.length ≤ 1000 → lets z = true →
    ∃ (z' : Str) (l' : Int) (y3 : Option A), loopF (gN 3) bl__law_word_1 xs [a, some (.dat (.str z)), some (.dat (.int l)), x3] = .nxt [a, some (.dat (.str z')), some (.dat (.int l')), y3] ∧ z'.length = z.length + xs.length ∧ lets z' = true
  | [], z, l, x3, _, hz => ⟨z, l, x3, rfl, by simp, hz⟩
  | x :: xs, z, l, x3, h, hz => by
    simp only [List.length_cons] at h
    obtain ⟨c, hc⟩ := abc_ix (i := l % 26) (by omega) (by omega)
    have hcm := ixS_mem hc
    obtain ⟨z', l', y3, h1, h2, h3⟩ := word_loop a xs (z ++ ⟨#[c]⟩) (l / 26) (some (.dat x)) (by rw [catS_len, len_one]; omega) (by rw [lets_app, hz]; unfold lets; simp [hcm])
    refine ⟨z', l', y3, ?_, by rw [h2, catS_len, len_one, List.length_cons]; omega, h3⟩
    have e : bl__law_word_1 [a, some (.dat (.str z)), some (.dat (.int l)), some (.dat x)] = .nxt [a, some (.dat (.str (z ++ ⟨#[c]⟩))), some (.dat (.int (l / 26))), some (.dat x)] := by
      unfold bl__law_word_1
      simp [hc, CDiv, show z.length ≤ 99999 by omega]
    unfold loopF
    simp [e, h1]
theorem inK_cases {z : Str} (h : inK z = true) : z ∈ (["nothing", "bead", "or", "by", "row", "bag", "choice", "ring", "of", "left", "right"] : List Str) := by
  unfold inK KS at h
  simp only [List.map_cons, List.map_nil, dv, inV] at h
  simp only [List.mem_cons]
  simp [eqV] at h
  simpa [eq_comm] using h
theorem v_word (n : Int) : ∃ z, m__law_word [.int n] = some (.str z) ∧ isW z = true := by
  obtain ⟨m, hm⟩ : ∃ m : Nat, 1 + n % 8 = (m : Int) := ⟨(1 + n % 8).toNat, by omega⟩
  have hm8 : m ≤ 8 := by omega
  have hm1 : 1 ≤ m := by omega
  obtain ⟨z, l, y, h, hz, hlz⟩ := word_loop (some (.dat (.int n))) (rngD 0 m) "" (n / 8) none (by have : (rngD 0 m).length = m := by simp [rngD]
                                                                                                  rw [this]; have : ("" : Str).length = 0 := rfl
                                                                                                  omega) (by decide +kernel)
  have hz' : z.length = m := by
    have h1 : (rngD 0 m).length = m := by simp [rngD]
    have h2 : ("" : Str).length = 0 := rfl
    omega
  have hr := rngOk_nat (n := m) (by omega)
  have : ∃ w, isW w = true ∧ ∃ β, b__law_word (inP 4 1 [.int n]) = .ret (.dat (.str w)) β := by
    unfold b__law_word inP
    have hx : ("x" : Str).length = 1 := rfl
    have hl : z.length + ("x" : Str).length ≤ 100000 := by rw [hx]; omega
    cases hk : inK z
    · refine ⟨z, ?_, ?_⟩
      · unfold isW
        rw [hk, hlz, decide_eq_true (show 1 ≤ z.length ∧ z.length ≤ 8 by omega)]; rfl
      simp [CDiv, hm, hr, h, v_kept, mem_K2, hk]
    · refine ⟨z ++ "x", ?_, ?_⟩
      · have hc := inK_cases hk
        simp only [List.mem_cons, List.not_mem_nil, or_false] at hc
        rcases hc with rfl | rfl | rfl | rfl | rfl | rfl | rfl | rfl | rfl | rfl | rfl
        all_goals decide +kernel
      simp [CDiv, hm, hr, h, v_kept, mem_K2, hk, hl]
  obtain ⟨w, hw, β, e⟩ := this
  exact ⟨w, runP_dat rfl e, hw⟩
theorem v_cell (ns : List Int) (k : Int) (h0 : 0 ≤ k) : ∃ n, m__law_cell [.lst (ns.map .int), .int k] = some (.int n) := by
  by_cases h : k < (ns.length : Int)
  · obtain ⟨j, rfl⟩ : ∃ j : Nat, k = j := ⟨k.toNat, by omega⟩
    have e : atI (ns.map D.int) (j : Int) = some (.int (ns[j]'(by omega))) := by rw [atI_nat' (by simpa using h)]; simp
    have : ∃ β, b__law_cell (inP 2 2 [.lst (ns.map .int), .int j]) = .ret (.dat (.int (ns[j]'(by omega)))) β := by
      unfold b__law_cell inP
      simp [h, e]
    obtain ⟨β, e⟩ := this
    exact ⟨_, runP_dat rfl e⟩
  · have : ∃ β, b__law_cell (inP 2 2 [.lst (ns.map .int), .int k]) = .ret (.dat (.int 0)) β := by
      unfold b__law_cell inP
      simp [h]
    obtain ⟨β, e⟩ := this
    exact ⟨_, runP_dat rfl e⟩
theorem mixed_loop (ns : List Int) (hl : ns.length ≤ 1000) (x1 x2' : Option A) (raw : Bool) : ∀ (m k : Nat) (ms : List Int) (x5 x6 : Option A), k + m ≤ 1000 → ms.length = k →
    ∃ (ms' : List Int) (y5 y6 : Option A), loopF (gN 5) bl__law_mixed_1 (((List.range' k m).map fun (i : Nat) => D.int (i : Int))) [some (.dat (.lst (ns.map .int))), x1, x2', some (.dat (.bl raw)), some (.own (.lst (ms.map .int))), x5, x6]
      = .nxt [some (.dat (.lst (ns.map .int))), x1, x2', some (.dat (.bl raw)), some (.own (.lst (ms'.map .int))), y5, y6] ∧ ms'.length = k + m
  | 0, k, ms, x5, x6, _, hm => ⟨ms, x5, x6, rfl, by simpa using hm⟩
  | m + 1, k, ms, x5, x6, hk, hm => by
    obtain ⟨c, hc⟩ := v_cell ns k (by omega)
    have : ∃ v : Int, bl__law_mixed_1 [some (.dat (.lst (ns.map .int))), x1, x2', some (.dat (.bl raw)), some (.own (.lst (ms.map .int))), some (.dat (.int k)), x6]
        = .nxt [some (.dat (.lst (ns.map .int))), x1, x2', some (.dat (.bl raw)), some (.own (.lst ((ms ++ [v]).map .int))), some (.dat (.int k)), some (.dat (.int v))] := by
      have hms : ms.length < 100000 := by omega
      have h1 : (0 : Int) < 1 + (if k = 0 then 1 else 0) := by split <;> omega
      have h2 : 1 + (if k = 0 then 1 else 0) < (1073741824 : Int) := by split <;> omega
      generalize hv : c / (1 + (if k = 0 then 1 else 0)) = v
      have hkk : k < 1000 := by omega
      by_cases hw : raw = true ∧ (k : Int) < ns.length
      · obtain ⟨rfl, hw⟩ := hw
        refine ⟨v, ?_⟩
        have hw' : ¬ (ns.length : Int) ≤ k := by omega
        have hw2 : ¬ (k : Int) ≥ ns.length := by omega
        have hw3 : ¬ ns.length ≤ k := by omega
        unfold bl__law_mixed_1
        simp [hc, CDiv, h1, h2, hv, hw', hw2, hw3, putC, hms]
      · refine ⟨((v % 1000000000000000 + 7919 * (k : Int)) * 48271 % 2147483647) * 69621 % 2147483629, ?_⟩
        have hr : raw = true → (ns.length : Int) ≤ k := fun h => by
          by_cases hh : (k : Int) < ns.length
          · exact absurd ⟨h, hh⟩ hw
          · omega
        unfold bl__law_mixed_1
        cases raw with
        | false => simp [hc, CDiv, CMul, CPow, h1, h2, hv, putC, hms]
        | true =>
          have hr := hr rfl
          have hr3 : ns.length ≤ k := by omega
          simp [hc, CDiv, CMul, CPow, h1, h2, hv, putC, hms, hr, hr3]
    obtain ⟨v, e⟩ := this
    obtain ⟨ms', y5, y6, i1, i2⟩ := mixed_loop ns hl x1 x2' raw m (k + 1) (ms ++ [v]) (some (.dat (.int k))) (some (.dat (.int v))) (by omega) (by simp [hm])
    refine ⟨ms', y5, y6, ?_, by omega⟩
    rw [List.range'_succ, List.map_cons]
    unfold loopF
    simp only [List.map_append, List.map_cons, List.map_nil] at e i1
    simp [e, i1]
theorem v_mixed2 (ns : List Int) (few : Int) (f0 : 0 ≤ few) (hf : few ≤ 63) (hl : ns.length ≤ 63) : ∃ ms : List Int, m__law_mixed [.lst (ns.map .int), .int few] = some (ms.map .int) ∧ ms.length ≤ 63 ∧ few ≤ ms.length := by
  obtain ⟨c, hc⟩ := v_cell ns 0 (by decide)
  have hmin : fMin2 [.int 63, .int (ns.length : Int)] = some (.int (ns.length : Int)) := by
    rw [a_min2]
    by_cases h : (ns.length : Int) < 63
    · rw [if_pos h]
    · rw [if_neg h]; congr 2; omega
  obtain ⟨m, hm, hm2, hm3⟩ : ∃ m : Nat, fMax2 [.int few, .int (ns.length : Int)] = some (.int (m : Int)) ∧ m ≤ 63 ∧ few ≤ m := by
    rw [a_max2]
    by_cases h : (ns.length : Int) > few
    · exact ⟨ns.length, by rw [if_pos h], hl, by omega⟩
    · exact ⟨few.toNat, by rw [if_neg h]; congr 2; omega, by omega, by omega⟩
  obtain ⟨raw, hraw⟩ : ∃ raw, fEq (.int (c % 2)) (.int 0) = some (.bl raw) := ⟨_, a_eqI⟩
  obtain ⟨ms, y5, y6, h, hml⟩ := mixed_loop ns (by omega) (some (.dat (.int few))) (some (.dat (.int m))) raw m 0 [] none none (by omega) rfl
  have hr := rngOk_nat (n := m) (by omega)
  have hrr : rngD 0 m = (List.range' 0 m).map fun (i : Nat) => D.int (i : Int) := by
    unfold rngD
    rw [List.range_eq_range']
    exact congrArg (fun f => List.map f (List.range' 0 m)) (funext fun i => by show D.int (0 + (i : Int)) = _; rw [Int.zero_add])
  have : ∃ β, b__law_mixed (inP 7 2 [.lst (ns.map .int), .int few]) = .ret (.lst (ms.map .int)) β := by
    unfold b__law_mixed inP
    rw [← hrr] at h
    simp only [List.map_nil] at h
    simp [-a_max2, -a_min2, -a_eqI, hmin, hm, hc, hraw, hr, h]
  obtain ⟨β, e⟩ := this
  exact ⟨ms, runL_lst rfl e, by omega, by omega⟩
theorem v_mixed (ns : List Int) (few : Int) (f0 : 0 ≤ few) (hf : few ≤ 63) (hl : ns.length ≤ 63) : ∃ ms : List Int, m__law_mixed [.lst (ns.map .int), .int few] = some (ms.map .int) ∧ ms.length ≤ 63 := by
  obtain ⟨ms, h1, h2, _⟩ := v_mixed2 ns few f0 hf hl
  exact ⟨ms, h1, h2⟩
/-! ### figures as texts: their words -/
abbrev J (ws : List Str) : Str := Txt.join " " ws
def joinL (S : List Nat) : List (List Nat) → List Nat := TL.joinL S
theorem joinL_app (S : List Nat) : ∀ (xs ys : List (List Nat)), xs ≠ [] → ys ≠ [] → TL.joinL S (xs ++ ys) = TL.joinL S xs ++ S ++ TL.joinL S ys
  | [], _, h, _ => absurd rfl h
  | [x], y :: ys, _, _ => by
    show x ++ (S ++ TL.joinL S (y :: ys)) = _
    rw [List.append_assoc]; rfl
  | x :: z :: xs, y :: ys, _, _ => by
    show x ++ (S ++ TL.joinL S (z :: xs ++ y :: ys)) = (x ++ (S ++ TL.joinL S (z :: xs))) ++ S ++ TL.joinL S (y :: ys)
    rw [joinL_app S (z :: xs) (y :: ys) (by simp) (by simp)]
    simp [List.append_assoc]
  | [x], [], _, h => absurd rfl h
  | x :: z :: xs, [], _, h => absurd rfl h
theorem J_tl (ws : List Str) : TL.tl (J ws) = TL.joinL [32] (ws.map TL.tl) := by
  show TL.tl (Txt.join " " ws) = _
  rw [TL.join_eq, TL.tl_join]; rfl
theorem J_app {xs ys : List Str} (hx : xs ≠ []) (hy : ys ≠ []) : J (xs ++ ys) = J xs ++ " " ++ J ys := by
  apply TL.ext_tl
  rw [J_tl, List.map_append, joinL_app _ _ _ (by simpa using hx) (by simpa using hy), TL.tl_append, TL.tl_append, J_tl, J_tl]; rfl
theorem J_one (x : Str) : J [x] = x := by
  apply TL.ext_tl
  rw [J_tl]; rfl
theorem J_cons (x : Str) {ys : List Str} (hy : ys ≠ []) : J (x :: ys) = x ++ " " ++ J ys := by
  have := J_app (xs := [x]) (by simp) hy
  rw [J_one] at this
  exact this
theorem catS_assoc (a b c : Str) : a ++ b ++ c = a ++ (b ++ c) := by
  apply TL.ext_tl
  simp only [TL.tl_append, List.append_assoc]
/-- parts' texts joined -/
theorem J_parts {ι : Type} (f : ι → List Str) (hf : ∀ p, f p ≠ []) (e : Str) : ∀ ps : List ι, J (ps.map (fun p => J (f p)) ++ [e]) = J (ps.flatMap f ++ [e])
  | [] => rfl
  | p :: ps => by
    show J (J (f p) :: (ps.map (fun p => J (f p)) ++ [e])) = J (f p ++ ps.flatMap f ++ [e])
    rw [J_cons _ (by simp), J_parts f hf e ps, List.append_assoc, J_app (hf p) (by simp)]
theorem J_len : ∀ (ws : List Str), (J ws).length ≤ (ws.map (·.length)).sum + ws.length
  | [] => by decide +kernel
  | [x] => by rw [J_one]; simp
  | x :: y :: ws => by
    have := J_len (y :: ws)
    rw [J_cons x (by simp), catS_len, catS_len]
    have h1 : (" " : Str).length = 1 := rfl
    simp only [List.map_cons, List.sum_cons, List.length_cons] at this ⊢
    omega
def Mn.b : Mn → Str
  | .row => "[" | .bag => "{" | .choice => "<" | .ring => "(("
def Mn.e : Mn → Str
  | .row => "]" | .bag => "}" | .choice => ">" | .ring => "))"
mutual
def wds : Fig → List Str
  | .nothing => ["nothing"]
  | .bead c => [c]
  | .left f => "left" :: wds f
  | .right f => "right" :: wds f
  | .pair f g => "(" :: (wds f ++ (wds g ++ [(")" : Str)]))
  | .many k ps => Mn.b k :: (wdss ps ++ [Mn.e k])
def wdss : List Fig → List Str
  | [] => []
  | f :: fs => wds f ++ wdss fs
end
theorem wdss_flat : ∀ fs : List Fig, wdss fs = fs.flatMap wds
  | [] => rfl
  | f :: fs => by rw [wdss, wdss_flat fs]; rfl
theorem wds_ne (f : Fig) : wds f ≠ [] := by cases f <;> simp [wds]
mutual
def wok : Fig → Bool
  | .nothing => true | .bead c => isW c | .left f => wok f | .right f => wok f
  | .pair f g => wok f && wok g | .many _ ps => woks ps
def woks : List Fig → Bool
  | [] => true | f :: fs => wok f && woks fs
end
theorem woks_iff : ∀ {fs : List Fig}, woks fs = true ↔ ∀ f ∈ fs, wok f = true
  | [] => by simp [woks]
  | f :: fs => by simp [woks, woks_iff (fs := fs)]
theorem isW_len {c : Str} (h : isW c = true) : 1 ≤ c.length ∧ c.length ≤ 8 := by
  unfold isW at h
  simp only [Bool.and_eq_true] at h
  exact of_decide_eq_true h.1.1
theorem isW_lets {c : Str} (h : isW c = true) : lets c = true := by
  unfold isW at h
  simp only [Bool.and_eq_true] at h
  exact h.2
theorem isW_ne {c w : Str} (h : isW c = true) (hw : isW w = false) : c ≠ w := by
  rintro rfl
  rw [hw] at h; cases h
theorem isW_ok {c : Str} (h : isW c = true) : PyData.strOk c = true := by
  have := isW_lets h
  unfold lets at this
  rw [List.all_eq_true] at this
  unfold PyData.strOk
  rw [Array.all_eq_true']
  intro x hx
  have h1 := of_decide_eq_true (this x (Array.mem_toList_iff.mpr hx))
  have h2 : ∀ y ∈ ABC.cps, y < 128 := by decide +kernel
  have := h2 x h1
  simp
  omega
/-- how long the words are, together -/
def wsum (ws : List Str) : Nat := (ws.map (·.length)).sum + ws.length
theorem wsum_app (a b : List Str) : wsum (a ++ b) = wsum a + wsum b := by
  unfold wsum
  rw [List.map_append, List.sum_append, List.length_append]; omega
theorem wsum_cons (a : Str) (b : List Str) : wsum (a :: b) = a.length + 1 + wsum b := by
  unfold wsum
  simp only [List.map_cons, List.sum_cons, List.length_cons]; omega
theorem J_wsum (ws : List Str) : (J ws).length ≤ wsum ws := J_len ws
mutual
theorem wds_sum : ∀ f : Fig, wok f = true → wsum (wds f) ≤ 20 * Ab.cnt f
  | .nothing, _ => by show ("nothing" : Str).length + 0 + 1 ≤ _; decide +kernel
  | .bead c, h => by
    have := isW_len h
    show c.length + 0 + 1 ≤ 20 * 1
    omega
  | .left f, h => by
    have := wds_sum f h
    have l : ("left" : Str).length = 4 := rfl
    simp only [wds, wsum_cons, l, Ab.cnt]; omega
  | .right f, h => by
    have := wds_sum f h
    have l : ("right" : Str).length = 5 := rfl
    simp only [wds, wsum_cons, l, Ab.cnt]; omega
  | .pair f g, h => by
    simp only [wok, Bool.and_eq_true] at h
    have h1 := wds_sum f h.1
    have h2 := wds_sum g h.2
    have l : ("(" : Str).length = 1 := rfl
    have l2 : wsum [(")" : Str)] = 2 := rfl
    simp only [wds, wsum_cons, wsum_app, l, l2, Ab.cnt]; omega
  | .many k ps, h => by
    have h1 := wdss_sum ps h
    have l : (Mn.b k).length ≤ 2 := by cases k <;> decide +kernel
    have l2 : wsum [Mn.e k] ≤ 3 := by cases k <;> decide +kernel
    show wsum (Mn.b k :: (wdss ps ++ [Mn.e k])) ≤ 20 * (cnts ps + 1)
    rw [wsum_cons, wsum_app]
    omega
theorem wdss_sum : ∀ fs : List Fig, woks fs = true → wsum (wdss fs) ≤ 20 * cnts fs
  | [], _ => by simp [wdss, wsum]
  | f :: fs, h => by
    simp only [woks, Bool.and_eq_true] at h
    have h1 := wds_sum f h.1
    have h2 := wdss_sum fs h.2
    simp only [wdss, wsum_app, cnts]; omega
end
theorem fCat_ok {a b : Str} (h : a.length + b.length ≤ 100000) : fCatS (.str a) (.str b) = some (.str (a ++ b)) := by
  show (if _ then _ else _) = _
  rw [if_pos h]
theorem djs_of (ys : List Str) : djstrs (ys.map D.str) = some ys := djstrs_of ys
theorem fJoin_ok {ys : List Str} (h : wsum ys ≤ 100000) : fJoin " " (ys.map .str) = some (.str (J ys)) := by
  unfold fJoin
  rw [djs_of, bnd_s, if_pos]
  unfold wsum at h
  have l : (" " : Str).length = 1 := rfl
  rw [l]; omega
/-! ### the words of a text, taken from the first one on -/
def Wf (ws : List Str) (i : Nat) : List (Str × D) := [("all_words", .lst (ws.map .str)), ("at", .int (i : Int))]
abbrev Wc (ws : List Str) (i : Nat) : Ct := .obj "Words" (Wf ws i)
theorem wf_all (ws : List Str) (i : Nat) : (Wf ws i).lookup ("all_words" : Str) = some (.lst (ws.map .str)) := rfl
theorem wf_at (ws : List Str) (i : Nat) : (Wf ws i).lookup ("at" : Str) = some (.int (i : Int)) := rfl
theorem wf_put (ws : List Str) (i j : Nat) : putD "at" (.int (j : Int)) (Wf ws i) = Wf ws j := rfl
theorem wf_no (ws : List Str) (i : Nat) {m : Str} (h1 : m ≠ "all_words") (h2 : m ≠ "at") : (Wf ws i).lookup m = none := by
  unfold Wf
  rw [List.lookup_cons, beq_eq_false_iff_ne.mpr h1]
  dsimp only
  rw [List.lookup_cons, beq_eq_false_iff_ne.mpr h2]
  rfl
def ahd (ws : List Str) (i : Nat) : D := match ws[i]? with | some w => .str w | none => .non
theorem v_ahead (ws : List Str) (i : Nat) : m_Words_ahead [.ins "Words" (Wf ws i)] = some (ahd ws i) := by
  have l1 := wf_all ws i
  have l2 := wf_at ws i
  have fin : (∃ β, b_Words_ahead (inP 1 1 [.ins "Words" (Wf ws i)]) = .ret (.dat (ahd ws i)) β) → m_Words_ahead [.ins "Words" (Wf ws i)] = some (ahd ws i) := fun ⟨β, e⟩ => runP_dat rfl e
  apply fin
  by_cases h : i < ws.length
  · have e1 : atI (ws.map D.str) (i : Int) = some (ahd ws i) := by
      rw [atI_nat' (by simpa using h), List.getElem_map]
      unfold ahd; rw [List.getElem?_eq_getElem h]
    have h' : (i : Int) < (ws.length : Int) := by omega
    generalize Wf ws i = W at *
    unfold b_Words_ahead inP
    simp [l1, l2, e1, h]
  · have e1 : ahd ws i = .non := by unfold ahd; rw [List.getElem?_eq_none (by omega)]
    rw [e1]
    generalize Wf ws i = W at *
    unfold b_Words_ahead inP
    simp [l1, l2, h]
theorem ahd_flat (ws : List Str) (i : Nat) : flat (ahd ws i) = true := by unfold ahd; split <;> rfl
/-- the word ahead of the object in a slot -/
theorem lend_ahead (ws : List Str) (i : Nat) (β : State) : xLend 0 (xMeth [("Words", m_Words_ahead)] "ahead" (xVar 0) aNil) (some (.inn (Wc ws i)) :: β) = some (ahd ws i) := by
  have h := v_ahead ws i
  have hf := ahd_flat ws i
  have hn := wf_no ws i (m := "ahead") (by decide) (by decide)
  unfold Wc
  generalize Wf ws i = W at *
  generalize ahd ws i = d at *
  simp [lendD, hn, List.lookup, h, hf]
theorem m_takes {s : State → Option D} {w u : Str} {ws : List Str} {i : Nat} {β : State} (hs : s (some (.inn (Wc ws i)) :: β) = some (.str w)) (hu : ws[i]? = some u) :
    rMethM 0 "Words" "takes" (noExcM m_Words_takes) (acons (lift s) anil) (some (.inn (Wc ws i)) :: β) = .ok (.bl (decide (u = w))) (some (.inn (Wc ws (if u = w then i + 1 else i))) :: β) := by
  have hn := wf_no ws i (m := "takes") (by decide) (by decide)
  have ha : ahd ws i = .str u := by unfold ahd; rw [hu]
  have hm : noExcM m_Words_takes [.inn (Wc ws i), .dat (.str w)] = .ok (.dat (.bl (decide (u = w)))) [.inn (Wc ws (if u = w then i + 1 else i)), .dat (.str w)] := by
    have hl := lend_ahead ws i [some (.dat (.str w))]
    rw [ha] at hl
    have h2 := wf_at ws i
    have h3 : putD "at" (.int ((i : Int) + 1)) (Wf ws i) = Wf ws (i + 1) := rfl
    have h4 : (Wf ws i).length < 1000 := by show 2 < 1000; decide
    apply noExc_ok
    by_cases h : u = w
    · subst h
      have e : b_Words_takes [some (.inn (Wc ws i)), some (.dat (.str u))] = .ret (.dat (.bl true)) [some (.inn (Wc ws (i + 1))), some (.dat (.str u))] := by
        unfold Wc at *
        generalize Wf ws (i + 1) = W1 at *
        generalize Wf ws i = W at *
        unfold b_Words_takes
        simp [-a_xLend, -a_xMeth, hl, h2, h3, h4, putC]
      rw [if_pos rfl, decide_eq_true rfl]
      exact runM_ret rfl e rfl
    · have e : b_Words_takes [some (.inn (Wc ws i)), some (.dat (.str w))] = .ret (.dat (.bl false)) [some (.inn (Wc ws i)), some (.dat (.str w))] := by
        unfold Wc at *
        generalize Wf ws i = W at *
        unfold b_Words_takes
        simp [-a_xLend, -a_xMeth, hl, h]
      rw [if_neg h, decide_eq_false h]
      exact runM_ret rfl e rfl
  unfold Wc at *
  generalize Wf ws (if u = w then i + 1 else i) = W1 at *
  generalize Wf ws i = W at *
  simp [hn, hs, hm, putC]
theorem runP_nx {n k : Nat} {s : State → Out} {ds : List D} {β : State} (hk : ds.length = k) (h : s (inP n k ds) = .nxt β) : runP n k s ds = some .non := by
  unfold runP; rw [if_pos hk, h]
theorem v_init (t : Str) (ws : List Str) (ht : t.length + 2 ≤ 100000) (hs : Txt.split t " " = ws) : m_Words___init__ [.inn (.obj "Words" []), .dat (.str t)] = .ok (.dat .non) [.inn (Wc ws 0), .dat (.str t)] := by
  have l1 : ((" " : Str).length == 0) = false := rfl
  have e : b_Words___init__ [some (.inn (.obj "Words" [])), some (.dat (.str t))] = .nxt [some (.inn (Wc ws 0)), some (.dat (.str t))] := by
    unfold b_Words___init__ Wc Wf
    simp [hs, ht, l1, putC, putD]
  exact runM_nxt rfl e rfl
/-! ### the words' refusals -/
def noTx (p : Nat) : Exn := ⟨"NoText", [("at", .int (p : Int))]⟩
theorem runM_exc {n k : Nat} {s : State → Out} {as : List A} {x : Exn} (hk : as.length = k) (h : s (inM n k as) = .exc x) : runM n k s as = .exc x := by
  unfold runM; rw [if_pos hk, h]
theorem m_wordR {u : Str} {ws : List Str} {i : Nat} {β : State} (hu : ws[i]? = some u) (hw : isW u = true) :
    rMethM 0 "Words" "word" m_Words_word anil (some (.inn (Wc ws i)) :: β) = .ok (.str u) (some (.inn (Wc ws (i + 1))) :: β) := by
  have hn := wf_no ws i (m := "word") (by decide) (by decide)
  have ha : ahd ws i = .str u := by unfold ahd; rw [hu]
  have hm : m_Words_word [.inn (Wc ws i)] = .ok (.dat (.str u)) [.inn (Wc ws (i + 1))] := by
    have hl := lend_ahead ws i [none]
    rw [ha] at hl
    have h2 := wf_at ws i
    have h3 : putD "at" (.int ((i : Int) + 1)) (Wf ws i) = Wf ws (i + 1) := rfl
    have h4 : (Wf ws i).length < 1000 := by show 2 < 1000; decide
    have hi := v_is_word u (by have := isW_len hw; omega)
    rw [hw] at hi
    have e : b_Words_word [some (.inn (Wc ws i)), none] = .ret (.dat (.str u)) [some (.inn (Wc ws (i + 1))), some (.dat (.str u))] := by
      unfold Wc at *
      generalize Wf ws (i + 1) = W1 at *
      generalize Wf ws i = W at *
      unfold b_Words_word
      simp [-a_xLend, -a_xMeth, hl, h2, h3, h4, hi, putC, fIsN]
    exact runM_ret rfl e rfl
  unfold Wc at *
  generalize Wf ws (i + 1) = W1 at *
  generalize Wf ws i = W at *
  simp [hn, hm, putC]
theorem m_word_no {u : Str} {ws : List Str} {i : Nat} {β : State} (hu : ws[i]? = some u) (hz : u.length ≤ 100000) (hw : isW u = false) :
    rMethM 0 "Words" "word" m_Words_word anil (some (.inn (Wc ws i)) :: β) = .exc (noTx i) := by
  have hn := wf_no ws i (m := "word") (by decide) (by decide)
  have ha : ahd ws i = .str u := by unfold ahd; rw [hu]
  have hm : m_Words_word [.inn (Wc ws i)] = .exc (noTx i) := by
    have hl := lend_ahead ws i [none]
    rw [ha] at hl
    have h2 := wf_at ws i
    have hi := v_is_word u hz
    rw [hw] at hi
    have e : b_Words_word [some (.inn (Wc ws i)), none] = .exc (noTx i) := by
      unfold noTx
      unfold Wc at *
      generalize Wf ws i = W at *
      unfold b_Words_word
      simp [-a_xLend, -a_xMeth, hl, h2, hi, putC, fIsN]
    exact runM_exc rfl e
  unfold Wc at *
  generalize Wf ws i = W at *
  simp [hn, hm, putC]
theorem m_word_end {ws : List Str} {i : Nat} {β : State} (hu : ws[i]? = none) :
    rMethM 0 "Words" "word" m_Words_word anil (some (.inn (Wc ws i)) :: β) = .exc (noTx i) := by
  have hn := wf_no ws i (m := "word") (by decide) (by decide)
  have ha : ahd ws i = .non := by unfold ahd; rw [hu]
  have hm : m_Words_word [.inn (Wc ws i)] = .exc (noTx i) := by
    have hl := lend_ahead ws i [none]
    rw [ha] at hl
    have h2 := wf_at ws i
    have e : b_Words_word [some (.inn (Wc ws i)), none] = .exc (noTx i) := by
      unfold noTx
      unfold Wc at *
      generalize Wf ws i = W at *
      unfold b_Words_word
      simp [-a_xLend, -a_xMeth, hl, h2, putC, fIsN]
    exact runM_exc rfl e
  unfold Wc at *
  generalize Wf ws i = W at *
  simp [hn, hm, putC]
theorem m_takesN {s : State → Option D} {w : Str} {ws : List Str} {i : Nat} {β : State} (hs : s (some (.inn (Wc ws i)) :: β) = some (.str w)) (hu : ws[i]? = none) :
    rMethM 0 "Words" "takes" (noExcM m_Words_takes) (acons (lift s) anil) (some (.inn (Wc ws i)) :: β) = .ok (.bl false) (some (.inn (Wc ws i)) :: β) := by
  have hn := wf_no ws i (m := "takes") (by decide) (by decide)
  have ha : ahd ws i = .non := by unfold ahd; rw [hu]
  have hm : noExcM m_Words_takes [.inn (Wc ws i), .dat (.str w)] = .ok (.dat (.bl false)) [.inn (Wc ws i), .dat (.str w)] := by
    have hl := lend_ahead ws i [some (.dat (.str w))]
    rw [ha] at hl
    have hne : fNe .non (.str w) = some (.bl true) := by simp [fNe, flat, scal, dv]
    apply noExc_ok
    have e : b_Words_takes [some (.inn (Wc ws i)), some (.dat (.str w))] = .ret (.dat (.bl false)) [some (.inn (Wc ws i)), some (.dat (.str w))] := by
      unfold Wc at *
      generalize Wf ws i = W at *
      unfold b_Words_takes
      simp [-a_xLend, -a_xMeth, hl, hne]
    exact runM_ret rfl e rfl
  unfold Wc at *
  generalize Wf ws i = W at *
  simp [hn, hs, hm, putC]
theorem t_yes {s : State → Option D} {w : Str} {ws : List Str} {i : Nat} {β : State} (hs : s (some (.inn (Wc ws i)) :: β) = some (.str w)) (hu : ws[i]? = some w) :
    rB (rMethM 0 "Words" "takes" (noExcM m_Words_takes) (acons (lift s) anil)) (some (.inn (Wc ws i)) :: β) = .ok true (some (.inn (Wc ws (i + 1))) :: β) := by
  unfold rB
  rw [m_takes hs hu, if_pos rfl, decide_eq_true rfl]
theorem t_else {s : State → Option D} {w : Str} {ws : List Str} {i : Nat} {β : State} (hs : s (some (.inn (Wc ws i)) :: β) = some (.str w)) (hu : ws[i]? ≠ some w) :
    rB (rMethM 0 "Words" "takes" (noExcM m_Words_takes) (acons (lift s) anil)) (some (.inn (Wc ws i)) :: β) = .ok false (some (.inn (Wc ws i)) :: β) := by
  unfold rB
  cases hx : ws[i]? with
  | some u =>
    have h : u ≠ w := fun z => hu (by rw [hx, z])
    rw [m_takes hs hx, if_neg h, decide_eq_false h]
  | none => rw [m_takesN hs hx]
theorem m_needR {w : Str} {ws : List Str} {i : Nat} {β : State} (hu : ws[i]? = some w) :
    rMethM 0 "Words" "need" m_Words_need (acons (lift (xC (.str w))) anil) (some (.inn (Wc ws i)) :: β) = .ok .non (some (.inn (Wc ws (i + 1))) :: β) := by
  have hn := wf_no ws i (m := "need") (by decide) (by decide)
  have hm : m_Words_need [.inn (Wc ws i), .dat (.str w)] = .ok (.dat .non) [.inn (Wc ws (i + 1)), .dat (.str w)] := by
    have ht := t_yes (s := xVar 1) (w := w) (β := [some (.dat (.str w))]) rfl hu
    have e : b_Words_need [some (.inn (Wc ws i)), some (.dat (.str w))] = .nxt [some (.inn (Wc ws (i + 1))), some (.dat (.str w))] := by
      unfold b_Words_need sIf rNot
      rw [ht]; rfl
    exact runM_nxt rfl e rfl
  unfold Wc at *
  generalize Wf ws (i + 1) = W1 at *
  generalize Wf ws i = W at *
  simp [hn, hm, putC]
theorem m_need_no {w : Str} {ws : List Str} {i : Nat} {β : State} (hu : ws[i]? ≠ some w) :
    rMethM 0 "Words" "need" m_Words_need (acons (lift (xC (.str w))) anil) (some (.inn (Wc ws i)) :: β) = .exc (noTx i) := by
  have hn := wf_no ws i (m := "need") (by decide) (by decide)
  have h2 := wf_at ws i
  have hm : m_Words_need [.inn (Wc ws i), .dat (.str w)] = .exc (noTx i) := by
    have ht := t_else (s := xVar 1) (w := w) (β := [some (.dat (.str w))]) rfl hu
    have e : b_Words_need [some (.inn (Wc ws i)), some (.dat (.str w))] = .exc (noTx i) := by
      unfold b_Words_need sIf rNot
      rw [ht]
      unfold noTx
      unfold Wc at *
      generalize Wf ws i = W at *
      simp [h2]
    exact runM_exc rfl e
  unfold Wc at *
  generalize Wf ws i = W at *
  simp [hn, hm, putC]
theorem m_end_ok (a : Option A) (ws : List Str) (β : State) : rMethM 1 "Words" "end" m_Words_end anil (a :: some (.own (Wc ws ws.length)) :: β) = .ok .non (a :: some (.own (Wc ws ws.length)) :: β) := by
  have hn := wf_no ws ws.length (m := "end") (by decide) (by decide)
  have hn2 := wf_no ws ws.length (m := "ahead") (by decide) (by decide)
  have h := v_ahead ws ws.length
  have ha : ahd ws ws.length = .non := by unfold ahd; rw [List.getElem?_eq_none (by omega)]
  rw [ha] at h
  have hm : m_Words_end [.inn (Wc ws ws.length)] = .ok (.dat .non) [.inn (Wc ws ws.length)] := by
    have hl := lend_ahead ws ws.length []
    rw [ha] at hl
    have e : b_Words_end [some (.inn (Wc ws ws.length))] = .nxt [some (.inn (Wc ws ws.length))] := by
      unfold Wc at *
      generalize Wf ws ws.length = W at *
      unfold b_Words_end
      simp [-a_xLend, -a_xMeth, hl, fNotN]
    exact runM_nxt rfl e rfl
  unfold Wc at *
  generalize Wf ws ws.length = W at *
  simp [hn, hm, putC]
theorem m_end_no (a : Option A) {ws : List Str} {i : Nat} (hi : i < ws.length) (β : State) : rMethM 1 "Words" "end" m_Words_end anil (a :: some (.own (Wc ws i)) :: β) = .exc (noTx i) := by
  have hn := wf_no ws i (m := "end") (by decide) (by decide)
  have ha : ahd ws i = .str ws[i] := by unfold ahd; rw [List.getElem?_eq_getElem hi]
  have hm : m_Words_end [.inn (Wc ws i)] = .exc (noTx i) := by
    have hl := lend_ahead ws i []
    rw [ha] at hl
    have h2 := wf_at ws i
    have e : b_Words_end [some (.inn (Wc ws i))] = .exc (noTx i) := by
      unfold noTx
      unfold Wc at *
      generalize Wf ws i = W at *
      unfold b_Words_end
      simp [-a_xLend, -a_xMeth, hl, h2, fNotN]
    exact runM_exc rfl e
  unfold Wc at *
  generalize Wf ws i = W at *
  simp [hn, hm, putC]
end W_k15
end
section
set_option maxRecDepth 100000
set_option maxHeartbeats 2000000
namespace W_k15
open PySem L2 PyProof.Rows PySem.Spec Ab
/-! ### the walk of a writing's text word by word, and where the readers refuse -/
inductive Fe where
  | top | side | par | shut (k : Mn)
  deriving DecidableEq
abbrev Fr := Fe × Nat
def Fe.s : Fe → Str
  | .top => "end" | .side => "side" | .par => ")" | .shut k => Mn.e k
def dn : List Fr → List Fr
  | [] => []
  | (.side, _) :: r => dn r
  | (.top, n) :: r => (.top, n + 1) :: r
  | (.par, n) :: r => (.par, n + 1) :: r
  | (.shut k, n) :: r => (.shut k, n + 1) :: r
def cl (w : Str) : Bool := decide (w ∈ ([")", "))", "]", "}", ">"] : List Str))
def op (w : Str) : Bool := decide (w ∈ (["(", "((", "[", "{", "<"] : List Str))
def opF (w : Str) : Fe := if w = "(" then .par else if w = "((" then .shut .ring else if w = "[" then .shut .row else if w = "{" then .shut .bag else .shut .choice
def tk : List Fr → Str → Option (List Fr)
  | [], _ => none
  | (e, n) :: r, w =>
    if e = .top ∧ n = 1 ∨ e = .par ∧ n = 2 ∧ w ≠ ")" then none
    else if cl w = true then (if w ≠ e.s ∨ (w = ")" ∧ n ≠ 2) then none else some (dn r))
    else if op w = true then some ((opF w, 0) :: (e, n) :: r)
    else if w = "left" ∨ w = "right" then some ((.side, 0) :: (e, n) :: r)
    else if w = "nothing" ∨ isW w = true then some (dn ((e, n) :: r))
    else none
theorem tk_at (e : Fe) (n : Nat) (r : List Fr) (w : Str) : tk ((e, n) :: r) w =
    if e = .top ∧ n = 1 ∨ e = .par ∧ n = 2 ∧ w ≠ ")" then none
    else if cl w = true then (if w ≠ e.s ∨ (w = ")" ∧ n ≠ 2) then none else some (dn r))
    else if op w = true then some ((opF w, 0) :: (e, n) :: r)
    else if w = "left" ∨ w = "right" then some ((.side, 0) :: (e, n) :: r)
    else if w = "nothing" ∨ isW w = true then some (dn ((e, n) :: r))
    else none := rfl
def fl : List Fr → List Str → Nat → Option Nat
  | fr, [], i => if fr = [(.top, 1)] then none else some i
  | fr, w :: r, i => match tk fr w with
    | none => some i
    | some fr' => fl fr' r (i + 1)
theorem fl_cons {fr fr' : List Fr} {w : Str} {r : List Str} {i : Nat} (h : tk fr w = some fr') : fl fr (w :: r) i = fl fr' r (i + 1) := by
  show (match tk fr w with | none => some i | some fr' => fl fr' r (i + 1)) = _
  rw [h]
theorem fl_no {fr : List Fr} {w : Str} {r : List Str} {i : Nat} (h : tk fr w = none) : fl fr (w :: r) i = some i := by
  show (match tk fr w with | none => some i | some fr' => fl fr' r (i + 1)) = _
  rw [h]
/-- a writing may begin -/
def Op (fr : List Fr) (o : Option Str) : Prop := match fr with
  | [] => False
  | (.top, n) :: _ => n ≠ 1
  | (.par, n) :: _ => n ≠ 2
  | (.shut k, _) :: _ => o ≠ some (Mn.e k)
  | (.side, _) :: _ => True
theorem cl_e (k : Mn) : cl (Mn.e k) = true := by cases k <;> decide +kernel
theorem e_ne (k : Mn) : Mn.e k ≠ ")" := by cases k <;> decide +kernel
theorem tk_first {fr : List Fr} {w : Str} {e : Fe} {n : Nat} {r : List Fr} (hf : fr = (e, n) :: r) (h : Op fr (some w)) : ¬ (e = .top ∧ n = 1 ∨ e = .par ∧ n = 2 ∧ w ≠ ")") := by
  subst hf
  rintro (⟨rfl, rfl⟩ | ⟨rfl, rfl, _⟩)
  · exact h rfl
  · exact h rfl
theorem tk_cl {fr : List Fr} {w : Str} (h : Op fr (some w)) (hc : cl w = true) : tk fr w = none := by
  cases fr with
  | nil => rfl
  | cons p r =>
    obtain ⟨e, n⟩ := p
    have h1 := tk_first rfl h
    rw [tk_at, if_neg h1, if_pos hc]
    refine if_pos ?_
    cases e with
    | top => left; intro z; subst z; exact absurd hc (by decide +kernel)
    | side => left; intro z; subst z; exact absurd hc (by decide +kernel)
    | par =>
      by_cases z : w = ")"
      · exact .inr ⟨z, h⟩
      · exact .inl z
    | shut k => left; intro z; exact h (by rw [z]; rfl)
theorem tk_nc {fr : List Fr} {w : Str} (h : Op fr (some w)) (hc : cl w = false) : tk fr w = if op w = true then some ((opF w, 0) :: fr) else if w = "left" ∨ w = "right" then some ((.side, 0) :: fr) else if w = "nothing" ∨ isW w = true then some (dn fr) else none := by
  cases fr with
  | nil => exact h.elim
  | cons p r =>
    obtain ⟨e, n⟩ := p
    have h1 := tk_first rfl h
    rw [tk_at, if_neg h1, hc, if_neg (by simp)]
theorem Op_ne {fr : List Fr} {o : Option Str} (h : Op fr o) : fr ≠ [(.top, 1)] := by rintro rfl; exact h rfl
theorem dn_side (n : Nat) (fr : List Fr) : dn ((.side, n) :: fr) = dn fr := rfl
/-! ### the readers -/
def wgt (w : Str) : Nat := if w = "[" ∨ w = "{" ∨ w = "<" ∨ w = "((" then 2 else if w = "(" ∨ w = "left" ∨ w = "right" then 1 else 0
def mu : List Str → Nat
  | [] => 0
  | w :: r => wgt w + mu r
theorem mu_cons (w : Str) (r : List Str) : mu (w :: r) = wgt w + mu r := rfl
theorem mu_drop (ws : List Str) (i : Nat) : mu (ws.drop (i + 1)) ≤ mu (ws.drop i) := by
  by_cases h : i < ws.length
  · rw [List.drop_eq_getElem_cons h, mu_cons]; omega
  · rw [List.drop_eq_nil_of_le (by omega : ws.length ≤ i + 1), List.drop_eq_nil_of_le (by omega : ws.length ≤ i)]; exact Nat.le_refl _
theorem mu_mono (ws : List Str) (i : Nat) : ∀ k : Nat, mu (ws.drop (i + k)) ≤ mu (ws.drop i)
  | 0 => Nat.le_refl _
  | k + 1 => Nat.le_trans (mu_drop ws (i + k)) (mu_mono ws i k)
theorem mu_le (ws : List Str) {i j : Nat} (h : i ≤ j) : mu (ws.drop j) ≤ mu (ws.drop i) := by
  have := mu_mono ws i (j - i)
  rwa [show i + (j - i) = j by omega] at this
structure Good (ws : List Str) : Prop where
  len : ws.length ≤ 900
  sz : ∀ u ∈ ws, u.length ≤ 100000
theorem call_in {m : List A → MRes} {ct ct' : Ct} {d : D} {β : State} (h : m [.inn ct] = .ok (.dat d) [.inn ct']) : rCallM m (aslot 0 anil) (some (.inn ct) :: β) = .ok d (some (.inn ct') :: β) := by
  simp [h, putC]
theorem call_exc {m : List A → MRes} {ct : Ct} {x : Exn} {β : State} (h : m [.inn ct] = .exc x) : rCallM m (aslot 0 anil) (some (.inn ct) :: β) = .exc x := by
  simp [h]
theorem call_in2 {m : List A → MRes} {ct ct' : Ct} {d x : D} {s : State → Option D} {β : State} (hs : s (some (.inn ct) :: β) = some x) (h : m [.inn ct, .dat x] = .ok (.dat d) [.inn ct', .dat x]) : rCallM m (aslot 0 (acons (lift s) anil)) (some (.inn ct) :: β) = .ok d (some (.inn ct') :: β) := by
  simp [hs, h, putC]
theorem call_exc2 {m : List A → MRes} {ct : Ct} {y : Exn} {x : D} {s : State → Option D} {β : State} (hs : s (some (.inn ct) :: β) = some x) (h : m [.inn ct, .dat x] = .exc y) : rCallM m (aslot 0 (acons (lift s) anil)) (some (.inn ct) :: β) = .exc y := by
  simp [hs, h]
def WR (n : Nat) : Prop := ∀ ws i, Good ws → i ≤ ws.length → mu (ws.drop i) + 1 ≤ n →
  (∃ xs j, i < j ∧ j ≤ ws.length ∧ mF_whole_writing n [.inn (Wc ws i)] = .ok (.dat (.tup xs)) [.inn (Wc ws j)] ∧ ∀ fr, Op fr ws[i]? → fl fr (ws.drop i) i = fl (dn fr) (ws.drop j) j) ∨
  (∃ p, mF_whole_writing n [.inn (Wc ws i)] = .exc (noTx p) ∧ ∀ fr, Op fr ws[i]? → fl fr (ws.drop i) i = some p)
def PR (n : Nat) : Prop := ∀ ws i (k : Mn), Good ws → i ≤ ws.length → mu (ws.drop i) + 2 ≤ n →
  (∃ xs j, i < j ∧ j ≤ ws.length ∧ mF_parts_up_to n [.inn (Wc ws i), .dat (.str (Mn.e k))] = .ok (.dat (.tup xs)) [.inn (Wc ws j), .dat (.str (Mn.e k))] ∧ ∀ fr m, fl ((.shut k, m) :: fr) (ws.drop i) i = fl (dn fr) (ws.drop j) j) ∨
  (∃ p, mF_parts_up_to n [.inn (Wc ws i), .dat (.str (Mn.e k))] = .exc (noTx p) ∧ ∀ fr m, fl ((.shut k, m) :: fr) (ws.drop i) i = some p)
theorem parts_loopR {n i0 : Nat} (k : Mn) (ws : List Str) (hg : Good ws) (hf : ∀ i, i0 ≤ i → i ≤ ws.length →
    (∃ xs j, i < j ∧ j ≤ ws.length ∧ mF_whole_writing n [.inn (Wc ws i)] = .ok (.dat (.tup xs)) [.inn (Wc ws j)] ∧ ∀ fr, Op fr ws[i]? → fl fr (ws.drop i) i = fl (dn fr) (ws.drop j) j) ∨
    (∃ p, mF_whole_writing n [.inn (Wc ws i)] = .exc (noTx p) ∧ ∀ fr, Op fr ws[i]? → fl fr (ws.drop i) i = some p)) : ∀ (fuel i : Nat) (xs : List D), i0 ≤ i → i ≤ ws.length → xs.length ≤ i → ws.length - i < fuel →
    (∃ ys j, i < j ∧ j ≤ ws.length ∧ loopW (bt_parts_up_to_2 (mF_parts_up_to n) (mF_whole_writing n)) (bl_parts_up_to_1 (mF_parts_up_to n) (mF_whole_writing n)) fuel [some (.inn (Wc ws i)), some (.dat (.str (Mn.e k))), some (.own (.lst xs))] = .nxt [some (.inn (Wc ws j)), some (.dat (.str (Mn.e k))), some (.own (.lst ys))] ∧ ∀ fr m, fl ((.shut k, m) :: fr) (ws.drop i) i = fl (dn fr) (ws.drop j) j) ∨
    (∃ p, loopW (bt_parts_up_to_2 (mF_parts_up_to n) (mF_whole_writing n)) (bl_parts_up_to_1 (mF_parts_up_to n) (mF_whole_writing n)) fuel [some (.inn (Wc ws i)), some (.dat (.str (Mn.e k))), some (.own (.lst xs))] = .exc (noTx p) ∧ ∀ fr m, fl ((.shut k, m) :: fr) (ws.drop i) i = some p)
  | 0, i, xs, _, _, _, h => absurd h (Nat.not_lt_zero _)
  | fuel + 1, i, xs, hk, hi, hx, hl => by
    by_cases hu : ws[i]? = some (Mn.e k)
    · have hlt : i < ws.length := by
        by_cases c : i < ws.length
        · exact c
        · rw [List.getElem?_eq_none (by omega)] at hu; cases hu
      have hw : ws[i] = Mn.e k := by rw [List.getElem?_eq_getElem hlt] at hu; exact Option.some.inj hu
      have hd : ws.drop i = Mn.e k :: ws.drop (i + 1) := by rw [List.drop_eq_getElem_cons hlt, hw]
      have ht : bt_parts_up_to_2 (mF_parts_up_to n) (mF_whole_writing n) [some (.inn (Wc ws i)), some (.dat (.str (Mn.e k))), some (.own (.lst xs))] = .ok false [some (.inn (Wc ws (i + 1))), some (.dat (.str (Mn.e k))), some (.own (.lst xs))] := by
        unfold bt_parts_up_to_2 rNot
        rw [t_yes (s := xVar 1) rfl hu]; rfl
      refine .inl ⟨xs, i + 1, by omega, hlt, by rw [loopW, ht], fun fr m => ?_⟩
      rw [hd]
      refine fl_cons ?_
      rw [tk_at, if_neg (by simp), if_pos (cl_e k), if_neg]
      rintro (z | ⟨z, _⟩)
      · exact z rfl
      · exact e_ne k z
    · have ht : bt_parts_up_to_2 (mF_parts_up_to n) (mF_whole_writing n) [some (.inn (Wc ws i)), some (.dat (.str (Mn.e k))), some (.own (.lst xs))] = .ok true [some (.inn (Wc ws i)), some (.dat (.str (Mn.e k))), some (.own (.lst xs))] := by
        unfold bt_parts_up_to_2 rNot
        rw [t_else (s := xVar 1) rfl hu]; rfl
      rcases hf i hk hi with ⟨zs, j, h1, h2, h4, h5⟩ | ⟨p, h4, h5⟩
      · have hb : bl_parts_up_to_1 (mF_parts_up_to n) (mF_whole_writing n) [some (.inn (Wc ws i)), some (.dat (.str (Mn.e k))), some (.own (.lst xs))] = .nxt [some (.inn (Wc ws j)), some (.dat (.str (Mn.e k))), some (.own (.lst (xs ++ [.tup zs])))] := by
          unfold bl_parts_up_to_1
          have hlt : xs.length < 100000 := by have := hg.len; omega
          simp only [a_sApp, call_in h4]
          simp [hlt, putC]
        have el : loopW (bt_parts_up_to_2 (mF_parts_up_to n) (mF_whole_writing n)) (bl_parts_up_to_1 (mF_parts_up_to n) (mF_whole_writing n)) (fuel + 1) [some (.inn (Wc ws i)), some (.dat (.str (Mn.e k))), some (.own (.lst xs))] = loopW (bt_parts_up_to_2 (mF_parts_up_to n) (mF_whole_writing n)) (bl_parts_up_to_1 (mF_parts_up_to n) (mF_whole_writing n)) fuel [some (.inn (Wc ws j)), some (.dat (.str (Mn.e k))), some (.own (.lst (xs ++ [.tup zs])))] := by
          rw [loopW, ht]; dsimp only; rw [hb]
        rw [el]
        rcases parts_loopR k ws hg hf fuel j (xs ++ [.tup zs]) (by omega) h2 (by simp; omega) (by omega) with ⟨ys, j', k1, k2, k4, k5⟩ | ⟨p, k4, k5⟩
        · exact .inl ⟨ys, j', by omega, k2, k4, fun fr m => by rw [h5 ((.shut k, m) :: fr) hu]; exact k5 fr (m + 1)⟩
        · exact .inr ⟨p, k4, fun fr m => by rw [h5 ((.shut k, m) :: fr) hu]; exact k5 fr (m + 1)⟩
      · refine .inr ⟨p, ?_, fun fr m => h5 _ hu⟩
        have hb : bl_parts_up_to_1 (mF_parts_up_to n) (mF_whole_writing n) [some (.inn (Wc ws i)), some (.dat (.str (Mn.e k))), some (.own (.lst xs))] = .exc (noTx p) := by
          unfold bl_parts_up_to_1
          simp only [a_sApp, call_exc h4]
          rfl
        rw [loopW, ht]; dsimp only; rw [hb]
theorem partsR {n : Nat} (h : WR n) : PR (n + 1) := fun ws i k hg hi hn => by
  have hf := fun i' (h1 : i ≤ i') (h2 : i' ≤ ws.length) => h ws i' hg h2 (by have := mu_le ws h1; omega)
  rcases parts_loopR k ws hg hf 1000 i [] (Nat.le_refl _) hi (Nat.zero_le _) (by have := hg.len; omega) with ⟨ys, j, k1, k2, k4, k5⟩ | ⟨p, k4, k5⟩
  · refine .inl ⟨ys, j, k1, k2, ?_, k5⟩
    have hb : b_parts_up_to (mF_parts_up_to n) (mF_whole_writing n) [some (.inn (Wc ws i)), some (.dat (.str (Mn.e k))), none] = .ret (.dat (.tup ys)) [some (.inn (Wc ws j)), some (.dat (.str (Mn.e k))), some (.own (.lst ys))] := by
      unfold b_parts_up_to
      simp [k4]
    exact runM_ret rfl hb rfl
  · refine .inr ⟨p, ?_, k5⟩
    have hb : b_parts_up_to (mF_parts_up_to n) (mF_whole_writing n) [some (.inn (Wc ws i)), some (.dat (.str (Mn.e k))), none] = .exc (noTx p) := by
      unfold b_parts_up_to
      simp [k4]
    exact runM_exc rfl hb
end W_k15
end
section
set_option maxRecDepth 100000
set_option maxHeartbeats 2000000
namespace W_k15
open PySem L2 PyProof.Rows PySem.Spec Ab
/-! ### a writing -/
theorem ne_some {ws : List Str} {i : Nat} {u w : Str} (h : ws[i]? = some u) (hn : u ≠ w) : ws[i]? ≠ some w := fun z => hn (by rw [h] at z; exact Option.some.inj z)
theorem wr_fin {n i j : Nat} {o : D} {ws : List Str} {β : State} (h : b_whole_writing (mF_parts_up_to n) (mF_whole_writing n) [some (.inn (Wc ws i)), none, none, none, none] = .ret (.dat o) (some (.inn (Wc ws j)) :: β)) (hb : backA [.inn (Wc ws i)] (some (.inn (Wc ws j)) :: β) = some [.inn (Wc ws j)] := by rfl) : mF_whole_writing (n + 1) [.inn (Wc ws i)] = .ok (.dat o) [.inn (Wc ws j)] :=
  runM_ret rfl h hb
theorem wr_exc {n i : Nat} {x : Exn} {ws : List Str} (h : b_whole_writing (mF_parts_up_to n) (mF_whole_writing n) [some (.inn (Wc ws i)), none, none, none, none] = .exc x) : mF_whole_writing (n + 1) [.inn (Wc ws i)] = .exc x :=
  runM_exc rfl h
abbrev BG : State → Option D := x1 (fIxC [("row", .str "["), ("bag", .str "{"), ("choice", .str "<"), ("ring", .str "((")]) (xVar 4)
abbrev EN : State → Option D := x1 (fIxC [("row", .str "]"), ("bag", .str "}"), ("choice", .str ">"), ("ring", .str "))")]) (xVar 4)
structure NoBeg (ws : List Str) (i : Nat) : Prop where
  a : ws[i]? ≠ some ("nothing" : Str)
  b : ws[i]? ≠ some ("left" : Str)
  c : ws[i]? ≠ some ("right" : Str)
  d : ws[i]? ≠ some ("(" : Str)
  e : ∀ k : Mn, ws[i]? ≠ some (Mn.b k)
theorem wr_wd {n i : Nat} {ws : List Str} (h : NoBeg ws i) : b_whole_writing (mF_parts_up_to n) (mF_whole_writing n) [some (.inn (Wc ws i)), none, none, none, none] =
    sSeq (sIf (liftB (asB (x2 fIsN (xLend 0 (xMeth [("Words", m_Words_ahead)] "ahead" (xVar 0) aNil)) (xC .non)))) (sRaise1 "NoText" "at" (xFldO 0 "Words" "at")) sNext) (sRet (rTup (acons (lift (xC (.str "bead"))) (acons (rMethM 0 "Words" "word" m_Words_word anil) anil)))) [some (.inn (Wc ws i)), some (.dat (.str "right")), none, none, some (.dat (.str "ring"))] := by
  have n1 := fun β => t_else (s := xC (.str "nothing")) (β := β) rfl h.a
  have n2 := fun β => t_else (s := xVar 1) (w := "left") (β := some (.dat (.str "left")) :: β) rfl h.b
  have n3 := fun β => t_else (s := xVar 1) (w := "right") (β := some (.dat (.str "right")) :: β) rfl h.c
  have n4 := fun β => t_else (s := xC (.str "(")) (β := β) rfl h.d
  have n5 := fun a b c => t_else (s := BG) (w := "[") (β := [a, b, c, some (.dat (.str "row"))]) rfl (h.e .row)
  have n6 := fun a b c => t_else (s := BG) (w := "{") (β := [a, b, c, some (.dat (.str "bag"))]) rfl (h.e .bag)
  have n7 := fun a b c => t_else (s := BG) (w := "<") (β := [a, b, c, some (.dat (.str "choice"))]) rfl (h.e .choice)
  have n8 := fun a b c => t_else (s := BG) (w := "((") (β := [a, b, c, some (.dat (.str "ring"))]) rfl (h.e .ring)
  unfold b_whole_writing
  simp only [a_sSeq, a_sIf, n1, a_sNext]
  simp [-a_xLend, -a_xMeth, -a_rMethM, loopF, bl_whole_writing_1, bl_whole_writing_2, n2, n3, n4, n5, n6, n7, n8]
theorem op_cases {u : Str} (h : op u = true) : u = "(" ∨ ∃ k : Mn, u = Mn.b k := by
  unfold op at h
  have h := of_decide_eq_true h
  simp only [List.mem_cons, List.not_mem_nil, or_false] at h
  rcases h with h | h | h | h | h
  · exact .inl h
  · exact .inr ⟨.ring, h⟩
  · exact .inr ⟨.row, h⟩
  · exact .inr ⟨.bag, h⟩
  · exact .inr ⟨.choice, h⟩
theorem op_b (k : Mn) : op (Mn.b k) = true ∧ cl (Mn.b k) = false ∧ opF (Mn.b k) = .shut k ∧ wgt (Mn.b k) = 2 := by cases k <;> decide +kernel
theorem cl_cases {u : Str} (h : cl u = true) : isW u = false := by
  unfold cl at h
  have h := of_decide_eq_true h
  simp only [List.mem_cons, List.not_mem_nil, or_false] at h
  rcases h with rfl | rfl | rfl | rfl | rfl <;> decide +kernel
theorem op_isW {u : Str} (h : op u = true) : isW u = false := by
  rcases op_cases h with rfl | ⟨k, rfl⟩
  · decide +kernel
  · cases k <;> decide +kernel
theorem wholeR {n : Nat} (hW : WR n) (hP : PR n) : WR (n + 1) := fun ws i hg hi hn => by
  by_cases hlt : i < ws.length
  · have hu : ws[i]? = some ws[i] := List.getElem?_eq_getElem hlt
    have hdr : ws.drop i = ws[i] :: ws.drop (i + 1) := List.drop_eq_getElem_cons hlt
    have hsz := hg.sz ws[i] (List.getElem_mem hlt)
    rw [hdr, mu_cons] at hn
    generalize ws[i] = u at *
    by_cases hno : u = "nothing"
    · subst hno
      refine .inl ⟨[.str "nothing"], i + 1, by omega, hlt, ?_, fun fr ho => ?_⟩
      · have n1 := fun β => t_yes (s := xC (.str "nothing")) (β := β) rfl hu
        refine wr_fin (β := [none, none, none, none]) ?_
        unfold b_whole_writing
        simp only [a_sSeq, a_sIf, n1]
        simp
      · rw [hu] at ho
        rw [hdr]
        refine fl_cons ?_
        rw [tk_nc ho (by decide +kernel), if_neg (by decide +kernel), if_neg (by decide +kernel), if_pos (.inl rfl)]
    have n1 := fun β => t_else (s := xC (.str "nothing")) (β := β) rfl (ne_some (w := "nothing") hu hno)
    by_cases hle : u = "left"
    · subst hle
      have hs : ∀ fr, Op fr ws[i]? → fl fr (ws.drop i) i = fl ((.side, 0) :: fr) (ws.drop (i + 1)) (i + 1) := fun fr ho => by
        rw [hu] at ho
        rw [hdr]
        refine fl_cons ?_
        rw [tk_nc ho (by decide +kernel), if_neg (by decide +kernel), if_pos (.inl rfl)]
      have n2 := fun β => t_yes (s := xVar 1) (w := "left") (β := some (.dat (.str "left")) :: β) rfl hu
      have hw : wgt "left" = 1 := by decide +kernel
      rw [hw] at hn
      rcases hW ws (i + 1) hg (by omega) (by omega) with ⟨zs, j, h1, h2, h4, h5⟩ | ⟨p, h4, h5⟩
      · refine .inl ⟨[.str "left", .tup zs], j, by omega, h2, ?_, fun fr ho => by rw [hs fr ho, h5 ((.side, 0) :: fr) trivial]; rfl⟩
        have hcall := fun β => call_in (β := β) h4
        refine wr_fin (β := [some (.dat (.str "left")), none, none, none]) ?_
        unfold b_whole_writing
        simp only [a_sSeq, a_sIf, n1, a_sNext]
        simp [-a_rMethM, -a_rCallM, loopF, bl_whole_writing_1, n2, hcall]
      · refine .inr ⟨p, ?_, fun fr ho => by rw [hs fr ho, h5 ((.side, 0) :: fr) trivial]⟩
        have hcall := fun β => call_exc (β := β) h4
        refine wr_exc ?_
        generalize noTx p = x at *
        unfold b_whole_writing
        simp only [a_sSeq, a_sIf, n1, a_sNext]
        simp [-a_rMethM, -a_rCallM, loopF, bl_whole_writing_1, n2, hcall]
    have n2 := fun β => t_else (s := xVar 1) (w := "left") (β := some (.dat (.str "left")) :: β) rfl (ne_some (w := "left") hu hle)
    by_cases hri : u = "right"
    · subst hri
      have hs : ∀ fr, Op fr ws[i]? → fl fr (ws.drop i) i = fl ((.side, 0) :: fr) (ws.drop (i + 1)) (i + 1) := fun fr ho => by
        rw [hu] at ho
        rw [hdr]
        refine fl_cons ?_
        rw [tk_nc ho (by decide +kernel), if_neg (by decide +kernel), if_pos (.inr rfl)]
      have n3 := fun β => t_yes (s := xVar 1) (w := "right") (β := some (.dat (.str "right")) :: β) rfl hu
      have hw : wgt "right" = 1 := by decide +kernel
      rw [hw] at hn
      rcases hW ws (i + 1) hg (by omega) (by omega) with ⟨zs, j, h1, h2, h4, h5⟩ | ⟨p, h4, h5⟩
      · refine .inl ⟨[.str "right", .tup zs], j, by omega, h2, ?_, fun fr ho => by rw [hs fr ho, h5 ((.side, 0) :: fr) trivial]; rfl⟩
        have hcall := fun β => call_in (β := β) h4
        refine wr_fin (β := [some (.dat (.str "right")), none, none, none]) ?_
        unfold b_whole_writing
        simp only [a_sSeq, a_sIf, n1, a_sNext]
        simp [-a_rMethM, -a_rCallM, loopF, bl_whole_writing_1, n2, n3, hcall]
      · refine .inr ⟨p, ?_, fun fr ho => by rw [hs fr ho, h5 ((.side, 0) :: fr) trivial]⟩
        have hcall := fun β => call_exc (β := β) h4
        refine wr_exc ?_
        generalize noTx p = x at *
        unfold b_whole_writing
        simp only [a_sSeq, a_sIf, n1, a_sNext]
        simp [-a_rMethM, -a_rCallM, loopF, bl_whole_writing_1, n2, n3, hcall]
    have n3 := fun β => t_else (s := xVar 1) (w := "right") (β := some (.dat (.str "right")) :: β) rfl (ne_some (w := "right") hu hri)
    by_cases hpa : u = "("
    · subst hpa
      have hs : ∀ fr, Op fr ws[i]? → fl fr (ws.drop i) i = fl ((.par, 0) :: fr) (ws.drop (i + 1)) (i + 1) := fun fr ho => by
        rw [hu] at ho
        rw [hdr]
        refine fl_cons ?_
        rw [tk_nc ho (by decide +kernel), if_pos (by decide +kernel)]; rfl
      have n4 := fun β => t_yes (s := xC (.str "(")) (w := "(") (β := β) rfl hu
      have hw : wgt "(" = 1 := by decide +kernel
      rw [hw] at hn
      rcases hW ws (i + 1) hg (by omega) (by omega) with ⟨zs, j, h1, h2, h4, h5⟩ | ⟨p, h4, h5⟩
      · have hs2 : ∀ fr, Op fr ws[i]? → fl fr (ws.drop i) i = fl ((.par, 1) :: fr) (ws.drop j) j := fun fr ho => by
          rw [hs fr ho, h5 ((.par, 0) :: fr) (show (0 : Nat) ≠ 2 by decide)]; rfl
        have c1 := fun β => call_in (β := β) h4
        rcases hW ws j hg h2 (by have := mu_le ws (show i + 1 ≤ j by omega); omega) with ⟨ys, j2, k1, k2, k4, k5⟩ | ⟨p, k4, k5⟩
        · have hs3 : ∀ fr, Op fr ws[i]? → fl fr (ws.drop i) i = fl ((.par, 2) :: fr) (ws.drop j2) j2 := fun fr ho => by
            rw [hs2 fr ho, k5 ((.par, 1) :: fr) (show (1 : Nat) ≠ 2 by decide)]; rfl
          have c2 := fun β => call_in (β := β) k4
          by_cases hc : ws[j2]? = some (")" : Str)
          · have hltj : j2 < ws.length := by
              by_cases c : j2 < ws.length
              · exact c
              · rw [List.getElem?_eq_none (by omega)] at hc; cases hc
            have hwj : ws[j2] = ")" := by rw [List.getElem?_eq_getElem hltj] at hc; exact Option.some.inj hc
            have hdj : ws.drop j2 = (")" : Str) :: ws.drop (j2 + 1) := by rw [List.drop_eq_getElem_cons hltj, hwj]
            refine .inl ⟨[.str "pair", .tup zs, .tup ys], j2 + 1, by omega, hltj, ?_, fun fr ho => ?_⟩
            · have c3 := fun β => m_needR (β := β) hc
              refine wr_fin (β := [some (.dat (.str "right")), some (.dat (.tup zs)), some (.dat (.tup ys)), none]) ?_
              unfold b_whole_writing
              simp only [a_sSeq, a_sIf, n1, a_sNext]
              simp [-a_rMethM, -a_rCallM, loopF, bl_whole_writing_1, n2, n3, n4, c1, c2, c3]
            · rw [hs3 fr ho, hdj]
              refine fl_cons ?_
              rw [tk_at, if_neg (by simp), if_pos (by decide +kernel), if_neg]
              rintro (z | ⟨_, z⟩)
              · exact z rfl
              · exact z rfl
          · refine .inr ⟨j2, ?_, fun fr ho => ?_⟩
            · have c3 := fun β => m_need_no (β := β) hc
              refine wr_exc ?_
              generalize noTx j2 = x at *
              unfold b_whole_writing
              simp only [a_sSeq, a_sIf, n1, a_sNext]
              simp [-a_rMethM, -a_rCallM, loopF, bl_whole_writing_1, n2, n3, n4, c1, c2, c3]
            · rw [hs3 fr ho]
              by_cases c : j2 < ws.length
              · rw [List.drop_eq_getElem_cons c]
                rw [List.getElem?_eq_getElem c] at hc
                refine fl_no ?_
                rw [tk_at, if_pos (.inr ⟨rfl, rfl, fun z => hc (by rw [z])⟩)]
              · rw [List.drop_eq_nil_of_le (by omega)]
                exact if_neg (by simp)
        · refine .inr ⟨p, ?_, fun fr ho => by rw [hs2 fr ho, k5 ((.par, 1) :: fr) (show (1 : Nat) ≠ 2 by decide)]⟩
          have c2 := fun β => call_exc (β := β) k4
          refine wr_exc ?_
          generalize noTx p = x at *
          unfold b_whole_writing
          simp only [a_sSeq, a_sIf, n1, a_sNext]
          simp [-a_rMethM, -a_rCallM, loopF, bl_whole_writing_1, n2, n3, n4, c1, c2]
      · refine .inr ⟨p, ?_, fun fr ho => by rw [hs fr ho, h5 ((.par, 0) :: fr) (show (0 : Nat) ≠ 2 by decide)]⟩
        have c1 := fun β => call_exc (β := β) h4
        refine wr_exc ?_
        generalize noTx p = x at *
        unfold b_whole_writing
        simp only [a_sSeq, a_sIf, n1, a_sNext]
        simp [-a_rMethM, -a_rCallM, loopF, bl_whole_writing_1, n2, n3, n4, c1]
    have n4 := fun β => t_else (s := xC (.str "(")) (w := "(") (β := β) rfl (ne_some (w := "(") hu hpa)
    by_cases hop : op u = true
    · rcases op_cases hop with z | ⟨k, rfl⟩
      · exact absurd z hpa
      obtain ⟨o1, o2, o3, o4⟩ := op_b k
      rw [o4] at hn
      have hs : ∀ fr, Op fr ws[i]? → fl fr (ws.drop i) i = fl ((.shut k, 0) :: fr) (ws.drop (i + 1)) (i + 1) := fun fr ho => by
        rw [hu] at ho
        rw [hdr]
        refine fl_cons ?_
        rw [tk_nc ho o2, if_pos o1, o3]
      have y := fun (a b c : Option A) => t_yes (s := BG) (w := Mn.b k) (β := [a, b, c, some (.dat (.str k.w))]) (by cases k <;> rfl) hu
      have m := fun (a b c : Option A) (k' : Mn) (hk : k ≠ k') => t_else (s := BG) (w := Mn.b k') (β := [a, b, c, some (.dat (.str k'.w))]) (by cases k' <;> rfl) (ne_some (w := Mn.b k') hu (by cases k <;> cases k' <;> first | exact absurd rfl hk | simp [Mn.b]))
      rcases hP ws (i + 1) k hg (by omega) (by omega) with ⟨zs, j, h1, h2, h4, h5⟩ | ⟨p, h4, h5⟩
      · refine .inl ⟨[.str k.w, .tup zs], j, by omega, h2, ?_, fun fr ho => by rw [hs fr ho, h5]⟩
        have hcall := fun (a b c : Option A) => call_in2 (s := EN) (x := .str (Mn.e k)) (β := [a, b, c, some (.dat (.str k.w))]) (by cases k <;> rfl) h4
        refine wr_fin (β := [some (.dat (.str "right")), none, none, some (.dat (.str k.w))]) ?_
        cases k with
        | row =>
          simp only [Mn.w, Mn.e] at y m hcall
          unfold b_whole_writing
          simp only [a_sSeq, a_sIf, n1, a_sNext]
          simp [-a_rMethM, -a_rCallM, loopF, bl_whole_writing_1, bl_whole_writing_2, n2, n3, n4, y, hcall, Mn.w]
        | bag =>
          have m1 := fun a b c => m a b c .row (by decide)
          simp only [Mn.w, Mn.e] at y m1 hcall
          unfold b_whole_writing
          simp only [a_sSeq, a_sIf, n1, a_sNext]
          simp [-a_rMethM, -a_rCallM, loopF, bl_whole_writing_1, bl_whole_writing_2, n2, n3, n4, y, m1, hcall, Mn.w]
        | choice =>
          have m1 := fun a b c => m a b c .row (by decide)
          have m2 := fun a b c => m a b c .bag (by decide)
          simp only [Mn.w, Mn.e] at y m1 m2 hcall
          unfold b_whole_writing
          simp only [a_sSeq, a_sIf, n1, a_sNext]
          simp [-a_rMethM, -a_rCallM, loopF, bl_whole_writing_1, bl_whole_writing_2, n2, n3, n4, y, m1, m2, hcall, Mn.w]
        | ring =>
          have m1 := fun a b c => m a b c .row (by decide)
          have m2 := fun a b c => m a b c .bag (by decide)
          have m3 := fun a b c => m a b c .choice (by decide)
          simp only [Mn.w, Mn.e] at y m1 m2 m3 hcall
          unfold b_whole_writing
          simp only [a_sSeq, a_sIf, n1, a_sNext]
          simp [-a_rMethM, -a_rCallM, loopF, bl_whole_writing_1, bl_whole_writing_2, n2, n3, n4, y, m1, m2, m3, hcall, Mn.w]
      · refine .inr ⟨p, ?_, fun fr ho => by rw [hs fr ho, h5]⟩
        have hcall := fun (a b c : Option A) => call_exc2 (s := EN) (x := .str (Mn.e k)) (β := [a, b, c, some (.dat (.str k.w))]) (by cases k <;> rfl) h4
        refine wr_exc ?_
        generalize noTx p = x at *
        cases k with
        | row =>
          simp only [Mn.w, Mn.e] at y m hcall
          unfold b_whole_writing
          simp only [a_sSeq, a_sIf, n1, a_sNext]
          simp [-a_rMethM, -a_rCallM, loopF, bl_whole_writing_1, bl_whole_writing_2, n2, n3, n4, y, hcall, Mn.w]
        | bag =>
          have m1 := fun a b c => m a b c .row (by decide)
          simp only [Mn.w, Mn.e] at y m1 hcall
          unfold b_whole_writing
          simp only [a_sSeq, a_sIf, n1, a_sNext]
          simp [-a_rMethM, -a_rCallM, loopF, bl_whole_writing_1, bl_whole_writing_2, n2, n3, n4, y, m1, hcall, Mn.w]
        | choice =>
          have m1 := fun a b c => m a b c .row (by decide)
          have m2 := fun a b c => m a b c .bag (by decide)
          simp only [Mn.w, Mn.e] at y m1 m2 hcall
          unfold b_whole_writing
          simp only [a_sSeq, a_sIf, n1, a_sNext]
          simp [-a_rMethM, -a_rCallM, loopF, bl_whole_writing_1, bl_whole_writing_2, n2, n3, n4, y, m1, m2, hcall, Mn.w]
        | ring =>
          have m1 := fun a b c => m a b c .row (by decide)
          have m2 := fun a b c => m a b c .bag (by decide)
          have m3 := fun a b c => m a b c .choice (by decide)
          simp only [Mn.w, Mn.e] at y m1 m2 m3 hcall
          unfold b_whole_writing
          simp only [a_sSeq, a_sIf, n1, a_sNext]
          simp [-a_rMethM, -a_rCallM, loopF, bl_whole_writing_1, bl_whole_writing_2, n2, n3, n4, y, m1, m2, m3, hcall, Mn.w]
    · have hop : op u = false := by simpa using hop
      have nb : NoBeg ws i := ⟨ne_some hu hno, ne_some hu hle, ne_some hu hri, ne_some hu hpa, fun k => ne_some hu fun z => by rw [z, (op_b k).1] at hop; cases hop⟩
      have ha := lend_ahead ws i [some (.dat (.str "right")), none, none, some (.dat (.str "ring"))]
      have ha2 : ahd ws i = .str u := by unfold ahd; rw [hu]
      rw [ha2] at ha
      have hlr : ¬ (u = "left" ∨ u = "right") := fun z => z.elim hle hri
      cases hw : isW u with
      | true =>
        refine .inl ⟨[.str "bead", .str u], i + 1, by omega, hlt, ?_, fun fr ho => ?_⟩
        · have hm := m_wordR (β := [some (.dat (.str "right")), none, none, some (.dat (.str "ring"))]) hu hw
          refine wr_fin (β := [some (.dat (.str "right")), none, none, some (.dat (.str "ring"))]) ?_
          rw [wr_wd nb]
          simp [-a_xLend, -a_xMeth, -a_rMethM, ha, hm, fIsN]
        · rw [hu] at ho
          rw [hdr]
          refine fl_cons ?_
          have hc : cl u = false := by
            cases hc : cl u with
            | false => rfl
            | true => rw [cl_cases hc] at hw; cases hw
          rw [tk_nc ho hc, hop, if_neg (by simp), if_neg hlr, if_pos (.inr hw)]
      | false =>
        refine .inr ⟨i, ?_, fun fr ho => ?_⟩
        · have hm := m_word_no (β := [some (.dat (.str "right")), none, none, some (.dat (.str "ring"))]) hu hsz hw
          refine wr_exc ?_
          rw [wr_wd nb]
          generalize noTx i = x at *
          simp [-a_xLend, -a_xMeth, -a_rMethM, ha, hm, fIsN]
        · rw [hu] at ho
          rw [hdr]
          refine fl_no ?_
          cases hc : cl u with
          | true => exact tk_cl ho hc
          | false => rw [tk_nc ho hc, hop, if_neg (by simp), if_neg hlr, if_neg (fun z => z.elim hno fun z => by rw [hw] at z; cases z)]
  · have hu : ws[i]? = none := List.getElem?_eq_none (by omega)
    have nn : ∀ w : Str, ws[i]? ≠ some w := fun w z => by rw [hu] at z; cases z
    have nb : NoBeg ws i := ⟨nn _, nn _, nn _, nn _, fun k => nn _⟩
    refine .inr ⟨i, ?_, fun fr ho => by rw [List.drop_eq_nil_of_le (by omega)]; exact if_neg (Op_ne ho)⟩
    have ha := lend_ahead ws i [some (.dat (.str "right")), none, none, some (.dat (.str "ring"))]
    have ha2 : ahd ws i = .non := by unfold ahd; rw [hu]
    have h2 := wf_at ws i
    rw [ha2] at ha
    refine wr_exc ?_
    rw [wr_wd nb]
    unfold noTx
    unfold Wc at *
    generalize Wf ws i = W at *
    simp [-a_xLend, -a_xMeth, -a_rMethM, ha, h2, fIsN]
theorem readR : ∀ n : Nat, WR n ∧ PR n
  | 0 => ⟨fun ws i _ _ h => absurd h (by omega), fun ws i k _ _ h => absurd h (by omega)⟩
  | n + 1 => ⟨wholeR (readR n).1 (readR n).2, partsR (readR n).1⟩
end W_k15
end
section
set_option maxRecDepth 100000
set_option maxHeartbeats 2000000
namespace W_k15
open PySem L2 PyProof.Rows PySem.Spec Ab
/-! ### the reader whole -/
theorem call_in1 {m : List A → MRes} {ct ct' : Ct} {d : D} {a : Option A} {β : State} (h : m [.inn ct] = .ok (.dat d) [.inn ct']) : rCallM m (aslot 1 anil) (a :: some (.own ct) :: β) = .ok d (a :: some (.own ct') :: β) := by
  simp [h, putC]
theorem call_exc1 {m : List A → MRes} {ct : Ct} {x : Exn} {a : Option A} {β : State} (h : m [.inn ct] = .exc x) : rCallM m (aslot 1 anil) (a :: some (.own ct) :: β) = .exc x := by
  simp [h]
theorem v_readR {s : Str} {ws : List Str} (hs : Txt.split s " " = ws) (hl : s.length + 2 ≤ 100000) (hg : Good ws) (hm : mu ws + 1 ≤ 200) :
    (fl [(.top, 0)] ws 0 = none ∧ ∃ xs, m_read_writing [.str s] = .ok (.tup xs)) ∨ (∃ p, fl [(.top, 0)] ws 0 = some p ∧ m_read_writing [.str s] = .exc (noTx p)) := by
  have hi := v_init s ws hl hs
  have hop : Op [(.top, 0)] ws[0]? := show (0 : Nat) ≠ 1 by decide
  rcases (readR 200).1 ws 0 hg (Nat.zero_le _) (by rw [List.drop_zero]; exact hm) with ⟨zs, j, h1, h2, h4, h5⟩ | ⟨p, h4, h5⟩
  · replace h5 := h5 _ hop
    rw [List.drop_zero] at h5
    have h4' : m_whole_writing [.inn (Wc ws 0)] = .ok (.dat (.tup zs)) [.inn (Wc ws j)] := h4
    have c1 := fun a β => call_in1 (a := a) (β := β) h4'
    by_cases c : j < ws.length
    · refine .inr ⟨j, ?_, ?_⟩
      · rw [h5, List.drop_eq_getElem_cons c]
        refine fl_no ?_
        show tk [(.top, 1)] _ = none
        rw [tk_at, if_pos (.inl ⟨rfl, rfl⟩)]
      · have he := m_end_no (some (.dat (.str s))) c [some (.dat (.tup zs))]
        have e : b_read_writing (inP 3 1 [.str s]) = .exc (noTx j) := by
          generalize D.tup zs = d at *
          generalize noTx j = x at *
          unfold Wc at *
          generalize Wf ws j = W1 at *
          generalize Wf ws 0 = W0 at *
          unfold b_read_writing inP
          simp [-a_rMethM, -a_rCallM, hi, c1, he]
        exact runX_exc rfl e
    · have hj : j = ws.length := by omega
      subst hj
      refine .inl ⟨?_, zs, ?_⟩
      · rw [h5, List.drop_eq_nil_of_le (Nat.le_refl _)]; rfl
      · have he := m_end_ok (some (.dat (.str s))) ws [some (.dat (.tup zs))]
        have : ∃ β, b_read_writing (inP 3 1 [.str s]) = .ret (.dat (.tup zs)) β := by
          generalize D.tup zs = d at *
          unfold Wc at *
          generalize Wf ws ws.length = W1 at *
          generalize Wf ws 0 = W0 at *
          unfold b_read_writing inP
          simp [-a_rMethM, -a_rCallM, hi, c1, he]
        obtain ⟨β, e⟩ := this
        exact runX_ret rfl e
  · replace h5 := h5 _ hop
    rw [List.drop_zero] at h5
    refine .inr ⟨p, h5, ?_⟩
    have h4' : m_whole_writing [.inn (Wc ws 0)] = .exc (noTx p) := h4
    have c1 := fun a β => call_exc1 (a := a) (β := β) h4'
    have e : b_read_writing (inP 3 1 [.str s]) = .exc (noTx p) := by
      generalize noTx p = x at *
      unfold Wc at *
      generalize Wf ws 0 = W0 at *
      unfold b_read_writing inP
      simp [-a_rMethM, -a_rCallM, hi, c1]
    exact runX_exc rfl e
/-! ### the law's own walk of the words -/
theorem inV_strs (w : Str) : ∀ l : List Str, inV (.str w) ((l.map D.str).map dv) = decide (w ∈ l)
  | [] => rfl
  | a :: r => by
    have ih := inV_strs w r
    have e : inV (.str w) (((a :: r).map D.str).map dv) = (eqV (.str a) (.str w) || inV (.str w) ((r.map D.str).map dv)) := rfl
    rw [e, ih]
    by_cases c : a = w
    · simp [eqV, c]
    · have c1 : (a == w) = false := by simpa using c
      have c2 : ¬ w = a := fun z => c z.symm
      simp [eqV, c1, c2]
theorem mem_strs (w : Str) (l : List Str) : memD false (.str w) (.tup (l.map .str)) = some (.bl (decide (w ∈ l))) := by
  have h1 : (flat (.str w) && (l.map D.str).all flat) = true := by
    rw [Bool.and_eq_true, List.all_eq_true]
    exact ⟨rfl, fun d hd => by obtain ⟨z, _, rfl⟩ := List.mem_map.mp hd; rfl⟩
  unfold memD
  simp only [if_pos h1]
  rw [show dv (.str w) = .str w from rfl, inV_strs]; rfl
theorem mem_cl (w : Str) : memD false (.str w) (.tup [.str ")", .str "))", .str "]", .str "}", .str ">"]) = some (.bl (cl w)) := mem_strs w [")", "))", "]", "}", ">"]
theorem mem_op (w : Str) : memD false (.str w) (.tup [.str "(", .str "((", .str "[", .str "{", .str "<"]) = some (.bl (op w)) := mem_strs w ["(", "((", "[", "{", "<"]
theorem mem_2 (w a b : Str) : memD false (.str w) (.tup [.str a, .str b]) = some (.bl (decide (w = a ∨ w = b))) := by
  have h := mem_strs w [a, b]
  refine Eq.trans h ?_
  congr 2
  simp
theorem v_lis_word (z : Str) (hz : z.length ≤ 100000) : m__law_is_word [.str z] = some (.bl (isW z)) := by
  obtain ⟨y, h⟩ := sign_loop (some (.dat (.str z))) z.cps.toList none
  have : ∃ β, b__law_is_word (inP 2 1 [.str z]) = .ret (.dat (.bl (isW z))) β := by
    change loopF (gN 1) bl__law_is_word_1 (signs z) [some (.dat (.str z)), none] = (if lets z = true then .nxt [some (.dat (.str z)), y] else .ret (.dat (.bl false)) [some (.dat (.str z)), y]) at h
    unfold b__law_is_word inP
    unfold isW
    cases hl : lets z with
    | false =>
      rw [hl] at h
      simp [h]
    | true =>
      rw [hl] at h
      by_cases h1 : z.length < 1
      · have : ¬ 1 ≤ z.length := by omega
        have a0 : ¬ (1 : Int) ≤ (z.length : Int) := by omega
        simp [h, hz, this, a0]
      · have a1 : 1 ≤ z.length := by omega
        have a1' : (1 : Int) ≤ (z.length : Int) := by omega
        by_cases h8 : z.length > 8
        · have : ¬ z.length ≤ 8 := by omega
          have a8 : ¬ (z.length : Int) ≤ 8 := by omega
          simp [h, hz, a1, a1', this, a8]
        · have a2 : z.length ≤ 8 := by omega
          have a2' : (z.length : Int) ≤ 8 := by omega
          cases hk : inK z
          · simp [h, hz, a1, a1', a2, a2', v_kept, mem_K3, hk]
          · simp [h, hz, a1, a1', a2, a2', v_kept, mem_K3, hk]
  obtain ⟨β, e⟩ := this
  exact runP_dat rfl e
def encR (p : Fr) : D := .tup [.str p.1.s, .int (p.2 : Int)]
/-- the frames, the last one open first -/
def encRs (fr : List Fr) : List D := (fr.map encR).reverse
theorem encRs_cons (p : Fr) (r : List Fr) : encRs (p :: r) = encRs r ++ [encR p] := by unfold encRs; rw [List.map_cons, List.reverse_cons]
theorem encRs_len (r : List Fr) : (encRs r).length = r.length := by unfold encRs; simp
theorem last_at (L : List D) (d : D) (h : L.length ≤ 2000) : atI (L ++ [d]) (-1) = some d := by
  unfold atI
  have hx : ixN (L ++ [d]).length (-1) = some L.length := by
    unfold ixN
    simp
    omega
  rw [hx]
  simp
def skip : List Fr → List Fr
  | [] => []
  | (.side, _) :: r => skip r
  | (.top, n) :: r => (.top, n) :: r
  | (.par, n) :: r => (.par, n) :: r
  | (.shut k, n) :: r => (.shut k, n) :: r
theorem dn_skip : ∀ fr : List Fr, dn fr = match skip fr with | [] => [] | (e, n) :: r => (e, n + 1) :: r
  | [] => rfl
  | (.side, _) :: r => dn_skip r
  | (.top, n) :: r => rfl
  | (.par, n) :: r => rfl
  | (.shut k, n) :: r => rfl
theorem skip_len : ∀ fr : List Fr, (skip fr).length ≤ fr.length
  | [] => Nat.le_refl _
  | (.side, _) :: r => Nat.le_succ_of_le (skip_len r)
  | (.top, n) :: r => Nat.le_refl _
  | (.par, n) :: r => Nat.le_refl _
  | (.shut k, n) :: r => Nat.le_refl _
theorem bt_no {e : Fe} {n : Nat} {r : List Fr} (hr : r.length ≤ 1000) (hs : e.s ≠ "side") : bt__law_done_2 [some (.inn (.lst (encRs ((e, n) :: r))))] = .ok false [some (.inn (.lst (encRs ((e, n) :: r))))] := by
  have hL := encRs_len r
  have e1 : atI (encRs ((e, n) :: r)) (-1) = some (.tup [.str e.s, .int (n : Int)]) := by rw [encRs_cons]; exact last_at _ _ (by omega)
  generalize encRs ((e, n) :: r) = L at *
  unfold bt__law_done_2
  simp [e1, hs]
theorem done_loop : ∀ (fr : List Fr) (fuel : Nat), fr.length < fuel → fr.length ≤ 1000 → skip fr ≠ [] → loopW bt__law_done_2 bl__law_done_1 fuel [some (.inn (.lst (encRs fr)))] = .nxt [some (.inn (.lst (encRs (skip fr))))]
  | _, 0, h, _, _ => absurd h (Nat.not_lt_zero _)
  | [], _ + 1, _, _, h => absurd rfl h
  | (.side, n) :: r, fuel + 1, hf, hl, hs => by
    simp only [List.length_cons] at hf hl
    have ih := done_loop r fuel (by omega) (by omega) hs
    have hL := encRs_len r
    have e1 : atI (encRs r ++ [encR (.side, n)]) (-1) = some (.tup [.str "side", .int (n : Int)]) := last_at _ _ (by omega)
    have ht : bt__law_done_2 [some (.inn (.lst (encRs ((.side, n) :: r))))] = .ok true [some (.inn (.lst (encRs ((.side, n) :: r))))] := by
      rw [encRs_cons]
      generalize encRs r ++ [encR (.side, n)] = L at *
      unfold bt__law_done_2
      simp [e1]
    have hb : bl__law_done_1 [some (.inn (.lst (encRs ((.side, n) :: r))))] = .nxt [some (.inn (.lst (encRs r)))] := by
      rw [encRs_cons]
      have p1 : (encRs r ++ [encR (.side, n)]).getLast? = some (encR (.side, n)) := by simp
      have p2 : (encRs r ++ [encR (.side, n)]).dropLast = encRs r := by simp
      generalize encRs r ++ [encR (.side, n)] = L at *
      generalize encRs r = L0 at *
      unfold bl__law_done_1
      simp [p1, p2, putC]
    rw [loopW, ht]; dsimp only; rw [hb]
    exact ih
  | (.top, n) :: r, fuel + 1, hf, hl, hs => by
    simp only [List.length_cons] at hl
    rw [loopW, bt_no (by omega) (by decide +kernel)]; rfl
  | (.par, n) :: r, fuel + 1, hf, hl, hs => by
    simp only [List.length_cons] at hl
    rw [loopW, bt_no (by omega) (by decide +kernel)]; rfl
  | (.shut k, n) :: r, fuel + 1, hf, hl, hs => by
    simp only [List.length_cons] at hl
    rw [loopW, bt_no (by omega) (by cases k <;> decide +kernel)]; rfl
theorem v_done {fr : List Fr} (hl : fr.length ≤ 950) (hs : skip fr ≠ []) : m__law_done [.inn (.lst (encRs fr))] = .ok (.dat .non) [.inn (.lst (encRs (dn fr)))] := by
  have h := done_loop fr 1000 (by omega) (by omega) hs
  have hsl := skip_len fr
  rw [dn_skip]
  generalize skip fr = q at *
  cases q with
  | nil => exact absurd rfl hs
  | cons p r =>
    obtain ⟨e, n⟩ := p
    simp only [List.length_cons] at hsl
    have hL := encRs_len r
    have e1 : atI (encRs r ++ [encR (e, n)]) (-1) = some (.tup [.str e.s, .int (n : Int)]) := last_at _ _ (by omega)
    have p1 : (encRs r ++ [encR (e, n)]).getLast? = some (.tup [.str e.s, .int (n : Int)]) := by simp [encR]
    have p2 : (encRs r ++ [encR (e, n)]).dropLast = encRs r := by simp
    have p3 : encRs ((e, n + 1) :: r) = encRs r ++ [.tup [.str e.s, .int ((n : Int) + 1)]] := by rw [encRs_cons]; rfl
    have hlt : (encRs r).length < 100000 := by omega
    rw [encRs_cons] at h
    dsimp only
    rw [p3]
    refine runM_nxt (β := [some (.inn (.lst (encRs r ++ [.tup [.str e.s, .int ((n : Int) + 1)]])))]) rfl ?_ rfl
    show b__law_done [some (.inn (.lst (encRs fr)))] = _
    generalize encRs r ++ [encR (e, n)] = L at *
    generalize encRs r = L0 at *
    generalize encRs fr = L1 at *
    unfold b__law_done
    simp [h, e1, p1, p2, hlt, putC]
/-- the row stands at the bottom -/
def Bot (fr : List Fr) : Prop := ∃ pre k, fr = pre ++ [(Fe.top, k)]
theorem Bot.cons {fr : List Fr} (h : Bot fr) (p : Fr) : Bot (p :: fr) := by
  obtain ⟨pre, k, rfl⟩ := h
  exact ⟨p :: pre, k, rfl⟩
theorem Bot.tail {p : Fr} {fr : List Fr} (h : Bot (p :: fr)) (hp : p.1 ≠ .top) : Bot fr := by
  obtain ⟨pre, k, e⟩ := h
  cases pre with
  | nil => simp at e; obtain ⟨rfl, _⟩ := e; exact absurd rfl hp
  | cons q pre => simp at e; exact ⟨pre, k, e.2⟩
theorem Bot.skip : ∀ {fr : List Fr}, Bot fr → skip fr ≠ []
  | [], h => by obtain ⟨pre, k, e⟩ := h; simp at e
  | (.side, _) :: r, h => Bot.skip (fr := r) (h.tail (by simp))
  | (.top, n) :: r, h => by simp [W_k15.skip]
  | (.par, n) :: r, h => by simp [W_k15.skip]
  | (.shut k, n) :: r, h => by simp [W_k15.skip]
theorem Bot.dn : ∀ {fr : List Fr}, Bot fr → Bot (dn fr) ∧ (dn fr).length ≤ fr.length
  | [], h => by obtain ⟨pre, k, e⟩ := h; simp at e
  | (.side, _) :: r, h => by
    have := Bot.dn (fr := r) (h.tail (by simp))
    exact ⟨this.1, Nat.le_succ_of_le this.2⟩
  | (.top, n) :: r, h => by
    refine ⟨?_, Nat.le_refl _⟩
    obtain ⟨pre, k, e⟩ := h
    cases pre with
    | nil => simp at e; obtain ⟨_, rfl⟩ := e; exact ⟨[], n + 1, rfl⟩
    | cons q pre => simp at e; exact ⟨(.top, n + 1) :: pre, k, by rw [e.2]; rfl⟩
  | (.par, n) :: r, h => ⟨(h.tail (by simp)).cons _, Nat.le_refl _⟩
  | (.shut k, n) :: r, h => ⟨(h.tail (by simp)).cons _, Nat.le_refl _⟩
theorem cl_s {e : Fe} (h : cl e.s = true) : e ≠ .top ∧ e ≠ .side := by
  cases e with
  | top => exact absurd h (by decide +kernel)
  | side => exact absurd h (by decide +kernel)
  | par => exact ⟨by simp, by simp⟩
  | shut k => exact ⟨by simp, by simp⟩
theorem Bot.tk {fr fr' : List Fr} {w : Str} (h : Bot fr) (ht : tk fr w = some fr') : Bot fr' ∧ fr'.length ≤ fr.length + 1 := by
  cases fr with
  | nil => cases ht
  | cons p r =>
    obtain ⟨e, n⟩ := p
    rw [tk_at] at ht
    split at ht
    · cases ht
    split at ht
    · rename_i hc
      split at ht
      · cases ht
      · rename_i h2
        have hw : w = e.s := by
          by_cases z : w = e.s
          · exact z
          · exact absurd (.inl z) h2
        subst hw
        cases ht
        have := Bot.dn (h.tail (cl_s hc).1)
        exact ⟨this.1, by simp only [List.length_cons]; omega⟩
    split at ht
    · cases ht; exact ⟨h.cons _, by simp⟩
    split at ht
    · cases ht; exact ⟨h.cons _, by simp⟩
    split at ht
    · cases ht
      have := Bot.dn h
      exact ⟨this.1, by omega⟩
    · cases ht
end W_k15
end
section
set_option maxRecDepth 100000
set_option maxHeartbeats 2000000
namespace W_k15
open PySem L2 PyProof.Rows PySem.Spec Ab
theorem test1 (e : Fe) (n : Nat) (w : Str) (x : Option A) : tbOr (tbAnd (asB (x2 fEq (xVar 2) (xC (.str "end")))) (asB (x2 fEq (xVar 3) (xC (.int 1))))) (tbAnd (asB (x2 fEq (xVar 2) (xC (.str ")")))) (tbAnd (asB (x2 fEq (xVar 3) (xC (.int 2)))) (asB (x2 fNe (xVar 1) (xC (.str ")")))))) [x, some (.dat (.str w)), some (.dat (.str e.s)), some (.dat (.int (n : Int)))] = some (decide (e = .top ∧ n = 1 ∨ e = .par ∧ n = 2 ∧ w ≠ ")")) := by
  have h1 : ((n : Int) = 1) ↔ n = 1 := by omega
  have h2 : ((n : Int) = 2) ↔ n = 2 := by omega
  by_cases c1 : n = 1 <;> by_cases c2 : n = 2 <;> by_cases c3 : w = ")" <;>
    first
      | (exact absurd (c1.symm.trans c2) (by decide))
      | (cases e with
         | shut k => cases k <;> simp [Fe.s, Mn.e, h1, h2, c1, c2, c3]
         | _ => simp [Fe.s, h1, h2, c1, c2, c3])
theorem test2 (e : Fe) (n : Nat) (w : Str) (x : Option A) : tbOr (asB (x2 fNe (xVar 1) (xVar 2))) (tbAnd (asB (x2 fEq (xVar 1) (xC (.str ")")))) (asB (x2 fNe (xVar 3) (xC (.int 2))))) [x, some (.dat (.str w)), some (.dat (.str e.s)), some (.dat (.int (n : Int)))] = some (decide (w ≠ e.s ∨ (w = ")" ∧ n ≠ 2))) := by
  have h2 : ((n : Int) = 2) ↔ n = 2 := by omega
  generalize e.s = z
  by_cases c1 : w = z
  · subst c1
    by_cases c2 : n = 2 <;> by_cases c3 : w = ")" <;> simp [h2, c2, c3]
  · by_cases c3 : w = ")"
    · subst c3
      by_cases c2 : n = 2 <;> simp [h2, c1, c2]
    · by_cases c2 : n = 2 <;> simp [h2, c1, c2, c3]
theorem v_takes {e : Fe} {n : Nat} {r : List Fr} {w : Str} (hz : w.length ≤ 100000) (hl : r.length ≤ 920) (hb : Bot ((e, n) :: r)) :
    ∃ L, m__law_takes [.inn (.lst (encRs ((e, n) :: r))), .dat (.str w)] = .ok (.dat (.bl (tk ((e, n) :: r) w).isSome)) [.inn (.lst L), .dat (.str w)] ∧ ∀ fr', tk ((e, n) :: r) w = some fr' → L = encRs fr' := by
  have hL := encRs_len r
  have e1 : atI (encRs r ++ [encR (e, n)]) (-1) = some (.tup [.str e.s, .int (n : Int)]) := last_at _ _ (by omega)
  have p1 : (encRs r ++ [encR (e, n)]).getLast? = some (encR (e, n)) := by simp
  have p2 : (encRs r ++ [encR (e, n)]).dropLast = encRs r := by simp
  have hlt : (encRs r ++ [encR (e, n)]).length < 100000 := by rw [List.length_append, List.length_singleton]; omega
  have t1 := test1 e n w
  have t2 := test2 e n w
  have k1 := mem_cl w
  have k2 := mem_op w
  have k3 := mem_2 w "left" "right"
  have hi := v_lis_word w hz
  have d1 : noExcM m__law_done [.inn (.lst (encRs ((e, n) :: r)))] = .ok (.dat .non) [.inn (.lst (encRs (dn ((e, n) :: r))))] := noExc_ok (v_done (by simp; omega) hb.skip)
  have fin : ∀ (L : List D) (b : Bool) (β : State), b__law_takes [some (.inn (.lst (encRs ((e, n) :: r)))), some (.dat (.str w)), none, none] = .ret (.dat (.bl b)) (some (.inn (.lst L)) :: some (.dat (.str w)) :: β) → m__law_takes [.inn (.lst (encRs ((e, n) :: r))), .dat (.str w)] = .ok (.dat (.bl b)) [.inn (.lst L), .dat (.str w)] := fun L b β h => runM_ret rfl h rfl
  rw [encRs_cons] at d1 fin ⊢
  have p3 : ∀ q : Fr, encRs (q :: (e, n) :: r) = encRs r ++ [encR (e, n)] ++ [encR q] := fun q => by rw [encRs_cons, encRs_cons]
  by_cases h1 : e = .top ∧ n = 1 ∨ e = .par ∧ n = 2 ∧ w ≠ ")"
  · have ht : tk ((e, n) :: r) w = none := by rw [tk_at, if_pos h1]
    rw [ht]
    refine ⟨encRs r ++ [encR (e, n)], fin _ false [some (.dat (.str e.s)), some (.dat (.int (n : Int)))] ?_, fun fr' z => nomatch z⟩
    rw [decide_eq_true h1] at t1
    generalize encRs r ++ [encR (e, n)] = L at *
    unfold b__law_takes
    simp only [a_sSeq, a_sIf, a_liftB, a_sSet, a_lift]
    simp [-a_tbOr, -a_tbAnd, e1, t1]
  · have t1 := fun x => (t1 x).trans (congrArg some (decide_eq_false h1))
    by_cases hc : cl w = true
    · rw [hc] at k1
      by_cases h2 : w ≠ e.s ∨ (w = ")" ∧ n ≠ 2)
      · have ht : tk ((e, n) :: r) w = none := by rw [tk_at, if_neg h1, if_pos hc, if_pos h2]
        rw [ht]
        refine ⟨encRs r ++ [encR (e, n)], fin _ false [some (.dat (.str e.s)), some (.dat (.int (n : Int)))] ?_, fun fr' z => nomatch z⟩
        rw [decide_eq_true h2] at t2
        generalize encRs r ++ [encR (e, n)] = L at *
        unfold b__law_takes
        simp only [a_sSeq, a_sIf, a_liftB, a_sSet, a_lift]
        simp [-a_tbOr, -a_tbAnd, e1, t1, k1, t2]
      · have hw : w = e.s := by
          by_cases z : w = e.s
          · exact z
          · exact absurd (.inl z) h2
        have ht : tk ((e, n) :: r) w = some (dn r) := by rw [tk_at, if_neg h1, if_pos hc, if_neg h2]
        have d2 : noExcM m__law_done [.inn (.lst (encRs r))] = .ok (.dat .non) [.inn (.lst (encRs (dn r)))] := noExc_ok (v_done (by omega) (Bot.skip (hb.tail (cl_s (hw ▸ hc)).1)))
        rw [ht]
        refine ⟨encRs (dn r), fin _ true [some (.dat (.str e.s)), some (.dat (.int (n : Int)))] ?_, fun fr' z => by cases z; rfl⟩
        have t2 := fun x => (t2 x).trans (congrArg some (decide_eq_false h2))
        generalize encRs r ++ [encR (e, n)] = L at *
        generalize encRs (dn r) = L2 at *
        generalize encRs r = L0 at *
        unfold b__law_takes
        simp only [a_sSeq, a_sIf, a_liftB, a_sSet, a_lift]
        simp [-a_tbOr, -a_tbAnd, e1, t1, k1, t2, p1, p2, d2, putC]
    · have hc : cl w = false := by simpa using hc
      rw [hc] at k1
      cases hop : op w with
      | true =>
        have ht : tk ((e, n) :: r) w = some ((opF w, 0) :: (e, n) :: r) := by rw [tk_at, if_neg h1, hc, if_neg (by simp), if_pos hop]
        rw [ht]
        refine ⟨encRs ((opF w, 0) :: (e, n) :: r), fin _ true [some (.dat (.str e.s)), some (.dat (.int (n : Int)))] ?_, fun fr' z => by cases z; rfl⟩
        rw [p3]
        rw [hop] at k2
        have five : w = "(" ∨ w = "((" ∨ w = "[" ∨ w = "{" ∨ w = "<" := by
          unfold op at hop
          have h := of_decide_eq_true hop
          simpa using h
        clear fin d1 p3 hi k3
        generalize encRs r ++ [encR (e, n)] = L at *
        unfold b__law_takes
        simp only [a_sSeq, a_sIf, a_liftB, a_sSet, a_lift]
        have b3 : ∀ (a b c d f : D), atI [a, b, c, d, f] 3 = some d := fun _ _ _ _ _ => rfl
        have b4 : ∀ (a b c d f : D), atI [a, b, c, d, f] 4 = some f := fun _ _ _ _ _ => rfl
        generalize e.s = es at *
        rcases five with rfl | rfl | rfl | rfl | rfl
        · have o : encR (opF "(", 0) = .tup [.str ")", .int 0] := by
            have z : opF "(" = .par := by decide +kernel
            rw [z]; rfl
          simp [-a_tbOr, -a_tbAnd, e1, t1, k1, k2, hlt, putC, o, b3, b4, dstrs, ixOf]
        · have o : encR (opF "((", 0) = .tup [.str "))", .int 0] := by
            have z : opF "((" = .shut .ring := by decide +kernel
            rw [z]; rfl
          simp [-a_tbOr, -a_tbAnd, e1, t1, k1, k2, hlt, putC, o, b3, b4, dstrs, ixOf]
        · have o : encR (opF "[", 0) = .tup [.str "]", .int 0] := by
            have z : opF "[" = .shut .row := by decide +kernel
            rw [z]; rfl
          simp [-a_tbOr, -a_tbAnd, e1, t1, k1, k2, hlt, putC, o, b3, b4, dstrs, ixOf]
        · have o : encR (opF "{", 0) = .tup [.str "}", .int 0] := by
            have z : opF "{" = .shut .bag := by decide +kernel
            rw [z]; rfl
          simp [-a_tbOr, -a_tbAnd, e1, t1, k1, k2, hlt, putC, o, b3, b4, dstrs, ixOf]
        · have o : encR (opF "<", 0) = .tup [.str ">", .int 0] := by
            have z : opF "<" = .shut .choice := by decide +kernel
            rw [z]; rfl
          simp [-a_tbOr, -a_tbAnd, e1, t1, k1, k2, hlt, putC, o, b3, b4, dstrs, ixOf]
      | false =>
        rw [hop] at k2
        by_cases hlr : w = "left" ∨ w = "right"
        · have ht : tk ((e, n) :: r) w = some ((.side, 0) :: (e, n) :: r) := by rw [tk_at, if_neg h1, hc, if_neg (by simp), hop, if_neg (by simp), if_pos hlr]
          rw [ht]
          refine ⟨encRs ((.side, 0) :: (e, n) :: r), fin _ true [some (.dat (.str e.s)), some (.dat (.int (n : Int)))] ?_, fun fr' z => by cases z; rfl⟩
          rw [p3]
          rw [decide_eq_true hlr] at k3
          generalize encRs r ++ [encR (e, n)] = L at *
          unfold b__law_takes
          simp only [a_sSeq, a_sIf, a_liftB, a_sSet, a_lift]
          have o : encR (.side, 0) = .tup [.str "side", .int 0] := rfl
          generalize e.s = es at *
          simp [-a_tbOr, -a_tbAnd, e1, t1, k1, k2, k3, hlt, putC, o]
        · rw [decide_eq_false hlr] at k3
          by_cases hnw : w = "nothing" ∨ isW w = true
          · have ht : tk ((e, n) :: r) w = some (dn ((e, n) :: r)) := by rw [tk_at, if_neg h1, hc, if_neg (by simp), hop, if_neg (by simp), if_neg hlr, if_pos hnw]
            rw [ht]
            refine ⟨encRs (dn ((e, n) :: r)), fin _ true [some (.dat (.str e.s)), some (.dat (.int (n : Int)))] ?_, fun fr' z => by cases z; rfl⟩
            have t3 : ∀ β : State, tbOr (asB (x2 fEq (xVar 1) (xC (.str "nothing")))) (asB (xCall m__law_is_word (aCons (xVar 1) aNil))) (β.headD none :: some (.dat (.str w)) :: β.drop 1) = some true := fun β => by
              by_cases hn : w = "nothing"
              · simp [hn]
              · have := hnw.resolve_left hn
                simp [hn, hi, this]
            have t3 := fun x y z => t3 [x, y, z]
            generalize encRs r ++ [encR (e, n)] = L at *
            generalize encRs (dn ((e, n) :: r)) = L2 at *
            unfold b__law_takes
            simp only [List.headD_cons, List.drop_one, List.tail_cons] at t3
            simp only [a_sSeq, a_sIf, a_liftB, a_sSet, a_lift]
            simp [-a_tbOr, -a_tbAnd, e1, t1, k1, k2, k3, t3, d1, putC]
          · have ht : tk ((e, n) :: r) w = none := by rw [tk_at, if_neg h1, hc, if_neg (by simp), hop, if_neg (by simp), if_neg hlr, if_neg hnw]
            rw [ht]
            refine ⟨encRs r ++ [encR (e, n)], fin _ false [some (.dat (.str e.s)), some (.dat (.int (n : Int)))] ?_, fun fr' z => nomatch z⟩
            have hn : w ≠ "nothing" := fun z => hnw (.inl z)
            have hw : isW w = false := by
              cases hw : isW w with
              | false => rfl
              | true => exact absurd (.inr hw) hnw
            rw [hw] at hi
            generalize encRs r ++ [encR (e, n)] = L at *
            unfold b__law_takes
            simp only [a_sSeq, a_sIf, a_liftB, a_sSet, a_lift]
            simp [-a_tbOr, -a_tbAnd, e1, t1, k1, k2, k3]
            simp [hn, hi]

theorem endEq (fr : List Fr) (hb : Bot fr) : eqv (.lst (encRs fr)) (.lst [.tup [.str "end", .int 1]]) = decide (fr = [(.top, 1)]) ∧ (fr.length ≤ 1000 → eqOk (.lst (encRs fr)) (.lst [.tup [.str "end", .int 1]]) = true) := by
  have sk : ∀ e : Fe, PyData.strOk e.s = true := fun e => by
    cases e with
    | shut k => cases k <;> decide +kernel
    | _ => decide +kernel
  have nb : ∀ l : List Fr, noBl (.lst (l.map encR)) = true := fun l => by
    show noBls (l.map encR) = true
    induction l with
    | nil => rfl
    | cons p r ih =>
      show (noBl (encR p) && noBls (r.map encR)) = true
      rw [ih]; rfl
  have rv : encRs fr = fr.reverse.map encR := by unfold encRs; rw [List.map_reverse]
  refine ⟨?_, fun _ => ?_⟩
  · by_cases h : fr = [(.top, 1)]
    · subst h
      rw [decide_eq_true rfl]
      exact eqv_refl (.lst (encRs [(.top, 1)]))
    · rw [decide_eq_false h]
      cases hv : eqv (.lst (encRs fr)) (.lst [.tup [.str "end", .int 1]]) with
      | false => rfl
      | true =>
        exfalso
        have he := eqv_eq _ _ (by rw [rv]; exact nb _) (by rfl) hv
        rw [rv] at he
        have he2 : fr.reverse.map encR = [.tup [.str "end", .int 1]] := by injection he
        obtain ⟨pre, k, rfl⟩ := hb
        rw [List.reverse_append, List.reverse_singleton, List.singleton_append, List.map_cons] at he2
        injection he2 with h1 h2
        have hp : pre = [] := by
          cases pre with
          | nil => rfl
          | cons q pre => simp at h2
        subst hp
        have hk : k = 1 := by
          simp [encR] at h1
          omega
        subst hk
        exact h rfl
  · have pl : ∀ l : List Fr, plainDs (l.map encR) = true := fun l => by
      induction l with
      | nil => rfl
      | cons p r ih =>
        show (plainD (encR p) && plainDs (r.map encR)) = true
        rw [ih]
        have := sk p.1
        simp [encR, plainD, plainDs, this]
    have h1 : plainD (.lst (encRs fr)) = true := by rw [rv]; exact pl _
    have h2 : plainD (.lst [.tup [.str "end", .int 1]]) = true := by
      have : PyData.strOk ("end" : Str) = true := by decide +kernel
      simp [plainD, plainDs, this]
    have h3 : depD (.lst [.tup [.str "end", .int 1]]) ≤ 190 := by simp [depD, depDs]
    unfold eqOk
    rw [h1, h2, decide_eq_true (Nat.le_trans (Nat.min_le_right _ _) h3)]; rfl
theorem wf_loop (a : Option A) : ∀ (ws : List Str) (fr : List Fr) (k : Nat) (y z : Option A), (∀ u ∈ ws, u.length ≤ 100000) → Bot fr → fr.length + ws.length ≤ 920 →
    ∃ (y' z' : Option A), (∃ fr', Bot fr' ∧ fr'.length ≤ 920 ∧ loopF (gT 2 (gsC (gN 2) (gsC (gN 3) gsN))) bl__law_fault_1 (enumL (k : Int) (ws.map .str)) [a, some (.own (.lst (encRs fr))), y, z] = .nxt [a, some (.own (.lst (encRs fr'))), y', z'] ∧ fl fr ws k = if fr' = [(.top, 1)] then none else some (k + ws.length)) ∨
      (∃ p L, fl fr ws k = some p ∧ loopF (gT 2 (gsC (gN 2) (gsC (gN 3) gsN))) bl__law_fault_1 (enumL (k : Int) (ws.map .str)) [a, some (.own (.lst (encRs fr))), y, z] = .ret (.dat (.int (p : Int))) [a, some (.own (.lst L)), y', z'])
  | [], fr, k, y, z, _, hb, hl => ⟨y, z, .inl ⟨fr, hb, by omega, rfl, rfl⟩⟩
  | w :: ws, fr, k, y, z, hz, hb, hl => by
    have hw := hz w List.mem_cons_self
    simp only [List.length_cons] at hl
    have en : enumL (k : Int) ((w :: ws).map D.str) = .tup [.int (k : Int), .str w] :: enumL ((k + 1 : Nat) : Int) (ws.map .str) := rfl
    rw [en]
    obtain ⟨L, h1, h2⟩ : ∃ L, m__law_takes [.inn (.lst (encRs fr)), .dat (.str w)] = .ok (.dat (.bl (tk fr w).isSome)) [.inn (.lst L), .dat (.str w)] ∧ ∀ fr', tk fr w = some fr' → L = encRs fr' := by
      cases fr with
      | nil => obtain ⟨pre, k, e⟩ := hb; simp at e
      | cons p r =>
        obtain ⟨e, n⟩ := p
        simp only [List.length_cons] at hl
        exact v_takes hw (by omega) hb
    have h1' := noExc_ok h1
    cases hst : tk fr w with
    | none =>
      rw [hst] at h1'
      have e : bl__law_fault_1 [a, some (.own (.lst (encRs fr))), some (.dat (.int (k : Int))), some (.dat (.str w))] = .ret (.dat (.int (k : Int))) [a, some (.own (.lst L)), some (.dat (.int (k : Int))), some (.dat (.str w))] := by
        generalize encRs fr = L0 at *
        unfold bl__law_fault_1
        simp [rNot, rB, h1', putC]
      refine ⟨some (.dat (.int (k : Int))), some (.dat (.str w)), .inr ⟨k, L, fl_no hst, ?_⟩⟩
      unfold loopF
      generalize encRs fr = L0 at *
      simp [e]
    | some fr' =>
      obtain rfl := h2 fr' hst
      rw [hst] at h1'
      have e : bl__law_fault_1 [a, some (.own (.lst (encRs fr))), some (.dat (.int (k : Int))), some (.dat (.str w))] = .nxt [a, some (.own (.lst (encRs fr'))), some (.dat (.int (k : Int))), some (.dat (.str w))] := by
        generalize encRs fr = L0 at *
        generalize encRs fr' = L1 at *
        unfold bl__law_fault_1
        simp [rNot, rB, h1', putC]
      have hlp : loopF (gT 2 (gsC (gN 2) (gsC (gN 3) gsN))) bl__law_fault_1 (.tup [.int (k : Int), .str w] :: enumL ((k + 1 : Nat) : Int) (ws.map .str)) [a, some (.own (.lst (encRs fr))), y, z] = loopF (gT 2 (gsC (gN 2) (gsC (gN 3) gsN))) bl__law_fault_1 (enumL ((k + 1 : Nat) : Int) (ws.map .str)) [a, some (.own (.lst (encRs fr'))), some (.dat (.int (k : Int))), some (.dat (.str w))] :=
        loop_cons' (α' := [a, some (.own (.lst (encRs fr))), some (.dat (.int (k : Int))), some (.dat (.str w))]) rfl e
      rw [hlp, fl_cons hst]
      have hbt := hb.tk hst
      obtain ⟨y', z', ih⟩ := wf_loop a ws fr' (k + 1) (some (.dat (.int (k : Int)))) (some (.dat (.str w))) (fun u hu => hz u (List.mem_cons_of_mem _ hu)) hbt.1 (by omega)
      refine ⟨y', z', ?_⟩
      have hlen : k + (w :: ws).length = k + 1 + ws.length := by simp; omega
      rw [hlen]
      exact ih
def outF : Option Nat → D
  | none => .non
  | some p => .int (p : Int)
theorem v_fault {ws : List Str} (hg : Good ws) : m__law_fault [.lst (ws.map .str)] = some (outF (fl [(.top, 0)] ws 0)) := by
  have fin : (∃ β, b__law_fault (inP 4 1 [.lst (ws.map .str)]) = .ret (.dat (outF (fl [(.top, 0)] ws 0))) β) → m__law_fault [.lst (ws.map .str)] = some (outF (fl [(.top, 0)] ws 0)) := fun ⟨β, e⟩ => runP_dat rfl e
  apply fin
  have hlen : (ws.map D.str).length = ws.length := List.length_map _
  have hg0 := hg.len
  obtain ⟨y', z', ⟨fr', hb', hl', hl, hf⟩ | ⟨p, L1, hf, hl⟩⟩ := wf_loop (some (.dat (.lst (ws.map .str)))) ws [(.top, 0)] 0 none none hg.sz ⟨[], 0, rfl⟩ (by simp; omega)
  · obtain ⟨q1, q2⟩ := endEq fr' hb'
    have q2 := q2 (by omega)
    have hq : fEqQ (.lst (encRs fr')) (.lst [.tup [.str "end", .int 1]]) = some (.bl (decide (fr' = [(.top, 1)]))) := by unfold fEqQ; rw [if_pos q2, q1]
    rw [hf, Nat.zero_add]
    have e0 : encRs [(.top, 0)] = [.tup [.str "end", .int 0]] := rfl
    rw [e0] at hl
    replace hl : loopF (gT 2 (gsC (gN 2) (gsC (gN 3) gsN))) bl__law_fault_1 (enumL 0 (ws.map D.str)) [some (.dat (.lst (ws.map .str))), some (.own (.lst [.tup [.str "end", .int 0]])), none, none] = _ := hl
    by_cases he : fr' = [(.top, 1)]
    · rw [decide_eq_true he] at hq
      rw [if_pos he]
      generalize encRs fr' = st at *
      generalize ws.map D.str = L at *
      unfold b__law_fault inP
      simp [hl, hq, outF, lendD, frzD, ctOf]
    · rw [decide_eq_false he] at hq
      rw [if_neg he]
      generalize encRs fr' = st at *
      generalize hL : ws.map D.str = L at *
      unfold b__law_fault inP
      simp [hl, hq, outF, hlen, lendD, frzD, ctOf]
  · rw [hf]
    have e0 : encRs [(.top, 0)] = [.tup [.str "end", .int 0]] := rfl
    rw [e0] at hl
    replace hl : loopF (gT 2 (gsC (gN 2) (gsC (gN 3) gsN))) bl__law_fault_1 (enumL 0 (ws.map D.str)) [some (.dat (.lst (ws.map .str))), some (.own (.lst [.tup [.str "end", .int 0]])), none, none] = _ := hl
    generalize ws.map D.str = L at *
    unfold b__law_fault inP
    simp [hl, outF]
end W_k15
end
section
set_option maxRecDepth 100000
set_option maxHeartbeats 2000000
namespace W_k15
open PySem L2 PyProof.Rows PySem.Spec Ab
theorem lets_sp {c : Str} (h : lets c = true) : 32 ∉ TL.tl c := fun m => by
  unfold lets at h
  rw [List.all_eq_true] at h
  have h1 := of_decide_eq_true (h 32 m)
  have h2 : ¬ (32 ∈ ABC.cps) := by decide +kernel
  exact h2 h1
theorem split_J {ws : List Str} (h0 : ws ≠ []) (h : ∀ p ∈ ws, 32 ∉ TL.tl p) : Txt.split (J ws) " " = ws := TL.split_join (s := 32) (S := []) rfl (by decide +kernel) h0 h
/-! ### what the law makes of a text's answer -/
theorem v_refused {s : Str} {ws : List Str} (hs : Txt.split s " " = ws) (hl : s.length + 2 ≤ 100000) (hg : Good ws) (hm : mu ws + 1 ≤ 200) : m__law_refused [.str s] = some (outF (fl [(.top, 0)] ws 0)) := by
  rcases v_readR hs hl hg hm with ⟨hf, o, e1⟩ | ⟨p, hf, e1⟩
  · rw [hf]
    have hi : fIsi [.tup o, .ty "tuple"] = some (.bl true) := rfl
    have : ∃ β, b__law_refused (inP 5 1 [.str s]) = .ret (.dat .non) β := by
      generalize D.tup o = d at *
      unfold b__law_refused inP
      simp [e1, hi, fIsN]
    obtain ⟨β, e⟩ := this
    exact runP_dat rfl e
  · rw [hf]
    have h := exHold_eq (j := 3) (ic := 1) (α := [some (.dat (.str s)), some (.dat .non), some (.dat .non), none, none]) (r := .dat (.int (p : Int))) (β := [some (.dat (.str s)), none, some (.dat .non), none, some (.dat (.bl false))])
      (s := fun ad => (fun xq ad => sIfA 1 (sSeq (sSet 4 (lift (xB (tbOr (asB (xIsE ad 1 [("NoText", false)] xq.name)) (asB (xB (tbOr (asB (xIsE ad 1 [("NoText", false)] xq.name)) (asB (xIsE ad 1 [("NoText", false)] xq.name)))))))))
      (sSeq (sIf (liftB (tbOr (tbNot (asB (xIsE ad 1 [("NoText", true)] xq.name))) (tbOr (tbNot (asB (xIsE ad 1 [("NoText", true)] xq.name))) (asB (xVar 4))))) (sRet (lift (x1 fNeg (xC (.int 1))))) sNext)
      (sSeq (sIf (liftB (tbOr (tbNot (asB (xCall fIsi (aCons (xFldE ad 1 "at" xq.fs) (aCons (xC (.ty "int")) aNil))))) (asB (xCall fIsi (aCons (xFldE ad 1 "at" xq.fs) (aCons (xC (.ty "bool")) aNil)))))) (sRet (lift (x1 fNeg (xC (.int 1))))) sNext)
      (sRet (lift (xFldE ad 1 "at" xq.fs))))))) (noTx p) ad)
      (fun a => by
        have i1 : fIsi [.int (p : Int), .ty "int"] = some (.bl true) := rfl
        have i2 : fIsi [.int (p : Int), .ty "bool"] = some (.bl false) := rfl
        simp [noTx, i1, i2, eraseO, List.lookup, flat, scal])
    have : ∃ β, b__law_refused (inP 5 1 [.str s]) = .ret (.dat (.int (p : Int))) β := by
      refine ⟨_, Eq.trans ?_ h⟩
      unfold b__law_refused inP
      simp only [a_sSeq, a_sSet, a_lift, a_xC]
      rw [a_sHold]
      have hb : ∀ β, bnd ((aCons (xVar 0) aNil) (some (.dat (.str s)) :: β)) (fun ds => some (m_read_writing ds)) = some (.exc (noTx p)) := fun β => by simp [e1]
      have hx : (noTx p).name ∈ ["NoText"] ∧ (noTx p).fs ≠ [] ∧ 3 < ([some (.dat (.str s)), some (.dat .non), some (.dat .non), none, none] : State).length := ⟨by simp [noTx], by simp [noTx], by simp⟩
      show (match bnd ((aCons (xVar 0) aNil) [some (.dat (.str s)), some (.dat .non), some (.dat .non), none, none]) (fun ds => some (m_read_writing ds)) with | some (.ok d) => _ | some (.exc x) => _ | _ => _) = _
      rw [hb]
      exact if_pos hx
    obtain ⟨β, e⟩ := this
    exact runP_dat rfl e
def pc (w : Str) : List Str := if w = "( " then [("(" : Str), ""] else [w]
theorem pc_ne (w : Str) : pc w ≠ [] := by unfold pc; split <;> simp
theorem J_pc (w : Str) : J (pc w) = w := by
  unfold pc
  split
  · rename_i h; subst h; decide +kernel
  · exact J_one w
theorem pcs_ne {ws : List Str} (h : ws ≠ []) : ws.flatMap pc ≠ [] := by
  cases ws with
  | nil => exact absurd rfl h
  | cons a r =>
    rw [List.flatMap_cons]
    intro z
    exact pc_ne a (List.append_eq_nil_iff.mp z).1
theorem J_pcs : ∀ ws : List Str, ws ≠ [] → J (ws.flatMap pc) = J ws
  | [], h => absurd rfl h
  | [w], _ => by rw [List.flatMap_cons, List.flatMap_nil, List.append_nil, J_pc, J_one]
  | w :: v :: r, _ => by
    have ih := J_pcs (v :: r) (by simp)
    rw [List.flatMap_cons, J_app (pc_ne w) (pcs_ne (by simp)), ih, J_pc, J_cons w (by simp)]
def clean (w : Str) : Prop := (w = "( " ∨ 32 ∉ TL.tl w) ∧ w.length ≤ 100
def cuts (ws : List Str) : List Str := if ws = [] then [""] else ws.flatMap pc
theorem split_cuts {ws : List Str} (h : ∀ w ∈ ws, clean w) : Txt.split (J ws) " " = cuts ws := by
  unfold cuts
  split
  · rename_i e; subst e
    have : J ([] : List Str) = J [""] := by decide +kernel
    rw [this]
    exact split_J (by simp) (fun p hp => by simp at hp; subst hp; decide +kernel)
  · rename_i hne
    rw [← J_pcs ws hne]
    refine split_J (pcs_ne hne) fun p hp => ?_
    obtain ⟨w, hw, hp⟩ := List.mem_flatMap.mp hp
    unfold pc at hp
    split at hp
    · simp at hp
      rcases hp with rfl | rfl <;> decide +kernel
    · rename_i hn
      simp at hp; subst hp
      exact (h _ hw).1.resolve_left hn
def wt (w : Str) : Nat := mu (pc w)
def ln (w : Str) : Nat := (pc w).length
def tot (f : Str → Nat) (ws : List Str) : Nat := (ws.map f).sum
theorem tot_app (f : Str → Nat) (a b : List Str) : tot f (a ++ b) = tot f a + tot f b := by simp [tot]
theorem tot_cons (f : Str → Nat) (a : Str) (b : List Str) : tot f (a :: b) = f a + tot f b := by simp [tot]
theorem tot_cut (f : Str → Nat) (ws : List Str) (n : Nat) : tot f (ws.take n) + tot f (ws.drop n) = tot f ws := by rw [← tot_app, List.take_append_drop]
theorem tot_drop1 (f : Str → Nat) (ws : List Str) (n : Nat) : tot f (ws.drop (n + 1)) ≤ tot f (ws.drop n) := by
  by_cases h : n < ws.length
  · rw [List.drop_eq_getElem_cons h, tot_cons]; omega
  · rw [List.drop_eq_nil_of_le (by omega : ws.length ≤ n + 1)]; simp [tot]
theorem mu_app (a b : List Str) : mu (a ++ b) = mu a + mu b := by
  induction a with
  | nil => simp [mu]
  | cons x r ih => rw [List.cons_append, mu_cons, mu_cons, ih]; omega
theorem mu_cuts (ws : List Str) : mu (cuts ws) = tot wt ws := by
  unfold cuts
  split
  · rename_i e; subst e; decide +kernel
  · have : ∀ ws : List Str, mu (ws.flatMap pc) = tot wt ws := fun ws => by
      induction ws with
      | nil => rfl
      | cons a r ih => rw [List.flatMap_cons, mu_app, ih, tot_cons]; rfl
    exact this ws
theorem len_cuts (ws : List Str) : (cuts ws).length ≤ tot ln ws + 1 := by
  unfold cuts
  split
  · rename_i e; subst e; decide +kernel
  · have : ∀ ws : List Str, (ws.flatMap pc).length = tot ln ws := fun ws => by
      induction ws with
      | nil => rfl
      | cons a r ih => rw [List.flatMap_cons, List.length_append, ih, tot_cons]; rfl
    rw [this]; omega
theorem ln_le (w : Str) : ln w ≤ 2 := by unfold ln pc; split <;> simp
theorem cuts_clean {ws : List Str} (h : ∀ w ∈ ws, clean w) : ∀ u ∈ cuts ws, u.length ≤ 100000 := fun u hu => by
  unfold cuts at hu
  split at hu
  · simp at hu; subst hu; decide +kernel
  · obtain ⟨w, hw, hp⟩ := List.mem_flatMap.mp hu
    have := (h w hw).2
    unfold pc at hp
    split at hp
    · simp at hp
      rcases hp with rfl | rfl <;> decide +kernel
    · simp at hp; subst hp; omega
theorem wsum_clean : ∀ {ws : List Str}, (∀ w ∈ ws, clean w) → wsum ws ≤ 101 * ws.length
  | [], _ => by simp [wsum]
  | w :: r, h => by
    have := wsum_clean (ws := r) fun x hx => h x (List.mem_cons_of_mem _ hx)
    have := (h w List.mem_cons_self).2
    rw [wsum_cons, List.length_cons]; omega
theorem ln_len : ∀ ws : List Str, ws.length ≤ tot ln ws
  | [] => Nat.zero_le _
  | w :: r => by
    have := ln_len r
    have : 1 ≤ ln w := by unfold ln pc; split <;> simp
    rw [tot_cons, List.length_cons]; omega
theorem wgt_le (w : Str) : wgt w ≤ 2 := by unfold wgt; split; omega; split <;> omega
theorem wt_le (w : Str) : wt w ≤ 3 := by
  unfold wt pc
  split
  · decide +kernel
  · rw [mu_cons]; have := wgt_le w; simp only [mu]; omega
def NW : List Str := ["nothing", "bead", "or", "by", "row", "bag", "choice", "ring", "of", "left", "right", "(", ")", "((", "))", "[", "]", "{", "}", "<", ">", "", "red", "reds", "Red", "a1", "abcdefghi"]
theorem NW_clean : ∀ w ∈ NW, clean w := by
  have : (NW.all fun w => (decide (w = "( ") || decide (32 ∉ TL.tl w)) && decide (w.length ≤ 100)) = true := by decide +kernel
  intro w hw
  have h := List.all_eq_true.mp this w hw
  simp only [Bool.and_eq_true, Bool.or_eq_true, decide_eq_true_eq] at h
  exact h
theorem isW_clean {w : Str} (h : isW w = true) : clean w := ⟨.inr (lets_sp (isW_lets h)), by have := isW_len h; omega⟩
theorem v_new_word (n : Int) : ∃ w, m__law_new_word [.int n] = some (.str w) ∧ clean w := by
  by_cases h3 : n % 4 = 3
  · obtain ⟨w, e, hw⟩ := v_word (n / 4)
    refine ⟨w, ?_, isW_clean hw⟩
    have : ∃ β, b__law_new_word (inP 2 1 [.int n]) = .ret (.dat (.str w)) β := by
      unfold b__law_new_word inP
      simp [v_kept, KS, CDiv, h3, e]
    obtain ⟨β, e⟩ := this
    exact runP_dat rfl e
  · obtain ⟨k, hk⟩ : ∃ k : Nat, n / 4 % 27 = (k : Int) := ⟨(n / 4 % 27).toNat, by omega⟩
    have hk23 : k < NW.length := by show k < 27; omega
    refine ⟨NW[k], ?_, NW_clean _ (List.getElem_mem hk23)⟩
    have hat : atI (NW.map D.str) (k : Int) = some (.str NW[k]) := by
      rw [atI_nat' (by simpa using hk23), List.getElem_map]
    have : ∃ β, b__law_new_word (inP 2 1 [.int n]) = .ret (.dat (.str NW[k])) β := by
      generalize NW[k] = w at *
      unfold NW at hat
      simp only [List.map_cons, List.map_nil] at hat
      unfold b__law_new_word inP
      simp [v_kept, KS, CDiv, h3, hk, hat]
    obtain ⟨β, e⟩ := this
    exact runP_dat rfl e
theorem v_changed (ws : List Str) (c : Int) (hw : ∀ w ∈ ws, clean w) (hl : ws.length ≤ 10000) : ∃ ws' : List Str, m__law_changed [.lst (ws.map .str), .int c] = some (.lst (ws'.map .str)) ∧ (∀ w ∈ ws', clean w) ∧ tot wt ws' ≤ tot wt ws + 3 ∧ tot ln ws' ≤ tot ln ws + 2 := by
  obtain ⟨w, en, hcl⟩ := v_new_word (c / 64)
  obtain ⟨k, hk⟩ : ∃ k : Nat, c / 5 % ((ws.length : Int) + 1) = (k : Int) := ⟨(c / 5 % ((ws.length : Int) + 1)).toNat, by have := Int.emod_nonneg (c / 5) (show (ws.length : Int) + 1 ≠ 0 by omega); omega⟩
  have hlen : (ws.map D.str).length = ws.length := List.length_map _
  have c1 : cutD (ws.map D.str) none (some (k : Int)) = (ws.take k).map .str := by rw [cutD_to, List.map_take]
  have c2 : cutD (ws.map D.str) (some (k : Int)) none = (ws.drop k).map .str := by rw [cutD_from, List.map_drop]
  have c3 : cutD (ws.map D.str) (some ((k : Int) + 1)) none = (ws.drop (k + 1)).map .str := by rw [show (k : Int) + 1 = ((k + 1 : Nat) : Int) by omega, cutD_from, List.map_drop]
  have fin : ∀ ws' : List Str, (∃ β, b__law_changed (inP 4 2 [.lst (ws.map .str), .int c]) = .ret (.dat (.lst (ws'.map .str))) β) → m__law_changed [.lst (ws.map .str), .int c] = some (.lst (ws'.map .str)) := fun ws' ⟨β, e⟩ => runP_dat rfl e
  have lk : (ws.take k).length ≤ ws.length := by rw [List.length_take]; omega
  have lk2 : (ws.drop k).length ≤ ws.length := by rw [List.length_drop]; omega
  have lk3 : (ws.drop (k + 1)).length ≤ ws.length := by rw [List.length_drop]; omega
  have w3 := wt_le w
  have l2 := ln_le w
  have mt : ∀ x ∈ ws.take k, clean x := fun x hx => hw x (List.mem_of_mem_take hx)
  have md : ∀ x ∈ ws.drop k, clean x := fun x hx => hw x (List.mem_of_mem_drop hx)
  have md1 : ∀ x ∈ ws.drop (k + 1), clean x := fun x hx => hw x (List.mem_of_mem_drop hx)
  have t1 := tot_cut wt ws k
  have t2 := tot_cut ln ws k
  have d1 := tot_drop1 wt ws k
  have d2 := tot_drop1 ln ws k
  have hr : rngOk ((ws.length : Int) + 1) = true := by have := rngOk_nat (n := ws.length + 1) (by omega); simpa using this
  have app3 : ∀ (a b : List Str), a.length ≤ ws.length → b.length ≤ ws.length → lenOk (a.map D.str ++ [D.str w]) = some (a.map D.str ++ [D.str w]) ∧ lenOk (a.map D.str ++ [D.str w] ++ b.map D.str) = some ((a ++ [w] ++ b).map .str) := fun a b ha hb => by
    unfold lenOk
    rw [if_pos (by simp; omega), if_pos (by simp; omega)]
    simp
  have hone : lenOk [D.str w] = some [D.str w] := by unfold lenOk; rfl
  have five : c % 5 = 0 ∨ c % 5 = 1 ∨ c % 5 = 2 ∨ c % 5 = 3 ∨ c % 5 = 4 := by omega
  rcases five with h5 | h5 | h5 | h5 | h5
  · refine ⟨ws.take k ++ [w] ++ ws.drop k, fin _ ?_, ?_, ?_, ?_⟩
    · obtain ⟨ha, hb⟩ := app3 _ _ lk lk2
      generalize (ws.take k ++ [w] ++ ws.drop k).map D.str = R at *
      generalize (ws.take k).map D.str = L1 at *
      generalize (ws.drop k).map D.str = L2 at *
      generalize hL : ws.map D.str = L at *
      unfold b__law_changed inP
      simp [-a_lenOk, -List.append_assoc, CDiv, hlen, hk, en, h5, c1, c2, ha, hb, hone]
    · intro x hx
      rcases List.mem_append.mp hx with hx | hx
      · rcases List.mem_append.mp hx with hx | hx
        · exact mt x hx
        · simp at hx; subst hx; exact hcl
      · exact md x hx
    · rw [tot_app, tot_app, tot_cons]; simp only [tot, List.map_nil, List.sum_nil] at *; omega
    · rw [tot_app, tot_app, tot_cons]; simp only [tot, List.map_nil, List.sum_nil] at *; omega
  · refine ⟨ws.take k ++ ws.drop (k + 1), fin _ ?_, ?_, ?_, ?_⟩
    · have ha : lenOk ((ws.take k).map D.str ++ (ws.drop (k + 1)).map D.str) = some ((ws.take k ++ ws.drop (k + 1)).map .str) := by
        unfold lenOk; rw [if_pos (by simp; omega)]; simp
      generalize (ws.take k ++ ws.drop (k + 1)).map D.str = R at *
      generalize (ws.take k).map D.str = L1 at *
      generalize (ws.drop (k + 1)).map D.str = L2 at *
      generalize hL : ws.map D.str = L at *
      unfold b__law_changed inP
      simp [-a_lenOk, -List.append_assoc, CDiv, hlen, hk, en, h5, c1, c3, ha]
    · intro x hx
      rcases List.mem_append.mp hx with hx | hx
      · exact mt x hx
      · exact md1 x hx
    · rw [tot_app]; omega
    · rw [tot_app]; omega
  · refine ⟨ws.take k ++ [w] ++ ws.drop (k + 1), fin _ ?_, ?_, ?_, ?_⟩
    · obtain ⟨ha, hb⟩ := app3 _ _ lk lk3
      generalize (ws.take k ++ [w] ++ ws.drop (k + 1)).map D.str = R at *
      generalize (ws.take k).map D.str = L1 at *
      generalize (ws.drop (k + 1)).map D.str = L2 at *
      generalize hL : ws.map D.str = L at *
      unfold b__law_changed inP
      simp [-a_lenOk, -List.append_assoc, CDiv, hlen, hk, en, h5, c1, c3, ha, hb, hone]
    · intro x hx
      rcases List.mem_append.mp hx with hx | hx
      · rcases List.mem_append.mp hx with hx | hx
        · exact mt x hx
        · simp at hx; subst hx; exact hcl
      · exact md1 x hx
    · rw [tot_app, tot_app, tot_cons]; simp only [tot, List.map_nil, List.sum_nil] at *; omega
    · rw [tot_app, tot_app, tot_cons]; simp only [tot, List.map_nil, List.sum_nil] at *; omega
  · refine ⟨ws.take k, fin _ ?_, mt, by omega, by omega⟩
    generalize (ws.take k).map D.str = L1 at *
    generalize hL : ws.map D.str = L at *
    unfold b__law_changed inP
    simp [CDiv, hlen, hk, en, h5, c1]
  · refine ⟨ws, fin _ ?_, hw, by omega, by omega⟩
    unfold b__law_changed inP
    simp [CDiv, hlen, hk, en, h5]
end W_k15
end
section
set_option maxRecDepth 100000
set_option maxHeartbeats 2000000
namespace W_k15
open PySem L2 PyProof.Rows PySem.Spec Ab
/-! ### a figure's text -/
theorem lt_row : (Mn.row).w = "row" := rfl
theorem txt_many (k : Mn) (ps : List Fig) : [D.str (Mn.b k)] ++ ps.map (fun p => D.str (J (wds p))) ++ [D.str (Mn.e k)] = ((Mn.b k :: (ps.map (fun p => J (wds p)) ++ [Mn.e k])) : List Str).map .str := by
  simp [List.map_map, Function.comp]
theorem J_many (k : Mn) (ps : List Fig) : J (Mn.b k :: (ps.map (fun p => J (wds p)) ++ [Mn.e k])) = J (wds (.many k ps)) := by
  rw [J_cons _ (by simp), J_parts wds wds_ne, ← wdss_flat, ← J_cons _ (by simp)]; rfl
theorem wsum_parts : ∀ (ps : List Fig) (e : Str), woks ps = true → wsum (ps.map (fun p => J (wds p)) ++ [e]) ≤ 21 * cnts ps + e.length + 1
  | [], e, _ => by show e.length + 0 + 1 ≤ _; omega
  | p :: ps, e, h => by
    simp only [woks, Bool.and_eq_true] at h
    have h1 := wsum_parts ps e h.2
    have h2 := J_wsum (wds p)
    have h3 := wds_sum p h.1
    have h4 := cnt_pos p
    rw [List.map_cons, List.cons_append, wsum_cons]
    simp only [cnts]
    omega
theorem app_ok (x : D) (xs : List D) (y : D) (h : xs.length ≤ 99000) : ([x].length ≤ 100000 ∧ ([x] ++ xs).length ≤ 100000) ∧ ([x] ++ xs ++ [y]).length ≤ 100000 := by
  simp; omega
theorem v_written : ∀ (n : Nat) (f : Fig), hgt f ≤ n → wok f = true → Ab.cnt f ≤ 1000 → mF__law_written n [enc f] = some (.str (J (wds f)))
  | 0, f, h, _, _ => by cases f <;> simp [hgt] at h
  | n + 1, f, h, hw, hc => by
    have hJ := fun g => J_wsum (wds g)
    have l0 : (" " : Str).length = 1 := rfl
    have fin : (∃ β, b__law_written (mF__law_written n) (inP 4 1 [enc f]) = .ret (.dat (.str (J (wds f)))) β) → mF__law_written (n + 1) [enc f] = some (.str (J (wds f))) := fun ⟨β, e⟩ => runP_dat rfl e
    apply fin
    cases f with
    | nothing =>
      have : J (wds .nothing) = "nothing" := J_one _
      rw [this]
      unfold b__law_written inP
      simp [enc]
    | bead c =>
      have : J (wds (.bead c)) = c := J_one _
      rw [this]
      unfold b__law_written inP
      simp [enc]
    | left g =>
      simp only [hgt] at h; simp only [Ab.cnt] at hc; simp only [wok] at hw
      have ih := v_written n g (by omega) hw (by omega)
      have hb := wds_sum g hw
      have hg := hJ g
      have e1 : J (wds (.left g)) = "left" ++ " " ++ J (wds g) := J_cons _ (wds_ne g)
      have c1 : fCatS (.str "left") (.str " ") = some (.str ("left" ++ " ")) := fCat_ok (by decide +kernel)
      have c2 : fCatS (.str ("left" ++ " ")) (.str (J (wds g))) = some (.str ("left" ++ " " ++ J (wds g))) := fCat_ok (by rw [show (("left" : Str) ++ " ").length = 5 from rfl]; omega)
      rw [e1]
      generalize J (wds g) = t at *
      unfold b__law_written inP
      simp [enc, ih, c1, c2, memD, flat, dv, inV, eqV]
    | right g =>
      simp only [hgt] at h; simp only [Ab.cnt] at hc; simp only [wok] at hw
      have ih := v_written n g (by omega) hw (by omega)
      have hb := wds_sum g hw
      have hg := hJ g
      have e1 : J (wds (.right g)) = "right" ++ " " ++ J (wds g) := J_cons _ (wds_ne g)
      have c1 : fCatS (.str "right") (.str " ") = some (.str ("right" ++ " ")) := fCat_ok (by decide +kernel)
      have c2 : fCatS (.str ("right" ++ " ")) (.str (J (wds g))) = some (.str ("right" ++ " " ++ J (wds g))) := fCat_ok (by rw [show (("right" : Str) ++ " ").length = 6 from rfl]; omega)
      rw [e1]
      generalize J (wds g) = t at *
      unfold b__law_written inP
      simp [enc, ih, c1, c2, memD, flat, dv, inV, eqV]
    | pair g k =>
      simp only [hgt] at h; simp only [Ab.cnt] at hc; simp only [wok, Bool.and_eq_true] at hw
      have i1 := v_written n g (by omega) hw.1 (by omega)
      have i2 := v_written n k (by omega) hw.2 (by omega)
      have b1 := wds_sum g hw.1
      have b2 := wds_sum k hw.2
      have g1 := hJ g
      have g2 := hJ k
      have e1 : J (wds (.pair g k)) = "( " ++ J (wds g) ++ " " ++ J (wds k) ++ " )" := by
        show J ("(" :: (wds g ++ (wds k ++ [(")" : Str)]))) = _
        rw [J_cons _ (by simp), J_app (wds_ne g) (by simp), J_app (wds_ne k) (by simp), J_one]
        apply TL.ext_tl
        simp only [TL.tl_append, List.append_assoc]
        rfl
      have l2 : ("( " : Str).length = 2 := rfl
      have l3 : (" )" : Str).length = 2 := rfl
      have c1 : fCatS (.str "( ") (.str (J (wds g))) = some (.str ("( " ++ J (wds g))) := fCat_ok (by rw [l2]; omega)
      have c2 : fCatS (.str ("( " ++ J (wds g))) (.str " ") = some (.str ("( " ++ J (wds g) ++ " ")) := fCat_ok (by rw [catS_len, l2, l0]; omega)
      have c3 : fCatS (.str ("( " ++ J (wds g) ++ " ")) (.str (J (wds k))) = some (.str ("( " ++ J (wds g) ++ " " ++ J (wds k))) := fCat_ok (by rw [catS_len, catS_len, l2, l0]; omega)
      have c4 : fCatS (.str ("( " ++ J (wds g) ++ " " ++ J (wds k))) (.str " )") = some (.str ("( " ++ J (wds g) ++ " " ++ J (wds k) ++ " )")) := fCat_ok (by rw [catS_len, catS_len, catS_len, l2, l0, l3]; omega)
      rw [e1]
      generalize J (wds g) = t at *
      generalize J (wds k) = t2 at *
      unfold b__law_written inP
      simp [enc, i1, i2, c1, c2, c3, c4, memD, flat, dv, inV, eqV]
    | many k ps =>
      simp only [hgt] at h; simp only [Ab.cnt] at hc; simp only [wok] at hw
      have hpl := cnts_len ps
      have sub : ∀ p ∈ ps, mF__law_written n [enc p] = some (.str (J (wds p))) := fun p m => by
        have h1 := hgts_mem m
        have h2 := cnts_mem m
        exact v_written n p (by omega) (woks_iff.mp hw p m) (by omega)
      have go : ∀ j : Int, lcF (gN 3) tbYes (xCall (mF__law_written n) (aCons (xVar 3) aNil)) (encs ps) [some (.dat (.tup [.str k.w, .tup (encs ps)])), some (.dat (.int j)), none, none] = some (ps.map fun p => .str (J (wds p))) := fun j => by
        rw [encs_map]
        refine lcF_maps fun p m => ⟨[some (.dat (.tup [.str k.w, .tup (encs ps)])), some (.dat (.int j)), none, some (.dat (enc p))], by rw [encs_map]; rfl, rfl, ?_⟩
        simp [sub p m]
      have hws : wsum (Mn.b k :: (ps.map (fun p => J (wds p)) ++ [Mn.e k])) ≤ 100000 := by
        have := wsum_parts ps (Mn.e k) hw
        have l1 : (Mn.b k).length ≤ 2 := by cases k <;> decide +kernel
        have l2 : (Mn.e k).length ≤ 2 := by cases k <;> decide +kernel
        rw [wsum_cons]
        omega
      have hj := fJoin_ok hws
      rw [← txt_many, J_many] at hj
      have hts : (ps.map fun p => D.str (J (wds p))).length ≤ 99000 := by rw [List.length_map]; omega
      have hel : (encs ps).length ≤ 100000 := by rw [encs_len]; omega
      have hj' : fJoin " " (.str (Mn.b k) :: ((ps.map fun p => D.str (J (wds p))) ++ [.str (Mn.e k)])) = some (.str (J (wds (.many k ps)))) := hj
      generalize J (wds (.many k ps)) = t at *
      generalize ps.map (fun p => D.str (J (wds p))) = ts at *
      show ∃ β, b__law_written (mF__law_written n) [some (.dat (.tup [.str k.w, .tup (encs ps)])), none, none, none] = _
      generalize encs ps = qs at *
      clear sub hJ fin hw hws hj
      have q1 : 1 + ts.length ≤ 100000 := by omega
      have q2 : ts.length + 1 ≤ 99999 := by omega
      have q3 : ts.length ≤ 99998 := by omega
      have a3 : ∀ (a b c d : D), atI [a, b, c, d] 3 = some d := fun _ _ _ _ => rfl
      cases k <;> (simp only [Mn.w, Mn.b, Mn.e] at *; unfold b__law_written; simp [hel, go, q1, q2, q3, hj', memD, flat, dv, inV, eqV, dstrs, ixOf, a3])
/-! ### the pile -/
def PileOk (fs : List Fig) (cell : Int) : Prop := ∃ fs' : List Fig, noExcM m__law_pile [.inn (.lst (encs fs)), .dat (.int cell)] = .ok (.dat .non) [.inn (.lst (encs fs')), .dat (.int cell)] ∧ woks fs' = true ∧ cnts fs' ≤ cnts fs + 1
theorem woks_app {a b : List Fig} : woks (a ++ b) = true ↔ woks a = true ∧ woks b = true := by
  rw [woks_iff, woks_iff, woks_iff]
  constructor
  · exact fun h => ⟨fun f m => h f (List.mem_append_left _ m), fun f m => h f (List.mem_append_right _ m)⟩
  · rintro ⟨h1, h2⟩ f m
    rcases List.mem_append.mp m with m | m
    · exact h1 f m
    · exact h2 f m
theorem pile_fin {fs fs' : List Fig} {cell : Int} (h : ∃ β, b__law_pile [some (.inn (.lst (encs fs))), some (.dat (.int cell)), none, none, none, none, none, none] = .nxt (some (.inn (.lst (encs fs'))) :: some (.dat (.int cell)) :: β)) (hw : woks fs' = true) (hc : cnts fs' ≤ cnts fs + 1) : PileOk fs cell := by
  obtain ⟨β, h⟩ := h
  exact ⟨fs', noExc_ok (runM_nxt rfl h rfl), hw, hc⟩
theorem encs_last (fs : List Fig) (q : Fig) : (encs (fs ++ [q])).getLast? = some (enc q) ∧ (encs (fs ++ [q])).dropLast = encs fs := by
  rw [encs_app]
  constructor
  · simp
  · simp
theorem pop_loop (a1 a2 a3 a4 a5 a6 : Option A) : ∀ (ds : List D) (fs ps : List Fig) (y : Option A), ds.length = ps.length → ∃ y', loopF (gN 7) bl__law_pile_1 ds [some (.inn (.lst (encs (fs ++ ps)))), a1, a2, a3, a4, a5, a6, y] = .nxt [some (.inn (.lst (encs fs))), a1, a2, a3, a4, a5, a6, y']
  | [], fs, [], y, _ => ⟨y, by rw [List.append_nil]; rfl⟩
  | [], fs, p :: ps, y, h => by simp at h
  | d :: ds, fs, ps, y, h => by
    have hne : ps ≠ [] := by rintro rfl; simp at h
    obtain ⟨qs, q, rfl⟩ := concat_of hne
    obtain ⟨h1, h2⟩ := encs_last (fs ++ qs) q
    rw [List.append_assoc] at h1 h2
    obtain ⟨y', ih⟩ := pop_loop a1 a2 a3 a4 a5 a6 ds fs qs (some (.dat d)) (by simpa using h)
    refine ⟨y', ?_⟩
    have e : bl__law_pile_1 [some (.inn (.lst (encs (fs ++ (qs ++ [q]))))), a1, a2, a3, a4, a5, a6, some (.dat d)] = .nxt [some (.inn (.lst (encs (fs ++ qs)))), a1, a2, a3, a4, a5, a6, some (.dat d)] := by
      unfold bl__law_pile_1
      generalize encs (fs ++ (qs ++ [q])) = L at *
      simp [h1, h2, putC]
    rw [loop_cons' (α' := [some (.inn (.lst (encs (fs ++ (qs ++ [q]))))), a1, a2, a3, a4, a5, a6, some (.dat d)]) rfl e]
    exact ih
theorem pile_one (fs : List Fig) (q : Fig) (cell : Int) (hw : woks (fs ++ [q]) = true) (hb : fs.length ≤ 500) (hk : cell % 12 = 4 ∨ cell % 12 = 5) : PileOk (fs ++ [q]) cell := by
  obtain ⟨h1, h2⟩ := encs_last fs q
  obtain ⟨w1, w2⟩ := woks_app.mp hw
  have hl : (encs (fs ++ [q])).length = fs.length + 1 := by simp
  have hlt : (encs fs).length < 100000 := by simp; omega
  have hq : wok q = true := by simpa [woks] using w2
  rcases hk with hk | hk
  · refine pile_fin (fs' := fs ++ [.left q]) ?_ (woks_app.mpr ⟨w1, by simpa [woks, wok] using hq⟩) (by simp only [cnts_app, cnts, Ab.cnt]; omega)
    rw [encs_app fs [.left q]]
    have e1 : encs [.left q] = [.tup [.str "left", enc q]] := rfl
    rw [e1]
    generalize encs (fs ++ [q]) = L at *
    generalize encs fs = L0 at *
    unfold b__law_pile
    simp [hk, CDiv, memD, flat, dv, inV, eqV, hl, h1, h2, putC, hlt, show (0 : Int) < (fs.length : Int) + 1 by omega]
  · refine pile_fin (fs' := fs ++ [.right q]) ?_ (woks_app.mpr ⟨w1, by simpa [woks, wok] using hq⟩) (by simp only [cnts_app, cnts, Ab.cnt]; omega)
    rw [encs_app fs [.right q]]
    have e1 : encs [.right q] = [.tup [.str "right", enc q]] := rfl
    rw [e1]
    generalize encs (fs ++ [q]) = L at *
    generalize encs fs = L0 at *
    unfold b__law_pile
    simp [hk, CDiv, memD, flat, dv, inV, eqV, hl, h1, h2, putC, hlt, show (0 : Int) < (fs.length : Int) + 1 by omega]
theorem pile_two (fs : List Fig) (p q : Fig) (cell : Int) (hw : woks (fs ++ [p] ++ [q]) = true) (hb : fs.length ≤ 500) (hk : cell % 12 = 6) : PileOk (fs ++ [p] ++ [q]) cell := by
  obtain ⟨h1, h2⟩ := encs_last (fs ++ [p]) q
  obtain ⟨h3, h4⟩ := encs_last fs p
  obtain ⟨w12, w3⟩ := woks_app.mp hw
  obtain ⟨w1, w2⟩ := woks_app.mp w12
  have hl : (encs (fs ++ [p] ++ [q])).length = fs.length + 2 := by simp
  have hlt : (encs fs).length < 100000 := by simp; omega
  have hp : wok p = true := by simpa [woks] using w2
  have hq : wok q = true := by simpa [woks] using w3
  refine pile_fin (fs' := fs ++ [.pair p q]) ?_ (woks_app.mpr ⟨w1, by simp [woks, wok, hp, hq]⟩) (by simp only [cnts_app, cnts, Ab.cnt]; omega)
  rw [encs_app fs [.pair p q]]
  have e1 : encs [.pair p q] = [.tup [.str "pair", enc p, enc q]] := rfl
  rw [e1]
  generalize encs (fs ++ [p] ++ [q]) = L at *
  generalize encs (fs ++ [p]) = L1 at *
  generalize encs fs = L0 at *
  unfold b__law_pile
  simp [hk, CDiv, memD, flat, dv, inV, eqV, hl, h1, h2, h3, h4, putC, hlt, show (1 : Int) < (fs.length : Int) + 2 by omega]
theorem pile_none (fs : List Fig) (cell : Int) (hw : woks fs = true) (hb : fs.length ≤ 500) (hk : cell % 12 = 0) : PileOk fs cell := by
  have hlt : (encs fs).length < 100000 := by simp; omega
  refine pile_fin (fs' := fs ++ [.nothing]) ?_ (woks_app.mpr ⟨hw, rfl⟩) (by simp only [cnts_app, cnts, Ab.cnt]; omega)
  rw [encs_app fs [.nothing]]
  have e1 : encs [.nothing] = [.tup [.str "nothing"]] := rfl
  rw [e1]
  generalize encs fs = L0 at *
  unfold b__law_pile
  simp [hk, CDiv, memD, flat, dv, inV, eqV, putC, hlt]
theorem pile_bead (fs : List Fig) (cell : Int) (hw : woks fs = true) (hb : fs.length ≤ 500) (hk : cell % 12 = 1 ∨ cell % 12 = 2 ∨ cell % 12 = 3 ∨ cell % 12 = 11 ∨ ((cell % 12 = 4 ∨ cell % 12 = 5) ∧ fs.length = 0) ∨ (cell % 12 = 6 ∧ fs.length ≤ 1)) : PileOk fs cell := by
  have hlt : (encs fs).length < 100000 := by simp; omega
  obtain ⟨z, hz, hzw⟩ := v_word (cell / 12)
  have hl : (encs fs).length = fs.length := by simp
  refine pile_fin (fs' := fs ++ [.bead z]) ?_ (woks_app.mpr ⟨hw, by simp [woks, wok, hzw]⟩) (by simp only [cnts_app, cnts, Ab.cnt]; omega)
  rw [encs_app fs [.bead z]]
  have e1 : encs [.bead z] = [.tup [.str "bead", .str z]] := rfl
  rw [e1]
  generalize encs fs = L0 at *
  unfold b__law_pile
  rcases hk with hk | hk | hk | hk | ⟨hk | hk, h0⟩ | ⟨hk, h0⟩
  · simp [hk, CDiv, memD, flat, dv, inV, eqV, putC, hlt, hz]
  · simp [hk, CDiv, memD, flat, dv, inV, eqV, putC, hlt, hz]
  · simp [hk, CDiv, memD, flat, dv, inV, eqV, putC, hlt, hz]
  · simp [hk, CDiv, memD, flat, dv, inV, eqV, putC, hlt, hz]
  · simp [hk, CDiv, memD, flat, dv, inV, eqV, putC, hlt, hz, hl, h0]
  · simp [hk, CDiv, memD, flat, dv, inV, eqV, putC, hlt, hz, hl, h0]
  · simp [hk, CDiv, memD, flat, dv, inV, eqV, putC, hlt, hz, hl, show ¬ (1 : Int) < (fs.length : Int) by omega, show fs.length < 100000 by omega]
theorem pile_many (fs : List Fig) (cell : Int) (hw : woks fs = true) (hb : fs.length ≤ 500) (hk : cell % 12 = 7 ∨ cell % 12 = 8 ∨ cell % 12 = 9 ∨ cell % 12 = 10) : PileOk fs cell := by
  obtain ⟨m, hm⟩ : ∃ m : Nat, cell / 12 % (1 + (fs.length : Int)) = (m : Int) := ⟨(cell / 12 % (1 + (fs.length : Int))).toNat, by have := Int.emod_nonneg (cell / 12) (show (1 + (fs.length : Int)) ≠ 0 by omega); omega⟩
  have hml : m ≤ fs.length := by have := Int.emod_lt_of_pos (cell / 12) (show 0 < (1 + (fs.length : Int)) by omega); omega
  obtain ⟨as, ps, hfs, hps⟩ : ∃ as ps, fs = as ++ ps ∧ ps.length = m := ⟨fs.take (fs.length - m), fs.drop (fs.length - m), (List.take_append_drop _ _).symm, by rw [List.length_drop]; omega⟩
  subst hfs
  have hal : (as ++ ps).length - m = as.length := by rw [List.length_append]; omega
  have hcut : cutD (encs (as ++ ps)) (some (((as ++ ps).length : Int) - (m : Int))) none = encs ps := by
    have : ((as ++ ps).length : Int) - (m : Int) = ((as.length : Nat) : Int) := by rw [List.length_append]; omega
    rw [this, cutD_from, encs_app, List.drop_append_of_le_length (by simp)]
    rw [List.drop_of_length_le (by simp)]; rfl
  obtain ⟨w1, w2⟩ := woks_app.mp hw
  have hlt : (encs as).length < 100000 := by simp at hb ⊢; omega
  have hl : (encs (as ++ ps)).length = (as ++ ps).length := encs_len _
  have hpos : (0 : Int) < 1 + ((as ++ ps).length : Int) := by omega
  have key : ∀ k : Mn, (∃ β, b__law_pile [some (.inn (.lst (encs (as ++ ps)))), some (.dat (.int cell)), none, none, none, none, none, none] = .nxt (some (.inn (.lst (encs as ++ [.tup [.str k.w, .tup (encs ps)]]))) :: some (.dat (.int cell)) :: β)) → PileOk (as ++ ps) cell := fun k h => by
    refine pile_fin (fs' := as ++ [.many k ps]) ?_ (woks_app.mpr ⟨w1, by simp [woks, wok, w2]⟩) (by simp only [cnts_app, cnts, Ab.cnt]; omega)
    rw [encs_app as [.many k ps]]
    exact h
  have loop := fun a1 a2 a3 a4 a5 a6 y => pop_loop a1 a2 a3 a4 a5 a6 (encs ps) as ps y (by simp)
  have a3 : ∀ (a b c d : D), atI [a, b, c, d] 3 = some d := fun _ _ _ _ => rfl
  have sz : (1 : Int) + ((as ++ ps).length : Int) = ((as ++ ps).length : Int) + 1 := Int.add_comm _ _
  rcases hk with hk | hk | hk | hk
  · obtain ⟨y', hL⟩ := loop (some (.dat (.int cell))) (some (.dat (.int 7))) (some (.dat (.int (cell / 12)))) none (some (.dat (.int m))) (some (.dat (.lst (encs ps)))) none
    refine key .row ?_
    generalize encs (as ++ ps) = L at *
    generalize encs as = L0 at *
    generalize encs ps = L1 at *
    generalize (as ++ ps).length = N at *
    unfold b__law_pile
    simp [hk, CDiv, memD, flat, dv, inV, eqV, putC, hlt, hl, hpos, hm, hcut, hL, Mn.w]
  · obtain ⟨y', hL⟩ := loop (some (.dat (.int cell))) (some (.dat (.int 8))) (some (.dat (.int (cell / 12)))) none (some (.dat (.int m))) (some (.dat (.lst (encs ps)))) none
    refine key .bag ?_
    generalize encs (as ++ ps) = L at *
    generalize encs as = L0 at *
    generalize encs ps = L1 at *
    generalize (as ++ ps).length = N at *
    unfold b__law_pile
    simp [hk, CDiv, memD, flat, dv, inV, eqV, putC, hlt, hl, hpos, hm, hcut, hL, Mn.w]
  · obtain ⟨y', hL⟩ := loop (some (.dat (.int cell))) (some (.dat (.int 9))) (some (.dat (.int (cell / 12)))) none (some (.dat (.int m))) (some (.dat (.lst (encs ps)))) none
    refine key .choice ?_
    generalize encs (as ++ ps) = L at *
    generalize encs as = L0 at *
    generalize encs ps = L1 at *
    generalize (as ++ ps).length = N at *
    unfold b__law_pile
    simp [hk, CDiv, memD, flat, dv, inV, eqV, putC, hlt, hl, hpos, hm, hcut, hL, Mn.w]
  · obtain ⟨y', hL⟩ := loop (some (.dat (.int cell))) (some (.dat (.int 10))) (some (.dat (.int (cell / 12)))) none (some (.dat (.int m))) (some (.dat (.lst (encs ps)))) none
    refine key .ring ?_
    generalize encs (as ++ ps) = L at *
    generalize encs as = L0 at *
    generalize encs ps = L1 at *
    generalize (as ++ ps).length = N at *
    unfold b__law_pile
    simp [hk, CDiv, memD, flat, dv, inV, eqV, putC, hlt, hl, hpos, hm, hcut, hL, Mn.w, a3]
theorem v_pile (fs : List Fig) (cell : Int) (hw : woks fs = true) (hb : fs.length ≤ 500) : PileOk fs cell := by
  have h12 : cell % 12 = 0 ∨ (cell % 12 = 1 ∨ cell % 12 = 2 ∨ cell % 12 = 3 ∨ cell % 12 = 11) ∨ (cell % 12 = 4 ∨ cell % 12 = 5) ∨ cell % 12 = 6 ∨ (cell % 12 = 7 ∨ cell % 12 = 8 ∨ cell % 12 = 9 ∨ cell % 12 = 10) := by omega
  rcases h12 with h | h | h | h | h
  · exact pile_none fs cell hw hb h
  · exact pile_bead fs cell hw hb (by omega)
  · by_cases h0 : fs = []
    · subst h0; exact pile_bead [] cell hw hb (.inr (.inr (.inr (.inr (.inl ⟨h, rfl⟩)))))
    · obtain ⟨gs, g, rfl⟩ := concat_of h0
      exact pile_one gs g cell hw (by simp at hb; omega) h
  · by_cases h0 : fs.length ≤ 1
    · exact pile_bead fs cell hw hb (.inr (.inr (.inr (.inr (.inr ⟨h, h0⟩)))))
    · obtain ⟨gs, g, rfl⟩ := concat_of (xs := fs) (by rintro rfl; simp at h0)
      obtain ⟨ks, k, rfl⟩ := concat_of (xs := gs) (by rintro rfl; simp at h0)
      exact pile_two ks k g cell hw (by simp at hb; omega) h
  · exact pile_many fs cell hw hb h
theorem pile_loop (a : Option A) : ∀ (xs : List Int) (fs : List Fig) (y : Option A), woks fs = true → cnts fs + xs.length ≤ 100 →
    ∃ (fs' : List Fig) (y' : Option A), loopF (gN 2) bl__law_writing_1 (xs.map .int) [a, some (.own (.lst (encs fs))), y] = .nxt [a, some (.own (.lst (encs fs'))), y'] ∧ woks fs' = true ∧ cnts fs' ≤ cnts fs + xs.length
  | [], fs, y, hw, _ => ⟨fs, y, rfl, hw, by simp⟩
  | x :: xs, fs, y, hw, hc => by
    simp only [List.length_cons] at hc
    have := cnts_len fs
    obtain ⟨fs1, h1, w1, c1⟩ := v_pile fs x hw (by omega)
    have e : bl__law_writing_1 [a, some (.own (.lst (encs fs))), some (.dat (.int x))] = .nxt [a, some (.own (.lst (encs fs1))), some (.dat (.int x))] := by
      unfold bl__law_writing_1
      simp [h1, putC]
    obtain ⟨fs', y', h2, w2, c2⟩ := pile_loop a xs fs1 (some (.dat (.int x))) w1 (by omega)
    refine ⟨fs', y', ?_, w2, by simp only [List.length_cons]; omega⟩
    rw [List.map_cons, loop_cons' (α' := [a, some (.own (.lst (encs fs))), some (.dat (.int x))]) rfl e]
    exact h2
theorem v_writing (xs : List Int) (hl : xs.length ≤ 57) : ∃ f : Fig, m__law_writing [.lst (xs.map .int)] = some (enc f) ∧ wok f = true ∧ Ab.cnt f ≤ 60 := by
  obtain ⟨fs, y, h, hw, hc⟩ := pile_loop (some (.dat (.lst (xs.map .int)))) xs [] none rfl (by simp [cnts]; omega)
  have hlen := cnts_len fs
  simp only [cnts] at hc
  by_cases h1 : ∃ f, fs = [f]
  · obtain ⟨f, rfl⟩ := h1
    refine ⟨f, ?_, by simpa [woks] using hw, by simp [cnts] at hc; omega⟩
    have : ∃ β, b__law_writing (inP 3 1 [.lst (xs.map .int)]) = .ret (.dat (enc f)) β := by
      unfold b__law_writing inP
      simp only [encs_nil] at h
      simp [h]
    obtain ⟨β, e⟩ := this
    exact runP_dat rfl e
  · refine ⟨.many .row fs, ?_, hw, by show cnts fs + 1 ≤ 60; omega⟩
    have h2 : ¬ (fs.length = 1) := fun z => h1 (List.length_eq_one_iff.mp z)
    have h3 : (encs fs).length = fs.length := encs_len _
    have : ∃ β, b__law_writing (inP 3 1 [.lst (xs.map .int)]) = .ret (.dat (enc (.many .row fs))) β := by
      have e1 : enc (.many .row fs) = .tup [.str "row", .tup (encs fs)] := rfl
      rw [e1]
      unfold b__law_writing inP
      simp only [encs_nil] at h
      generalize encs fs = L at *
      simp [h, h3, h2, show ¬ ((fs.length : Int) = 1) by omega]
    obtain ⟨β, e⟩ := this
    exact runP_dat rfl e
/-! ### the law -/
theorem wt_of {w : Str} (h : w ≠ "( ") : wt w = wgt w := by unfold wt pc; rw [if_neg h, mu_cons]; rfl
theorem ln_of {w : Str} (h : w ≠ "( ") : ln w = 1 := by unfold ln pc; rw [if_neg h]; rfl
theorem wt_isW {w : Str} (h : isW w = true) : wt w = 0 := by
  rw [wt_of (isW_ne h (by decide +kernel))]
  unfold wgt
  rw [if_neg, if_neg]
  · rintro (z | z | z) <;> exact isW_ne h (by decide +kernel) z
  · rintro (z | z | z | z) <;> exact isW_ne h (by decide +kernel) z
structure Wd (ws : List Str) (n : Nat) : Prop where
  cl : ∀ w ∈ ws, clean w ∧ w ≠ "( "
  wt : tot wt ws ≤ 2 * n
  ln : tot ln ws ≤ 2 * n
theorem Wd.app {a b : List Str} {n m : Nat} (h : Wd a n) (g : Wd b m) : Wd (a ++ b) (n + m) :=
  ⟨fun w hw => (List.mem_append.mp hw).elim (h.cl w) (g.cl w), by rw [tot_app]; have := h.wt; have := g.wt; omega, by rw [tot_app]; have := h.ln; have := g.ln; omega⟩
theorem wd_w {w : Str} (h1 : 32 ∉ TL.tl w) (h2 : w.length ≤ 100) (h3 : w ≠ "( ") (h4 : W_k15.wt w ≤ 2) : Wd [w] 1 :=
  ⟨fun u hu => by simp at hu; subst hu; exact ⟨⟨.inr h1, h2⟩, h3⟩, by simp [tot]; omega, by simp [tot, ln_of h3]⟩
theorem wd_w0 {w : Str} (h1 : 32 ∉ TL.tl w) (h2 : w.length ≤ 100) (h3 : w ≠ "( ") (h4 : W_k15.wt w = 0) (l : List Str) {n : Nat} (hl : Wd l n) (hb : tot W_k15.ln l + 1 ≤ 2 * n) : Wd (l ++ [w]) n :=
  ⟨fun u hu => (List.mem_append.mp hu).elim (hl.cl u) fun hu => by simp at hu; subst hu; exact ⟨⟨.inr h1, h2⟩, h3⟩, by rw [tot_app]; have := hl.wt; simp [tot] at *; omega, by rw [tot_app]; simp [tot, ln_of h3] at *; omega⟩
mutual
theorem wds_wd : ∀ f : Fig, wok f = true → Wd (wds f) (Ab.cnt f) ∧ tot W_k15.ln (wds f) ≤ 2 * Ab.cnt f
  | .nothing, _ => by
    have h : Wd [("nothing" : Str)] 1 := wd_w (by decide +kernel) (by decide +kernel) (by decide +kernel) (by decide +kernel)
    exact ⟨h, h.ln⟩
  | .bead c, h => by
    have h' : Wd [c] 1 := wd_w (lets_sp (isW_lets h)) (by have := isW_len h; omega) (isW_ne h (by decide +kernel)) (by rw [wt_isW h]; omega)
    exact ⟨h', h'.ln⟩
  | .left f, h => by
    have a : Wd [("left" : Str)] 1 := wd_w (by decide +kernel) (by decide +kernel) (by decide +kernel) (by decide +kernel)
    have b := (wds_wd f h).1
    have c := a.app b
    have e : 1 + Ab.cnt f = Ab.cnt (.left f) := by simp only [Ab.cnt]; omega
    rw [e] at c
    exact ⟨c, c.ln⟩
  | .right f, h => by
    have a : Wd [("right" : Str)] 1 := wd_w (by decide +kernel) (by decide +kernel) (by decide +kernel) (by decide +kernel)
    have b := (wds_wd f h).1
    have c := a.app b
    have e : 1 + Ab.cnt f = Ab.cnt (.right f) := by simp only [Ab.cnt]; omega
    rw [e] at c
    exact ⟨c, c.ln⟩
  | .pair f g, h => by
    have hf : wok f = true := by simp only [wok, Bool.and_eq_true] at h; exact h.1
    have hg : wok g = true := by simp only [wok, Bool.and_eq_true] at h; exact h.2
    have b := (wds_wd f hf).1
    have c := (wds_wd g hg).1
    have bc := b.app c
    have e : wds (.pair f g) = [("(" : Str)] ++ ((wds f ++ wds g) ++ [(")" : Str)]) := by simp [wds]
    have z1 : W_k15.wt "(" = 1 := by decide +kernel
    have z2 : W_k15.wt ")" = 0 := by decide +kernel
    have z3 : W_k15.ln "(" = 1 := by decide +kernel
    have z4 : W_k15.ln ")" = 1 := by decide +kernel
    have hb := bc.wt
    have hl := bc.ln
    have r : Wd (wds (.pair f g)) (Ab.cnt (.pair f g)) := by
      rw [e]
      refine ⟨fun w hw => ?_, ?_, ?_⟩
      · rcases List.mem_append.mp hw with hw | hw
        · simp at hw; subst hw; exact ⟨⟨.inr (by decide +kernel), by decide +kernel⟩, by decide +kernel⟩
        · rcases List.mem_append.mp hw with hw | hw
          · exact bc.cl w hw
          · simp at hw; subst hw; exact ⟨⟨.inr (by decide +kernel), by decide +kernel⟩, by decide +kernel⟩
      · rw [tot_app, tot_app (W_k15.wt) (wds f ++ wds g), tot_cons, tot_cons, z1, z2]; simp only [tot, List.map_nil, List.sum_nil, Ab.cnt] at *; omega
      · rw [tot_app, tot_app (W_k15.ln) (wds f ++ wds g), tot_cons, tot_cons, z3, z4]; simp only [tot, List.map_nil, List.sum_nil, Ab.cnt] at *; omega
    exact ⟨r, r.ln⟩
  | .many k ps, h => by
    have bc := wdss_wd ps h
    have e : wds (.many k ps) = [Mn.b k] ++ (wdss ps ++ [Mn.e k]) := by simp [wds]
    have z1 : W_k15.wt (Mn.b k) = 2 := by cases k <;> decide +kernel
    have z2 : W_k15.wt (Mn.e k) = 0 := by cases k <;> decide +kernel
    have z3 : W_k15.ln (Mn.b k) = 1 := by cases k <;> decide +kernel
    have z4 : W_k15.ln (Mn.e k) = 1 := by cases k <;> decide +kernel
    have hb := bc.wt
    have hl := bc.ln
    have r : Wd (wds (.many k ps)) (Ab.cnt (.many k ps)) := by
      rw [e]
      refine ⟨fun w hw => ?_, ?_, ?_⟩
      · rcases List.mem_append.mp hw with hw | hw
        · simp at hw; subst hw; cases k <;> exact ⟨⟨.inr (by decide +kernel), by decide +kernel⟩, by decide +kernel⟩
        · rcases List.mem_append.mp hw with hw | hw
          · exact bc.cl w hw
          · simp at hw; subst hw; cases k <;> exact ⟨⟨.inr (by decide +kernel), by decide +kernel⟩, by decide +kernel⟩
      · rw [tot_app, tot_app (W_k15.wt) (wdss ps), tot_cons, tot_cons, z1, z2]; simp only [tot, List.map_nil, List.sum_nil, Ab.cnt] at *; omega
      · rw [tot_app, tot_app (W_k15.ln) (wdss ps), tot_cons, tot_cons, z3, z4]; simp only [tot, List.map_nil, List.sum_nil, Ab.cnt] at *; omega
    exact ⟨r, r.ln⟩
theorem wdss_wd : ∀ fs : List Fig, woks fs = true → Wd (wdss fs) (cnts fs)
  | [], _ => ⟨fun w hw => (nomatch hw : False).elim, Nat.zero_le _, Nat.zero_le _⟩
  | f :: fs, h => by
    have hf : wok f = true := by simp only [woks, Bool.and_eq_true] at h; exact h.1
    have hg : woks fs = true := by simp only [woks, Bool.and_eq_true] at h; exact h.2
    exact (wds_wd f hf).1.app (wdss_wd fs hg)
end
theorem change_loop (ms : List Int) : ∀ (xs : List Nat) (ws : List Str) (a2 a3 a4 : Option A), (∀ w ∈ ws, clean w) → ws.length + 2 * xs.length ≤ 9000 → tot ln ws + 2 * xs.length ≤ 9000 →
    ∃ (ws' : List Str) (z3 : Option A), loopF (gN 3) bl_law_1 (xs.map fun k : Nat => D.int (k : Int)) [some (.dat (.lst (ms.map .int))), some (.dat (.lst (ws.map .str))), a2, a3, a4] = .nxt [some (.dat (.lst (ms.map .int))), some (.dat (.lst (ws'.map .str))), a2, z3, a4] ∧
      (∀ w ∈ ws', clean w) ∧ tot wt ws' ≤ tot wt ws + 3 * xs.length ∧ tot ln ws' ≤ tot ln ws + 2 * xs.length
  | [], ws, a2, a3, a4, hw, _, _ => ⟨ws, a3, rfl, hw, by simp, by simp⟩
  | x :: xs, ws, a2, a3, a4, hw, hl, hl2 => by
    obtain ⟨n, en⟩ := v_cell ms (2 + (x : Int)) (by omega)
    simp only [List.length_cons] at hl hl2
    obtain ⟨ws1, e1, h1, h2, h3⟩ := v_changed ws (n % 10 ^ 12) hw (by omega)
    have hlen1 := ln_len ws1
    obtain ⟨ws', z3, i1, i2, i3, i4⟩ := change_loop ms xs ws1 a2 (some (.dat (.int (x : Int)))) a4 h1 (by omega) (by omega)
    have e : bl_law_1 [some (.dat (.lst (ms.map .int))), some (.dat (.lst (ws.map .str))), a2, some (.dat (.int (x : Int))), a4] = .nxt [some (.dat (.lst (ms.map .int))), some (.dat (.lst (ws1.map .str))), a2, some (.dat (.int (x : Int))), a4] := by
      have hp2 : (10 : Int) ^ 12 = 1000000000000 := by decide
      rw [hp2] at e1
      generalize ms.map D.int = M at *
      generalize ws.map D.str = L at *
      generalize ws1.map D.str = L1 at *
      unfold bl_law_1
      simp [en, CPow, e1]
    refine ⟨ws', z3, ?_, i2, by simp only [List.length_cons]; omega, by simp only [List.length_cons]; omega⟩
    rw [List.map_cons, loop_cons' (α' := [some (.dat (.lst (ms.map .int))), some (.dat (.lst (ws.map .str))), a2, some (.dat (.int (x : Int))), a4]) rfl e]
    exact i1
theorem goal : ∀ ns : List Int, ns.length ≤ 63 → m_law [.lst (ns.map .int)] = some (.bl true) := fun ns hl => by
  obtain ⟨ms, e1, hml, hml2⟩ := v_mixed2 ns 21 (by decide) (by decide) hl
  have cut5 : cutD (ms.map D.int) (some 5) (some 21) = ((ms.drop 5).take 16).map .int := by
    rw [show (5 : Int) = ((5 : Nat) : Int) from rfl, show (21 : Int) = ((21 : Nat) : Int) from rfl, cutD_mid (by omega), List.map_take, List.map_drop]
  obtain ⟨f, e2, hk, hc⟩ := v_writing ((ms.drop 5).take 16) (by rw [List.length_take, List.length_drop]; omega)
  have hg := hgt_cnt f
  have e3 : m__law_written [enc f] = some (.str (J (wds f))) := v_written 100 f (by omega) hk (by omega)
  obtain ⟨hwd, _⟩ := wds_wd f hk
  have hcl := hwd.cl
  have hwt := hwd.wt
  have hln := hwd.ln
  have hsp : Txt.split (J (wds f)) " " = wds f := split_J (wds_ne f) fun p hp => (hcl p hp).1.1.resolve_left (hcl p hp).2
  have hsum := wds_sum f hk
  have hlt : (J (wds f)).length + 2 ≤ 100000 := by have := J_wsum (wds f); omega
  obtain ⟨c0, e0⟩ := v_cell ms 0 (by omega)
  obtain ⟨c1, e11⟩ := v_cell ms 1 (by omega)
  have l1 : ((" " : Str).length == 0) = false := rfl
  obtain ⟨dp, hdp⟩ : ∃ dp : Nat, c1 % 13 = (dp : Int) := ⟨(c1 % 13).toNat, by omega⟩
  have hdp12 : dp ≤ 12 := by omega
  obtain ⟨m, hm⟩ : ∃ m : Nat, c0 / 3 % 4 = (m : Int) := ⟨(c0 / 3 % 4).toNat, by omega⟩
  have hm3 : m ≤ 3 := by omega
  -- the bracket ahead
  obtain ⟨bw, hbw, bcl, bwt, bln⟩ : ∃ bw : Str, atI ([.str "(", .str "((", .str "[", .str "{", .str "<", .str "left"] : List D) (c1 / 13 % 6) = some (.str bw) ∧ clean bw ∧ wt bw ≤ 2 ∧ ln bw = 1 := by
    have six : c1 / 13 % 6 = 0 ∨ c1 / 13 % 6 = 1 ∨ c1 / 13 % 6 = 2 ∨ c1 / 13 % 6 = 3 ∨ c1 / 13 % 6 = 4 ∨ c1 / 13 % 6 = 5 := by omega
    rcases six with h | h | h | h | h | h <;> rw [h]
    · exact ⟨"(", rfl, ⟨.inr (by decide +kernel), by decide +kernel⟩, by decide +kernel, by decide +kernel⟩
    · exact ⟨"((", rfl, ⟨.inr (by decide +kernel), by decide +kernel⟩, by decide +kernel, by decide +kernel⟩
    · exact ⟨"[", rfl, ⟨.inr (by decide +kernel), by decide +kernel⟩, by decide +kernel, by decide +kernel⟩
    · exact ⟨"{", rfl, ⟨.inr (by decide +kernel), by decide +kernel⟩, by decide +kernel, by decide +kernel⟩
    · exact ⟨"<", rfl, ⟨.inr (by decide +kernel), by decide +kernel⟩, by decide +kernel, by decide +kernel⟩
    · exact ⟨"left", rfl, ⟨.inr (by decide +kernel), by decide +kernel⟩, by decide +kernel, by decide +kernel⟩
  let ws0 : List Str := if c0 % 3 = 1 then List.replicate dp bw ++ wds f else wds f
  have rep_tot : ∀ (f : Str → Nat) (w : Str) (n : Nat), tot f (List.replicate n w) = n * f w := fun f w n => by simp [tot]
  have w0c : ∀ w ∈ ws0, clean w := by
    intro w hw
    simp only [ws0] at hw
    split at hw
    · rcases List.mem_append.mp hw with hw | hw
      · rw [(List.mem_replicate.mp hw).2]; exact bcl
      · exact (hcl w hw).1
    · exact (hcl w hw).1
  have hmul : dp * wt bw ≤ 12 * 2 := Nat.mul_le_mul hdp12 bwt
  have w0t : tot wt ws0 ≤ 150 := by
    simp only [ws0]
    split
    · rw [tot_app, rep_tot]; omega
    · omega
  have w0l : tot ln ws0 ≤ 400 := by
    simp only [ws0]
    split
    · rw [tot_app, rep_tot, bln]; omega
    · omega
  have hx : (rngD 0 m) = (List.range m).map fun k : Nat => D.int (k : Int) := by simp [rngD]
  have hlen0 := ln_len ws0
  have r1 : ∀ a2 : Option A, ∃ (ws' : List Str) (z3 : Option A), loopF (gN 3) bl_law_1 (rngD 0 m) [some (.dat (.lst (ms.map .int))), some (.dat (.lst (ws0.map .str))), a2, none, none] = .nxt [some (.dat (.lst (ms.map .int))), some (.dat (.lst (ws'.map .str))), a2, z3, none] ∧
      m__law_refused [.str (J ws')] = some (outF (fl [(.top, 0)] (cuts ws') 0)) ∧ m__law_fault [.lst ((cuts ws').map .str)] = some (outF (fl [(.top, 0)] (cuts ws') 0)) ∧ fJoin " " (ws'.map .str) = some (.str (J ws')) ∧ Txt.split (J ws') " " = cuts ws' ∧ (J ws').length + 2 ≤ 100000 := fun a2 => by
    obtain ⟨ws', z3, f1, f2, f3, f4⟩ := change_loop ms (List.range m) ws0 a2 none none w0c (by rw [List.length_range]; omega) (by rw [List.length_range]; omega)
    rw [List.length_range] at f3 f4
    have hs' := split_cuts f2
    have hwl := ln_len ws'
    have hws := wsum_clean f2
    have hsl : (J ws').length + 2 ≤ 100000 := by have := J_wsum ws'; omega
    have hg' : Good (cuts ws') := ⟨by have := len_cuts ws'; omega, cuts_clean f2⟩
    have hmu : mu (cuts ws') + 1 ≤ 200 := by rw [mu_cuts]; omega
    exact ⟨ws', z3, by rw [hx]; exact f1, v_refused hs' hsl hg' hmu, v_fault hg', fJoin_ok (ys := ws') (by omega), hs', hsl⟩
  have heq : ∀ o : Option Nat, fEq (outF o) (outF o) = some (.bl true) := fun o => by
    cases o with
    | none => rfl
    | some p => simp [outF, fEq, flat, scal, dv, eqV]
  have hr := rngOk_nat (n := m) (by omega)
  have hrd := rngOk_nat (n := dp) (by omega)
  have : ∃ β, b_law (inP 5 1 [.lst (ns.map .int)]) = .ret (.dat (.bl true)) β := by
    have hW : ((wds f).map D.str).length ≤ 300 := by have := ln_len (wds f); simp; omega
    have hsp2 : (Txt.split (J (wds f)) " ").map D.str = (wds f).map D.str := by rw [hsp]
    by_cases h3 : c0 % 3 = 1
    · have ew : ws0 = List.replicate dp bw ++ wds f := if_pos h3
      obtain ⟨ws', z3, f1, q1, r2, hj, hs', hsl⟩ := r1 (some (.dat (.str bw)))
      have heq := heq (fl [(.top, 0)] (cuts ws') 0)
      rw [ew, List.map_append, List.map_replicate] at f1
      have len1 : lenOk (List.replicate dp (D.str bw) ++ (wds f).map D.str) = some (List.replicate dp (D.str bw) ++ (wds f).map D.str) := by
        unfold lenOk; rw [if_pos (by rw [List.length_append, List.length_replicate]; omega)]
      have len6 : lenOk ([.str "(", .str "((", .str "[", .str "{", .str "<", .str "left"] : List D) = some [.str "(", .str "((", .str "[", .str "{", .str "<", .str "left"] := by unfold lenOk; rfl
      have one : lenOk [D.str bw] = some [D.str bw] := by unfold lenOk; rfl
      have len0 : lenOk (List.replicate dp (D.str bw)) = some (List.replicate dp (D.str bw)) := by
        unfold lenOk; rw [if_pos (by rw [List.length_replicate]; omega)]
      generalize hR : List.replicate dp (D.str bw) = R1 at *
      generalize J (wds f) = jt at *
      generalize (wds f).map D.str = W at *
      generalize J ws' = jw at *
      generalize outF (fl [(.top, 0)] (cuts ws') 0) = o at *
      generalize enc f = et at *
      generalize ((ms.drop 5).take 16).map D.int = M5 at *
      generalize ms.map D.int = M at *
      unfold b_law inP
      simp [-a_lenOk, -List.append_assoc, e1, cut5, e2, e3, hlt, l1, hsp2, e0, e11, hdp, h3, hbw, len6, one, hR, len0, len1, CDiv, hm, hr, hrd, f1, hj, q1, hsl, hs', r2, heq]
    · have ew : ws0 = wds f := if_neg h3
      obtain ⟨ws', z3, f1, q1, r2, hj, hs', hsl⟩ := r1 none
      have heq := heq (fl [(.top, 0)] (cuts ws') 0)
      rw [ew] at f1
      generalize J (wds f) = jt at *
      generalize (wds f).map D.str = W at *
      generalize J ws' = jw at *
      generalize outF (fl [(.top, 0)] (cuts ws') 0) = o at *
      generalize enc f = et at *
      generalize ((ms.drop 5).take 16).map D.int = M5 at *
      generalize ms.map D.int = M at *
      unfold b_law inP
      simp [e1, cut5, e2, e3, hlt, l1, hsp2, e0, e11, hdp, h3, CDiv, hm, hr, f1, hj, q1, hsl, hs', r2, heq]
  obtain ⟨β, e⟩ := this
  exact runP_dat rfl e
end W_k15
end
open PySem PySem.W PyProof.Rows
set_option maxRecDepth 100000 in
set_option maxHeartbeats 0 in
theorem PySem.Challenge.cw_figurebook_k15_writing_texts_refused_holds : PySem.Challenge.rw_figurebook_k15_writing_texts_refused.Holds := by
  w_on; o_law; k_head; (case hw => w_witness2)
  k_fill
  refine L2.walk_of (l := PySem.Challenge.rw_figurebook_k15_writing_texts_refused) (n := 63) (k := 206) (x := "_law_script") (CX := fun _ => L2.CX0) (sp := fun w => Ab.spLaw _) rfl (by decide) rfl ⟨rfl, by decide, by decide⟩ (fun w h Y => PySem.W.kIn_of Y) ?F (fun _ _ a ns hl _ hS => ⟨a, ns, rfl, hS, hl, fun _ => rfl⟩) (fun _ _ _ _ _ h => h)
  case F =>
    intro w mg fa h KX G hmg
    refine' W_k15.all_mk KX G hmg ?a_is_word ?a_parts_up_to ?a_whole_writing ?a_read_writing ?a__law_cell ?a__law_kept ?a__law_word ?a__law_is_word ?a__law_pile ?a__law_writing ?a__law_written ?a__law_new_word ?a__law_changed ?a__law_done ?a__law_takes ?a__law_fault ?a__law_refused ?a__law_mixed ?a_law ?qa_FigureError ?qa_NoClass ?qa_NoFit ?qa_NoLine ?qa_NoText ?qa_Words ?ma_Words_ahead ?ma_Words_end ?ma_Words_need ?ma_Words_takes ?ma_Words_word ?ia_Words ?l_is_word ?c_is_word ?k_is_word ?l_Words___init__ ?c_Words___init__ ?k_Words___init__ ?i_Words___init__ ?l_Words_ahead ?c_Words_ahead ?k_Words_ahead ?i_Words_ahead ?l_Words_takes ?c_Words_takes ?k_Words_takes ?i_Words_takes ?l_Words_need ?c_Words_need ?k_Words_need ?i_Words_need ?l_Words_word ?c_Words_word ?k_Words_word ?i_Words_word ?l_Words_end ?c_Words_end ?k_Words_end ?i_Words_end ?l_parts_up_to ?c_parts_up_to ?k_parts_up_to ?l_whole_writing ?c_whole_writing ?k_whole_writing ?l_read_writing ?c_read_writing ?k_read_writing ?l__law_cell ?c__law_cell ?k__law_cell ?l__law_kept ?c__law_kept ?k__law_kept ?l__law_word ?c__law_word ?k__law_word ?l__law_is_word ?c__law_is_word ?k__law_is_word ?l__law_pile ?c__law_pile ?k__law_pile ?l__law_writing ?c__law_writing ?k__law_writing ?l__law_written ?c__law_written ?k__law_written ?l__law_new_word ?c__law_new_word ?k__law_new_word ?l__law_changed ?c__law_changed ?k__law_changed ?l__law_done ?c__law_done ?k__law_done ?l__law_takes ?c__law_takes ?k__law_takes ?l__law_fault ?c__law_fault ?k__law_fault ?l__law_refused ?c__law_refused ?k__law_refused ?l__law_mixed ?c__law_mixed ?k__law_mixed ?l_law ?c_law ?k_law ?mk_Words ?kk_Words ?xrd_FigureError ?xga_FigureError ?xcv_FigureError ?xL_NoText ?xsa_NoText ?xe_NoText ?xt_NoText ?xk_NoText ?xh_NoText ?xn_NoText ?xi_NoText ?xT_NoText ?xl_NoText ?xc_NoText ?xkf_NoText ?pg_Words ?hd_Words ?po_Words ?sa_Words ?kn_Words_all_words ?kn_Words_at ?xs_NoText_FigureError ?xe_FigureError ?xt_FigureError ?xh_FigureError ?xg_NoText ?xgg_NoText ?xca_NoText ?xmr_NoText ?bn ?bt ?kk_NoText_NoClass ?kk_NoText_NoLine ?kk_NoText_NoFit ?kk_NoText_NoText ?kv_NoText_ValueError ?ga_BEGINS ?gl_BEGINS ?gr_BEGINS ?gv_BEGINS_0 ?gv_BEGINS_1 ?gv_BEGINS_2 ?gv_BEGINS_3 ?ga_ENDS ?gl_ENDS ?gr_ENDS ?gv_ENDS_0 ?gv_ENDS_1 ?gv_ENDS_2 ?gv_ENDS_3 ?ga_KEPT ?gl_KEPT ?gr_KEPT ?ga_LETTERS ?zz_ValueError ?zz_bool ?zz_enumerate ?zz_int ?zz_isinstance ?zz_len ?zz_max ?zz_min ?zz_range ?zz_tuple W_k15.goal
    (case a_is_word => k_is); (case a_parts_up_to => k_is); (case a_whole_writing => k_is); (case a_read_writing => k_is); (case a__law_cell => k_is); (case a__law_kept => k_is)
    (case a__law_word => k_is); (case a__law_is_word => k_is); (case a__law_pile => k_is); (case a__law_writing => k_is); (case a__law_written => k_is); (case a__law_new_word => k_is)
    (case a__law_changed => k_is); (case a__law_done => k_is); (case a__law_takes => k_is); (case a__law_fault => k_is); (case a__law_refused => k_is); (case a__law_mixed => k_is)
    (case a_law => k_is); (case qa_FigureError => k_is); (case qa_NoClass => k_is); (case qa_NoFit => k_is); (case qa_NoLine => k_is); (case qa_NoText => k_is)
    (case qa_Words => k_is); (case ma_Words_ahead => k_is); (case ma_Words_end => k_is); (case ma_Words_need => k_is); (case ma_Words_takes => k_is); (case ma_Words_word => k_is)
    (case ia_Words => k_is); (case l_is_word => k_is); (case c_is_word => k_is); (case k_is_word => k_is); (case l_Words___init__ => k_is); (case c_Words___init__ => k_is)
    (case k_Words___init__ => k_is); (case i_Words___init__ => k_is); (case l_Words_ahead => k_is); (case c_Words_ahead => k_is); (case k_Words_ahead => k_is); (case i_Words_ahead => k_is)
    (case l_Words_takes => k_is); (case c_Words_takes => k_is); (case k_Words_takes => k_is); (case i_Words_takes => k_is); (case l_Words_need => k_is); (case c_Words_need => k_is)
    (case k_Words_need => k_is); (case i_Words_need => k_is); (case l_Words_word => k_is); (case c_Words_word => k_is); (case k_Words_word => k_is); (case i_Words_word => k_is)
    (case l_Words_end => k_is); (case c_Words_end => k_is); (case k_Words_end => k_is); (case i_Words_end => k_is); (case l_parts_up_to => k_is); (case c_parts_up_to => k_is)
    (case k_parts_up_to => k_is); (case l_whole_writing => k_is); (case c_whole_writing => k_is); (case k_whole_writing => k_is); (case l_read_writing => k_is); (case c_read_writing => k_is)
    (case k_read_writing => k_is); (case l__law_cell => k_is); (case c__law_cell => k_is); (case k__law_cell => k_is); (case l__law_kept => k_is); (case c__law_kept => k_is)
    (case k__law_kept => k_is); (case l__law_word => k_is); (case c__law_word => k_is); (case k__law_word => k_is); (case l__law_is_word => k_is); (case c__law_is_word => k_is)
    (case k__law_is_word => k_is); (case l__law_pile => k_is); (case c__law_pile => k_is); (case k__law_pile => k_is); (case l__law_writing => k_is); (case c__law_writing => k_is)
    (case k__law_writing => k_is); (case l__law_written => k_is); (case c__law_written => k_is); (case k__law_written => k_is); (case l__law_new_word => k_is); (case c__law_new_word => k_is)
    (case k__law_new_word => k_is); (case l__law_changed => k_is); (case c__law_changed => k_is); (case k__law_changed => k_is); (case l__law_done => k_is); (case c__law_done => k_is)
    (case k__law_done => k_is); (case l__law_takes => k_is); (case c__law_takes => k_is); (case k__law_takes => k_is); (case l__law_fault => k_is); (case c__law_fault => k_is)
    (case k__law_fault => k_is); (case l__law_refused => k_is); (case c__law_refused => k_is); (case k__law_refused => k_is); (case l__law_mixed => k_is); (case c__law_mixed => k_is)
    (case k__law_mixed => k_is); (case l_law => k_is); (case c_law => k_is); (case k_law => k_is); (case mk_Words => k_is); (case kk_Words => k_is)
    (case xrd_FigureError => k_is); (case xga_FigureError => k_is); (case xcv_FigureError => k_is); (case xL_NoText => k_is); (case xsa_NoText => k_is); (case xe_NoText => k_is)
    (case xt_NoText => k_is); (case xk_NoText => k_is); (case xh_NoText => k_is); (case xn_NoText => k_is); (case xi_NoText => k_is); (case xT_NoText => k_is)
    (case xl_NoText => k_is); (case xc_NoText => k_is); (case xkf_NoText => k_is); (case pg_Words => k_is); (case hd_Words => k_is); (case po_Words => k_is)
    (case sa_Words => k_is); (case kn_Words_all_words => k_is); (case kn_Words_at => k_is); (case xs_NoText_FigureError => first | rfl | k_is)
    (case xe_FigureError => k_is); (case xt_FigureError => k_is); (case xh_FigureError => k_is); (case xg_NoText => k_is); (case xgg_NoText => k_is); (case xca_NoText => k_is)
    (case xmr_NoText => k_is); (case bn => k_is); (case bt => k_is); (case kk_NoText_NoClass => kit_is)
    (case kk_NoText_NoLine => kit_is)
    (case kk_NoText_NoFit => kit_is)
    (case kk_NoText_NoText => kit_is)
    (case kv_NoText_ValueError => kit_is)
    (case ga_BEGINS => k_is); (case gl_BEGINS => k_is); (case gr_BEGINS => exact ⟨_, _, rfl, ⟨⟨_, _, rfl, rfl⟩, ⟨_, _, rfl, rfl⟩, ⟨_, _, rfl, rfl⟩, ⟨_, _, rfl, rfl⟩, trivial⟩⟩)
    (case gv_BEGINS_0 => k_is); (case gv_BEGINS_1 => k_is); (case gv_BEGINS_2 => k_is); (case gv_BEGINS_3 => k_is); (case ga_ENDS => k_is); (case gl_ENDS => k_is)
    (case gr_ENDS => exact ⟨_, _, rfl, ⟨⟨_, _, rfl, rfl⟩, ⟨_, _, rfl, rfl⟩, ⟨_, _, rfl, rfl⟩, ⟨_, _, rfl, rfl⟩, trivial⟩⟩)
    (case gv_ENDS_0 => k_is); (case gv_ENDS_1 => k_is); (case gv_ENDS_2 => k_is); (case gv_ENDS_3 => k_is); (case ga_KEPT => k_is); (case gl_KEPT => k_is)
    (case gr_KEPT => exact ⟨_, _, rfl, rfl, by decide, .cons ⟨_, rfl⟩ (.cons ⟨_, rfl⟩ (.cons ⟨_, rfl⟩ (.cons ⟨_, rfl⟩ (.cons ⟨_, rfl⟩ (.cons ⟨_, rfl⟩ (.cons ⟨_, rfl⟩ (.cons ⟨_, rfl⟩ (.cons ⟨_, rfl⟩ (.cons ⟨_, rfl⟩ (.cons ⟨_, rfl⟩ (.nil))))))))))), rfl, rfl⟩)
    (case ga_LETTERS => k_is); (case zz_ValueError => k_is); (case zz_bool => k_is); (case zz_enumerate => k_is); (case zz_int => k_is); (case zz_isinstance => k_is)
    (case zz_len => k_is); (case zz_max => k_is); (case zz_min => k_is); (case zz_range => k_is); (case zz_tuple => k_is)
#print axioms PySem.Challenge.cw_figurebook_k15_writing_texts_refused_holds
