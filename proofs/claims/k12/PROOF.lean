import PyProof.Rows.All
import Wide.All
import OpenK.AllK
import Wide.FinOn
import HandS.ForMost
import HandS.TupAny
import HandS.Rev
import HandS.IsInst
import KE.GoesMore
import KE.GoesEnum
import HandS.Wide
import KE.RegKIsAll
import HandS.Text
import HandS.More
import HandS.Zip0
import HandS.Iter
import HandS.Strs
import KE.LcSums
import HandS.ClsMeth
import HandS.ExcInit
import HandS.ExcOwn
import HandS.WordsExc
import HandS.TryOnly
import HandS.ExcIs
import HandS.ExcField
import KE.KExcIs
import HandS.Set
import HandS.SetFor
import HandS.SetKeys
import KE.LtData
import KE.SortCalls
import KE.SortKeyHeap
import KE.DataMinMax
import HandS.SortKw
import KE.KDictItemsList
import HandS.DictTup
import HandS.Conv
import KE.KDictList
import HandS.IterVal
import KE.DataMinKey
import HandS.EndTab
import HandS.NestedK
import PySem.Challenge.RW_figurebook_k12_whole_alike_by_steps
set_option Elab.async false
set_option linter.all false
section
set_option maxRecDepth 100000
set_option maxHeartbeats 1000000
namespace Ab
open PySem L2

/-- an object that may be owned -/
def Pl : HO → Prop
  | .lst _ => True | .ins _ _ _ => True | .dK _ => True | .xd _ => True | .frz _ _ => True | _ => False
/-- what is hidden: cells that no data reach, and what holds of them always -/
class Hd where
  hid : Addr → Prop
  inv : Hp → Prop
  up : ∀ {H H' : Hp}, L2.Same H H' → inv H → inv H'
  chg : ∀ {H : Hp} {p : Addr} {u o : HO}, inv H → ¬ hid p → H p = some u → Pl u → inv (upd H p o)
  del : ∀ {H : Hp} {p : Addr} {u : HO}, inv H → ¬ hid p → H p = some u → Pl u → inv (fun b => if b = p then none else H b)
  al : ∀ {H : Hp} {a : Addr}, inv H → hid a → H a ≠ none
/-- nothing is hidden -/
instance (priority := low) hd0 : Hd where
  hid := fun _ => False
  inv := fun _ => True
  up := fun _ _ => trivial
  chg := fun _ _ _ _ => trivial
  del := fun _ _ _ _ => trivial
  al := fun _ h => h.elim
/-- all stays but what is hidden, of which holds what held -/
structure Sm [Hd] (H H' : Hp) : Prop where
  k : ∀ a o, H a = some o → ¬ Hd.hid a → H' a = some o
  i : Hd.inv H → Hd.inv H'
theorem Sm.of [Hd] {H H' : Hp} (h : L2.Same H H') : Sm H H' := ⟨fun a o q _ => h a o q, Hd.up h⟩
theorem Sm.refl [Hd] (H : Hp) : Sm H H := ⟨fun _ _ h _ => h, id⟩
theorem Sm.trans [Hd] {H H1 H2 : Hp} (a : Sm H H1) (b : Sm H1 H2) : Sm H H2 := ⟨fun x o h n => b.k x o (a.k x o h n) n, fun h => b.i (a.i h)⟩
variable [Hd]

/-- data: values that never change -/
inductive D where
  | non | bl (b : Bool) | int (i : Int) | str (s : Str)
  | tup (xs : List D) | lst (xs : List D) | ins (c : String) (fs : List (Str × D))
  | ty (n : String) | cls (c : String)
  | dic (kvs : List (Key × D))

/-- where classes stand -/
structure En where
  K : PySem.W.Frag
  cls : String → Addr

mutual
def Rep (e : En) (F : Hp) : D → V → Prop
  | .non, v => v = .non
  | .bl b, v => v = .bl b
  | .int i, v => v = .int i
  | .str s, v => v = .str s
  | .ty n, v => v = .ty n
  | .cls c, v => v = .ref (e.cls c)
  | .tup ds, v => ∃ a vs, v = .ref a ∧ SqT e.K F a vs ∧ Reps e F ds vs
  | .lst ds, v => ∃ a vs, v = .ref a ∧ SqL e.K F a vs ∧ Reps e F ds vs
  | .ins c fs, v => ∃ a dx gs, v = .ref a ∧ F a = some (.ins (e.cls c) dx gs) ∧ RepF e F fs gs
  | .dic kvs, v => ∃ a od gs, v = .ref a ∧ F a = some (.frz od (.dK gs)) ∧ RepD e F kvs gs
def Reps (e : En) (F : Hp) : List D → List V → Prop
  | [], vs => vs = []
  | d :: ds, vs => ∃ v r, vs = v :: r ∧ Rep e F d v ∧ Reps e F ds r
def RepF (e : En) (F : Hp) : List (Str × D) → List (Str × V) → Prop
  | [], gs => gs = []
  | (x, d) :: fs, gs => ∃ v r, gs = (x, v) :: r ∧ Rep e F d v ∧ RepF e F fs r
def RepD (e : En) (F : Hp) : List (Key × D) → List (Key × V) → Prop
  | [], gs => gs = []
  | (x, d) :: fs, gs => ∃ v r, gs = (x, v) :: r ∧ Rep e F d v ∧ RepD e F fs r
end

theorem same_t {K : PySem.W.Frag} {F F' : Hp} {a : Addr} {vs : List V} (h : L2.Same F F') (t : SqT K F a vs) : SqT K F' a vs := by
  rcases t with (t | ⟨o, t⟩) | t
  · exact .inl (.inl (h _ _ t))
  · exact .inl (.inr ⟨o, h _ _ t⟩)
  · exact .inr t

mutual
theorem Rep.mono {e : En} {F F' : Hp} (h : L2.Same F F') : ∀ (d : D) (v : V), Rep e F d v → Rep e F' d v
  | .non, _, r => r
  | .bl _, _, r => r
  | .int _, _, r => r
  | .str _, _, r => r
  | .ty _, _, r => r
  | .cls _, _, r => r
  | .tup ds, _, ⟨a, vs, q, t, r⟩ => ⟨a, vs, q, same_t h t, Reps.mono h ds vs r⟩
  | .lst ds, _, ⟨a, vs, q, t, r⟩ => ⟨a, vs, q, h.seq t, Reps.mono h ds vs r⟩
  | .ins c fs, _, ⟨a, dx, gs, q, t, r⟩ => ⟨a, dx, gs, q, h _ _ t, RepF.mono h fs gs r⟩
  | .dic kvs, _, ⟨a, od, gs, q, t, r⟩ => ⟨a, od, gs, q, h _ _ t, RepD.mono h kvs gs r⟩
theorem Reps.mono {e : En} {F F' : Hp} (h : L2.Same F F') : ∀ (ds : List D) (vs : List V), Reps e F ds vs → Reps e F' ds vs
  | [], _, r => r
  | d :: ds, _, ⟨v, r, q, x, y⟩ => ⟨v, r, q, Rep.mono h d v x, Reps.mono h ds r y⟩
theorem RepF.mono {e : En} {F F' : Hp} (h : L2.Same F F') : ∀ (fs : List (Str × D)) (gs : List (Str × V)), RepF e F fs gs → RepF e F' fs gs
  | [], _, r => r
  | (x, d) :: fs, _, ⟨v, r, q, y, z⟩ => ⟨v, r, q, Rep.mono h d v y, RepF.mono h fs r z⟩
theorem RepD.mono {e : En} {F F' : Hp} (h : L2.Same F F') : ∀ (fs : List (Key × D)) (gs : List (Key × V)), RepD e F fs gs → RepD e F' fs gs
  | [], _, r => r
  | (x, d) :: fs, _, ⟨v, r, q, y, z⟩ => ⟨v, r, q, Rep.mono h d v y, RepD.mono h fs r z⟩
end
theorem Rep.up {e : En} {F F' : Hp} {d : D} {v : V} (r : Rep e F d v) (h : L2.Same F F') : Rep e F' d v := Rep.mono h d v r
theorem Reps.up {e : En} {F F' : Hp} {d : List D} {v : List V} (r : Reps e F d v) (h : L2.Same F F') : Reps e F' d v := Reps.mono h d v r

section
variable {e : En} {F : Hp}
theorem Reps.len : ∀ {ds : List D} {vs : List V}, Reps e F ds vs → vs.length = ds.length
  | [], _, r => by cases r; rfl
  | d :: ds, _, ⟨v, r, q, x, y⟩ => by subst q; simp [Reps.len y]
theorem Reps.nil : Reps e F [] [] := rfl
theorem Reps.cons {d : D} {ds : List D} {v : V} {vs : List V} (a : Rep e F d v) (b : Reps e F ds vs) : Reps e F (d :: ds) (v :: vs) := ⟨v, vs, rfl, a, b⟩
theorem Reps.append : ∀ {as bs : List D} {us vs : List V}, Reps e F as us → Reps e F bs vs → Reps e F (as ++ bs) (us ++ vs)
  | [], _, _, _, r, s => by cases r; exact s
  | d :: ds, _, _, _, ⟨v, r, q, x, y⟩, s => by subst q; exact Reps.cons x (Reps.append y s)
theorem Reps.get : ∀ {ds : List D} {vs : List V} {i : Nat} {d : D}, Reps e F ds vs → ds[i]? = some d → ∃ v, vs[i]? = some v ∧ Rep e F d v
  | [], _, _, _, _, h => by simp at h
  | d :: ds, _, 0, _, ⟨v, r, q, x, y⟩, h => by subst q; simp at h; subst h; exact ⟨v, rfl, x⟩
  | d :: ds, _, i + 1, _, ⟨v, r, q, x, y⟩, h => by subst q; obtain ⟨w, h1, h2⟩ := Reps.get (i := i) y (by simpa using h); exact ⟨w, by simpa using h1, h2⟩
theorem Reps.getv : ∀ {ds : List D} {vs : List V} {i : Nat} {v : V}, Reps e F ds vs → vs[i]? = some v → ∃ d, ds[i]? = some d ∧ Rep e F d v
  | [], _, _, _, r, h => by cases r; simp at h
  | d :: ds, _, 0, _, ⟨v, r, q, x, y⟩, h => by subst q; simp at h; subst h; exact ⟨d, rfl, x⟩
  | d :: ds, _, i + 1, _, ⟨v, r, q, x, y⟩, h => by subst q; obtain ⟨w, h1, h2⟩ := Reps.getv (i := i) y (by simpa using h); exact ⟨w, by simpa using h1, h2⟩
theorem Reps.take : ∀ {ds : List D} {vs : List V} (n : Nat), Reps e F ds vs → Reps e F (ds.take n) (vs.take n)
  | _, _, 0, _ => by simpa using Reps.nil
  | [], _, n + 1, r => by cases r; exact Reps.nil
  | d :: ds, _, n + 1, ⟨v, r, q, x, y⟩ => by subst q; exact Reps.cons x (Reps.take n y)
theorem Reps.drop : ∀ {ds : List D} {vs : List V} (n : Nat), Reps e F ds vs → Reps e F (ds.drop n) (vs.drop n)
  | _, _, 0, r => by simpa using r
  | [], _, n + 1, r => by cases r; exact Reps.nil
  | d :: ds, _, n + 1, ⟨v, r, q, x, y⟩ => by subst q; simpa using Reps.drop n y
theorem Reps.set : ∀ {ds : List D} {vs : List V} {d : D} {v : V} (n : Nat), Reps e F ds vs → Rep e F d v → Reps e F (ds.set n d) (vs.set n v)
  | [], _, _, _, n, r, _ => by cases r; exact Reps.nil
  | d :: ds, _, _, _, 0, ⟨v, r, q, x, y⟩, z => by subst q; exact Reps.cons z y
  | d :: ds, _, _, _, n + 1, ⟨v, r, q, x, y⟩, z => by subst q; exact Reps.cons x (Reps.set n y z)
theorem Reps.rev : ∀ {ds : List D} {vs : List V}, Reps e F ds vs → Reps e F ds.reverse vs.reverse
  | [], _, r => by cases r; exact Reps.nil
  | d :: ds, _, ⟨v, r, q, x, y⟩ => by subst q; rw [List.reverse_cons, List.reverse_cons]; exact (Reps.rev y).append (Reps.cons x Reps.nil)
end

open Classical in
/-- the heap without what is owned -/
noncomputable def fz (L : List Addr) (H : Hp) : Hp := fun a => if a ∈ L ∨ Hd.hid a then none else H a
theorem fz_le {L : List Addr} {H : Hp} : L2.Same (fz L H) H := fun a o h => by
  unfold fz at h; split at h
  · cases h
  · exact h
theorem fz_nh {L : List Addr} {H : Hp} {a : Addr} {o : HO} (h : fz L H a = some o) : a ∉ L ∧ ¬ Hd.hid a := by
  unfold fz at h; split at h
  · cases h
  · rename_i m; exact ⟨fun z => m (.inl z), fun z => m (.inr z)⟩
theorem fz_at {L : List Addr} {H : Hp} {a : Addr} {o : HO} (h : H a = some o) (m : a ∉ L) (n : ¬ Hd.hid a) : fz L H a = some o := by
  unfold fz; rw [if_neg (fun z => z.elim m n)]; exact h
theorem fz_same {L : List Addr} {H H' : Hp} (h : Sm H H') : L2.Same (fz L H) (fz L H') := fun a o q => by
  obtain ⟨m, n⟩ := fz_nh q
  exact fz_at (h.k _ _ (fz_le _ _ q) n) m n
theorem fz_mut {L : List Addr} {H H' : Hp} (h : ∀ a o, H a = some o → a ∉ L → ¬ Hd.hid a → H' a = some o) : L2.Same (fz L H) (fz L H') := fun a o q => by
  obtain ⟨m, n⟩ := fz_nh q
  exact fz_at (h _ _ (fz_le _ _ q) m n) m n
theorem fz_cons {L : List Addr} {H H' : Hp} {p : Addr} (h : Sm H H') (n : H p = none) : L2.Same (fz L H) (fz (p :: L) H') := fun a o q => by
  obtain ⟨m, n2⟩ := fz_nh q
  have hp : a ≠ p := ne_of_none (fz_le _ _ q) n
  exact fz_at (h.k _ _ (fz_le _ _ q) n2) (by simp [hp, m]) n2
theorem fz_anti {L L' : List Addr} {H : Hp} (h : ∀ a ∈ L', a ∈ L) : L2.Same (fz L H) (fz L' H) := fun a o q => by
  obtain ⟨m, n⟩ := fz_nh q
  exact fz_at (fz_le _ _ q) (fun z => m (h a z)) n

/-- what stands at an owned address -/
inductive Ct where
  | lst (xs : List D) | obj (c : String) (fs : List (Str × D)) | dic (kvs : List (Key × D))
inductive A where
  | dat (d : D) | own (c : Ct) | inn (c : Ct) | adr (a : Addr)
abbrev State := List (Option A)

def RepK (e : En) (F : Hp) (kvs : List (Key × D)) (gs : List (Key × V)) : Prop := gs.map (·.1) = kvs.map (·.1) ∧ Reps e F (kvs.map (·.2)) (gs.map (·.2))
theorem RepK.toD {e : En} {F : Hp} : ∀ {kvs : List (Key × D)} {gs : List (Key × V)}, RepK e F kvs gs → RepD e F kvs gs
  | [], [], _ => rfl
  | [], _ :: _, ⟨h, _⟩ => by cases h
  | (k, d) :: kvs, [], ⟨h, _⟩ => by cases h
  | (k, d) :: kvs, (k', v') :: gs, ⟨h, v, r, q, r1, r2⟩ => by
    simp only [List.map_cons, List.cons.injEq] at h q
    obtain ⟨rfl, h2⟩ := h
    obtain ⟨rfl, q2⟩ := q
    exact ⟨v', gs, rfl, r1, RepK.toD ⟨h2, by rw [q2]; exact r2⟩⟩
theorem RepD.toK {e : En} {F : Hp} : ∀ {kvs : List (Key × D)} {gs : List (Key × V)}, RepD e F kvs gs → RepK e F kvs gs
  | [], _, h => by cases h; exact ⟨rfl, rfl⟩
  | (k, d) :: kvs, _, ⟨v, r, q, r1, r2⟩ => by
    subst q
    obtain ⟨h1, h2⟩ := RepD.toK r2
    exact ⟨by simp only [List.map_cons, h1], v, _, rfl, r1, h2⟩
def RepC (e : En) (F : Hp) : Ct → HO → Prop
  | .lst xs, o => ∃ vs, o = .lst vs ∧ Reps e F xs vs
  | .obj c fs, o => ∃ dx gs, o = .ins (e.cls c) dx gs ∧ RepF e F fs gs
  | .dic kvs, o => ∃ gs, o = .dK gs ∧ RepK e F kvs gs
theorem RepC.up {e : En} {F F' : Hp} {c : Ct} {o : HO} (h : L2.Same F F') (r : RepC e F c o) : RepC e F' c o := by
  cases c with
  | lst xs => obtain ⟨vs, q, r⟩ := r; exact ⟨vs, q, r.up h⟩
  | obj c fs => obtain ⟨dx, gs, q, r⟩ := r; exact ⟨dx, gs, q, RepF.mono h _ _ r⟩
  | dic kvs => obtain ⟨gs, q, k, r⟩ := r; exact ⟨gs, q, k, r.up h⟩

theorem RepC.pl {e : En} {F : Hp} {c : Ct} {o : HO} (r : RepC e F c o) : Pl o := by
  cases c with
  | lst xs => obtain ⟨vs, q, _⟩ := r; subst q; trivial
  | obj c fs => obtain ⟨dx, gs, q, _⟩ := r; subst q; trivial
  | dic kvs => obtain ⟨gs, q, _⟩ := r; subst q; trivial
/-- a def's entry: who owns what, what may change, the heap, the arguments -/
structure Cn where
  L0 : List Addr
  S0 : List Addr
  H0 : Hp
  σ0 : L2.St

structure Mod (S : List Addr) (H H' : Hp) : Prop where
  k : ∀ a o, H a = some o → a ∉ S → ¬ Hd.hid a → H' a = some o
  i : Hd.inv H → Hd.inv H'
theorem Mod.of {S : List Addr} {H H' : Hp} (h : Sm H H') : Mod S H H' := ⟨fun a o q _ n => h.k a o q n, h.i⟩
theorem Mod.trans {S : List Addr} {H H1 H2 : Hp} (a : Mod S H H1) (b : Mod S H1 H2) : Mod S H H2 := ⟨fun x o h n m => b.k x o (a.k x o h n m) n m, fun h => b.i (a.i h)⟩
theorem Mod.refl {S : List Addr} {H : Hp} : Mod S H H := ⟨fun _ _ h _ _ => h, id⟩

open Classical in
/-- where only what is hidden is known -/
noncomputable def hz (H : Hp) : Hp := fun a => if Hd.hid a then H a else none
theorem hz_hid {H : Hp} {p : Addr} {o : HO} (h : hz H p = some o) : Hd.hid p := by
  unfold hz at h; split at h
  · assumption
  · cases h
theorem hz_none {H : Hp} {p : Addr} (h : ¬ Hd.hid p) : hz H p = none := by unfold hz; rw [if_neg h]
theorem hz_al {H : Hp} (i : Hd.inv H) (p : Addr) (h : Hd.hid p) : hz H p ≠ none := by unfold hz; rw [if_pos h]; exact Hd.al i h
theorem hz_mod {H : Hp} (i : Hd.inv H) {S : List Addr} : Mod S (hz H) H := ⟨fun _ _ h _ n => absurd (hz_hid h) n, fun _ => i⟩
def RepA (e : En) (c : Cn) (L S : List Addr) (H : Hp) (i : Nat) (v : V) : A → Prop
  | .dat d => Rep e (fz L H) d v
  | .own ct => ∃ p o, v = .ref p ∧ p ∈ S ∧ c.H0 p = none ∧ H p = some o ∧ RepC e (fz L H) ct o
  | .inn ct => ∃ p o, v = .ref p ∧ p ∈ S ∧ c.σ0[i]? = some (some v) ∧ H p = some o ∧ RepC e (fz L H) ct o
  | .adr b => v = .ref b

def isOwn : Option (Option A) → Bool
  | some (some (.own _)) => true
  | some (some (.inn _)) => true
  | _ => false

structure Rel (e : En) (c : Cn) (L S : List Addr) (σ : L2.St) (H : Hp) (α : State) : Prop where
  slot : ∀ (i : Nat) (a : A), α[i]? = some (some a) → ∃ v, σ[i]? = some (some v) ∧ RepA e c L S H i v a
  sep : ∀ (i j : Nat) (p : Addr), isOwn α[i]? = true → isOwn α[j]? = true → σ[i]? = some (some (V.ref p)) → σ[j]? = some (some (V.ref p)) → i = j
  inv : Hd.inv H
  h1 : ∀ p, Hd.hid p → c.H0 p ≠ none
  nh : ∀ p ∈ L, ¬ Hd.hid p
  dom : ∀ p ∈ L, H p ≠ none
  sub : ∀ p ∈ S, p ∈ L
  l0 : ∀ p ∈ c.L0, p ∈ L
  l1 : ∀ p ∈ L, p ∈ c.L0 ∨ c.H0 p = none
  s1 : ∀ p ∈ S, p ∈ c.S0 ∨ c.H0 p = none
  md : Mod c.S0 c.H0 H
  s0 : ∀ p ∈ c.S0, p ∈ c.L0
  d0 : ∀ p ∈ c.L0, c.H0 p ≠ none
  len : σ.length = α.length

section
variable {e : En} {c : Cn} {L S : List Addr} {σ : L2.St} {H H' : Hp} {α : State}
theorem RepA.up {i : Nat} {v : V} {a : A} (h : Sm H H') (nh : ∀ p ∈ S, ¬ Hd.hid p) (r : RepA e c L S H i v a) : RepA e c L S H' i v a := by
  cases a with
  | dat d => exact Rep.up (d := d) r (fz_same h)
  | adr _ => exact r
  | own ct => obtain ⟨p, o, q, m, n, ho, rc⟩ := r; exact ⟨p, o, q, m, n, h.k _ _ ho (nh p m), rc.up (fz_same h)⟩
  | inn ct => obtain ⟨p, o, q, m, n, ho, rc⟩ := r; exact ⟨p, o, q, m, n, h.k _ _ ho (nh p m), rc.up (fz_same h)⟩
theorem Rel.n0 (r : Rel e c L S σ H α) {p : Addr} (n : c.H0 p = none) : p ∉ c.L0 ∧ ¬ Hd.hid p := ⟨fun m => r.d0 p m n, fun h => r.h1 p h n⟩
theorem Sm.free {p : Addr} (s : Sm H H') (i : Hd.inv H) (n : H' p = none) : H p = none := by
  cases z : H p with
  | none => rfl
  | some o =>
    by_cases hh : Hd.hid p
    · exact absurd n (Hd.al (s.i i) hh)
    · rw [s.k p o z hh] at n; cases n
theorem Rel.up (r : Rel e c L S σ H α) (h : Sm H H') : Rel e c L S σ H' α where
  slot := fun i a q => let ⟨v, h1, h2⟩ := r.slot i a q; ⟨v, h1, h2.up h fun p m => r.nh p (r.sub p m)⟩
  sep := r.sep
  inv := h.i r.inv
  h1 := r.h1
  nh := r.nh
  dom := fun p m z => by
    cases q : H p with
    | none => exact r.dom p m q
    | some o => rw [h.k p o q (r.nh p m)] at z; cases z
  sub := r.sub
  l0 := r.l0
  l1 := r.l1
  s1 := r.s1
  md := r.md.trans (.of h)
  s0 := r.s0
  d0 := r.d0
  len := r.len
theorem Rel.h0 (r : Rel e c L S σ H α) {p : Addr} (n : H p = none) : c.H0 p = none := by
  cases q : c.H0 p with
  | none => rfl
  | some o =>
    by_cases m : p ∈ c.S0
    · exact absurd n (r.dom p (r.l0 p (r.s0 p m)))
    · by_cases hh : Hd.hid p
      · exact absurd n (Hd.al r.inv hh)
      · have := r.md.k p o q m hh
        rw [n] at this; cases this
theorem getset {β : Type} {l : List β} {i j : Nat} {x : β} : (l.set i x)[j]? = if i = j then (if j < l.length then some x else none) else l[j]? := by
  rw [List.getElem?_set]
  split
  · rename_i h; subst h; rfl
  · rfl
/-- a slot is given data -/
theorem Rel.setD {i : Nat} {v : V} {d : D} (r : Rel e c L S σ H α) (h : Rep e (fz L H) d v) : Rel e c L S (σ.set i (some v)) H (α.set i (some (.dat d))) where
  slot := fun j a q => by
    rw [getset] at q
    rw [getset]
    by_cases e1 : i = j
    · rw [if_pos e1] at q ⊢
      split at q
      · rename_i hl
        cases q
        rw [if_pos (by rw [r.len]; exact hl)]
        exact ⟨v, rfl, h⟩
      · cases q
    · rw [if_neg e1] at q ⊢
      exact r.slot j a q
  sep := fun j k p hj hk sj sk => by
    rw [getset] at hj hk sj sk
    by_cases e1 : i = j
    · rw [if_pos e1] at hj
      split at hj <;> simp [isOwn] at hj
    · by_cases e2 : i = k
      · rw [if_pos e2] at hk
        split at hk <;> simp [isOwn] at hk
      · rw [if_neg e1] at hj sj; rw [if_neg e2] at hk sk
        exact r.sep j k p hj hk sj sk
  inv := r.inv
  h1 := r.h1
  nh := r.nh
  dom := r.dom
  sub := r.sub
  l0 := r.l0
  l1 := r.l1
  s1 := r.s1
  md := r.md
  s0 := r.s0
  d0 := r.d0
  len := by rw [List.length_set, List.length_set]; exact r.len
/-- a new object becomes a slot's own -/
theorem Rel.setO {i : Nat} {p : Addr} {o : HO} {ct : Ct} (r : Rel e c L S σ H α) (s : Sm H H') (n : H p = none) (ho : H' p = some o) (rc : RepC e (fz (p :: L) H') ct o) :
    Rel e c (p :: L) (p :: S) (σ.set i (some (.ref p))) H' (α.set i (some (.own ct))) where
  slot := fun j a q => by
    rw [getset] at q
    rw [getset]
    by_cases e1 : i = j
    · rw [if_pos e1] at q ⊢
      split at q
      · rename_i hl
        cases q
        rw [if_pos (by rw [r.len]; exact hl)]
        exact ⟨_, rfl, p, o, rfl, by simp, r.h0 n, ho, rc⟩
      · cases q
    · rw [if_neg e1] at q ⊢
      obtain ⟨v, h1, h2⟩ := r.slot j a q
      refine ⟨v, h1, ?_⟩
      cases a with
      | dat d => exact Rep.up (d := d) h2 (fz_cons s n)
      | adr _ => exact h2
      | own ct => obtain ⟨p', o, q, m, n', ho, rc⟩ := h2; exact ⟨p', o, q, List.mem_cons_of_mem _ m, n', s.k _ _ ho (r.nh _ (r.sub _ m)), rc.up (fz_cons s n)⟩
      | inn ct => obtain ⟨p', o, q, m, n', ho, rc⟩ := h2; exact ⟨p', o, q, List.mem_cons_of_mem _ m, n', s.k _ _ ho (r.nh _ (r.sub _ m)), rc.up (fz_cons s n)⟩
  sep := fun j k q hj hk sj sk => by
    have fresh : ∀ j, i ≠ j → isOwn α[j]? = true → σ[j]? ≠ some (some (V.ref p)) := fun j _ hj z => by
      cases ha : α[j]? with
      | none => rw [ha] at hj; simp [isOwn] at hj
      | some x =>
        cases x with
        | none => rw [ha] at hj; simp [isOwn] at hj
        | some a =>
          obtain ⟨v, h1, h2⟩ := r.slot j a ha
          rw [h1] at z; cases z
          cases a with
          | dat d => rw [ha] at hj; simp [isOwn] at hj
          | adr _ => rw [ha] at hj; simp [isOwn] at hj
          | own ct => obtain ⟨p', o, q, m, n', ho, rc⟩ := h2; cases q; rw [n] at ho; cases ho
          | inn ct => obtain ⟨p', o, q, m, n', ho, rc⟩ := h2; cases q; rw [n] at ho; cases ho
    rw [getset] at hj hk sj sk
    by_cases e1 : i = j
    · by_cases e2 : i = k
      · omega
      · rw [if_neg e2] at hk sk
        rw [if_pos e1] at sj
        split at sj
        · cases sj; exact absurd sk (fresh k e2 hk)
        · cases sj
    · rw [if_neg e1] at hj sj
      by_cases e2 : i = k
      · rw [if_pos e2] at sk
        split at sk
        · cases sk; exact absurd sj (fresh j e1 hj)
        · cases sk
      · rw [if_neg e2] at hk sk
        exact r.sep j k q hj hk sj sk
  inv := s.i r.inv
  h1 := r.h1
  nh := fun q m z => by
    rcases List.mem_cons.mp m with rfl | m
    · exact Hd.al r.inv z n
    · exact r.nh q m z
  dom := fun q m z => by
    rcases List.mem_cons.mp m with rfl | m
    · rw [ho] at z; cases z
    · exact (r.up s).dom q m z
  sub := fun q m => by
    rcases List.mem_cons.mp m with rfl | m
    · simp
    · exact List.mem_cons_of_mem _ (r.sub q m)
  l0 := fun q m => List.mem_cons_of_mem _ (r.l0 q m)
  l1 := fun q m => by
    rcases List.mem_cons.mp m with rfl | m
    · exact .inr (r.h0 n)
    · exact r.l1 q m
  s1 := fun q m => by
    rcases List.mem_cons.mp m with rfl | m
    · exact .inr (r.h0 n)
    · exact r.s1 q m
  md := r.md.trans (.of s)
  s0 := r.s0
  d0 := r.d0
  len := by rw [List.length_set, List.length_set]; exact r.len
def ctOf : Option (Option A) → Option Ct
  | some (some (.own c)) => some c
  | some (some (.inn c)) => some c
  | _ => none
def putC (α : State) (i : Nat) (ct : Ct) : State := match α[i]? with
  | some (some (.own _)) => α.set i (some (.own ct))
  | some (some (.inn _)) => α.set i (some (.inn ct))
  | _ => α
/-- what stands at an owned slot -/
theorem Rel.at (r : Rel e c L S σ H α) {i : Nat} {ct : Ct} (h : ctOf α[i]? = some ct) : ∃ p o, σ[i]? = some (some (.ref p)) ∧ p ∈ S ∧ H p = some o ∧ RepC e (fz L H) ct o := by
  cases ha : α[i]? with
  | none => rw [ha] at h; cases h
  | some x =>
    cases x with
    | none => rw [ha] at h; cases h
    | some a =>
      rw [ha] at h
      obtain ⟨v, h1, h2⟩ := r.slot i a ha
      cases a with
      | dat d => cases h
      | adr _ => cases h
      | own ct => cases h; obtain ⟨p, o, q, m, n, ho, rc⟩ := h2; subst q; exact ⟨p, o, h1, m, ho, rc⟩
      | inn ct => cases h; obtain ⟨p, o, q, m, n, ho, rc⟩ := h2; subst q; exact ⟨p, o, h1, m, ho, rc⟩
theorem isOwn_ct {x : Option (Option A)} {ct : Ct} (h : ctOf x = some ct) : isOwn x = true := by
  cases x with
  | none => cases h
  | some x =>
    cases x with
    | none => cases h
    | some a => cases a <;> first | rfl | cases h
theorem putC_own {i j : Nat} {ct : Ct} : isOwn (putC α i ct)[j]? = true → isOwn α[j]? = true := by
  unfold putC
  split
  · rename_i q; rw [getset]; split
    · rename_i e1; subst e1; intro _; rw [q]; rfl
    · exact id
  · rename_i q; rw [getset]; split
    · rename_i e1; subst e1; intro _; rw [q]; rfl
    · exact id
  · exact id
theorem putC_len {i : Nat} {ct : Ct} : (putC α i ct).length = α.length := by
  unfold putC; split <;> simp
/-- an owned object is changed -/
theorem Rel.mut (r : Rel e c L S σ H α) {i : Nat} {p : Addr} {o : HO} {ct ct' : Ct} (h : ctOf α[i]? = some ct) (hp : σ[i]? = some (some (.ref p))) (rc : RepC e (fz L H) ct' o) :
    Rel e c L S σ (upd H p o) (putC α i ct') ∧ Mod S H (upd H p o) := by
  obtain ⟨p', o', hp', mS, ho', rcO⟩ := r.at h
  rw [hp] at hp'; cases hp'
  have mL := r.sub p mS
  have hpl : Pl o' := RepC.pl rcO
  have iv : Hd.inv (upd H p o) := Hd.chg r.inv (r.nh p mL) ho' hpl
  have fzs : L2.Same (fz L H) (fz L (upd H p o)) := fz_mut fun a u q n _ => by
    rw [upd_ne (fun z => n (by rw [z]; exact mL))]; exact q
  have md : Mod S H (upd H p o) := ⟨fun a u q n _ => by rw [upd_ne (fun z => n (by rw [z]; exact mS))]; exact q, fun _ => iv⟩
  refine ⟨⟨fun j a q => ?_, fun j k q hj hk sj sk => r.sep j k q (putC_own hj) (putC_own hk) sj sk, iv, r.h1, r.nh, fun q m z => ?_, r.sub, r.l0, r.l1, r.s1, ?_, r.s0, r.d0, by rw [putC_len]; exact r.len⟩, md⟩
  · by_cases e1 : j = i
    · subst e1
      cases ha : α[j]? with
      | none => rw [ha] at h; cases h
      | some x =>
        cases x with
        | none => rw [ha] at h; cases h
        | some b =>
          have hl : j < α.length := (List.getElem?_eq_some_iff.mp ha).1
          obtain ⟨v, h1, h2⟩ := r.slot j b ha
          rw [hp] at h1; cases h1
          unfold putC at q
          cases b with
          | dat d => rw [ha] at h; cases h
          | adr _ => rw [ha] at h; cases h
          | own c1 =>
            rw [ha] at q
            rw [show (α.set j (some (A.own ct')))[j]? = some (some (A.own ct')) by rw [getset, if_pos rfl, if_pos hl]] at q
            cases q
            obtain ⟨p', o2, q2, m, n, ho2, _⟩ := h2
            cases q2
            exact ⟨_, hp, p, o, rfl, m, n, upd_same, rc.up fzs⟩
          | inn c1 =>
            rw [ha] at q
            rw [show (α.set j (some (A.inn ct')))[j]? = some (some (A.inn ct')) by rw [getset, if_pos rfl, if_pos hl]] at q
            cases q
            obtain ⟨p', o2, q2, m, n, ho2, _⟩ := h2
            cases q2
            exact ⟨_, hp, p, o, rfl, m, n, upd_same, rc.up fzs⟩
    · have qa : α[j]? = some (some a) := by
        unfold putC at q
        split at q
        · rw [getset, if_neg (fun z => e1 z.symm)] at q; exact q
        · rw [getset, if_neg (fun z => e1 z.symm)] at q; exact q
        · exact q
      obtain ⟨v, h1, h2⟩ := r.slot j a qa
      refine ⟨v, h1, ?_⟩
      have hne : isOwn α[j]? = true → v ≠ .ref p := fun ho z => e1 (r.sep j i p ho (isOwn_ct h) (by rw [h1, z]) hp)
      cases a with
      | dat d => exact Rep.up (d := d) h2 fzs
      | adr _ => exact h2
      | own c1 =>
        obtain ⟨p', o2, q2, m, n, ho2, rc2⟩ := h2
        subst q2
        refine ⟨p', o2, rfl, m, n, ?_, rc2.up fzs⟩
        rw [upd_ne]
        · exact ho2
        · intro z; exact hne (by rw [qa]; rfl) (by rw [z])
      | inn c1 =>
        obtain ⟨p', o2, q2, m, n, ho2, rc2⟩ := h2
        subst q2
        refine ⟨p', o2, rfl, m, n, ?_, rc2.up fzs⟩
        rw [upd_ne]
        · exact ho2
        · intro z; exact hne (by rw [qa]; rfl) (by rw [z])
  · by_cases e1 : q = p
    · subst e1; rw [upd_same] at z; cases z
    · rw [upd_ne e1] at z; exact r.dom q m z
  · refine ⟨fun a u q n nh => ?_, fun _ => iv⟩
    have hne : a ≠ p := by
      rintro rfl
      rcases r.s1 a mS with z | z
      · exact n z
      · rw [q] at z; cases z
    rw [upd_ne hne]
    exact r.md.k a u q n nh
end
end Ab
end
section
set_option maxRecDepth 100000
set_option maxHeartbeats 1000000
namespace Ab
open PySem L2
variable [Hd]

/-! ### pure readings -/
section
variable (e : En)
def Evp (te : TE) (s : State → Option D) : Prop := ∀ c L S σ H α d, Rel e c L S σ H α → s α = some d → ∀ Q : VK, (∀ v H', Sm H H' → Rep e (fz L H') d v → Q v H') → te σ H Q
/-- a new list -/
def Evl (te : TE) (s : State → Option (List D)) : Prop := ∀ c L S σ H α xs, Rel e c L S σ H α → s α = some xs → ∀ Q : VK, (∀ p vs H', Sm H H' → H p = none → H' p = some (.lst vs) → Reps e (fz (p :: L) H') xs vs → Q (.ref p) H') → te σ H Q
/-- a list, a tuple that is read -/
def EvqL (te : TE) (s : State → Option (List D)) : Prop := ∀ c L S σ H α xs, Rel e c L S σ H α → s α = some xs → ∀ Q : VK, (∀ a vs H', Sm H H' → SqL e.K (fz [] H') a vs → Reps e (fz L H') xs vs → Q (.ref a) H') → te σ H Q
def EvqT (te : TE) (s : State → Option (List D)) : Prop := ∀ c L S σ H α xs, Rel e c L S σ H α → s α = some xs → ∀ Q : VK, (∀ a vs H', Sm H H' → SqT e.K (fz L H') a vs → Reps e (fz L H') xs vs → Q (.ref a) H') → te σ H Q
def Evt (tt : TT) (s : State → Option Bool) : Prop := ∀ c L S σ H α b, Rel e c L S σ H α → s α = some b → ∀ Q : Bool → Hp → Prop, (∀ H', Sm H H' → Q b H') → tt σ H Q
def Eva (ta : TA) (s : State → Option (List D)) : Prop := ∀ c L S σ H α ds, Rel e c L S σ H α → s α = some ds → ∀ Q : List V → Hp → Prop, (∀ vs H', Sm H H' → Reps e (fz L H') ds vs → Q vs H') → ta σ H Q
def Evo (to : TO) (s : State → Option (Option Int)) : Prop := ∀ c L S σ H α o, Rel e c L S σ H α → s α = some o → ∀ Q : Option Int → Hp → Prop, (∀ H', Sm H H' → Q o H') → to σ H Q
/-- by values: two places; a call's list; a method's -/
structure Dom (L : List Addr) (H : Hp) : Prop where
  dom : ∀ p ∈ L, H p ≠ none
  nh : ∀ p ∈ L, ¬ Hd.hid p
  inv : Hd.inv H
omit e in
theorem _root_.Ab.Rel.dm {e : En} {c : Cn} {L S : List Addr} {σ : L2.St} {H : Hp} {α : State} (r : Rel e c L S σ H α) : Dom L H := ⟨r.dom, r.nh, r.inv⟩
def RvD (r : R2) (f : D → D → Option D) : Prop := ∀ L H dx dy x y d, Dom L H → Rep e (fz L H) dx x → Rep e (fz L H) dy y → f dx dy = some d → ∀ Q : VK, (∀ v H', Sm H H' → Rep e (fz L H') d v → Q v H') → r x y H Q
def RuD (r : V → Hp → VK → Prop) (f : D → Option D) : Prop := ∀ L H dx x d, Dom L H → Rep e (fz L H) dx x → f dx = some d → ∀ Q : VK, (∀ v H', Sm H H' → Rep e (fz L H') d v → Q v H') → r x H Q
def RcD (r : List V → Hp → VK → Prop) (f : List D → Option D) : Prop := ∀ L H ds vs d, Dom L H → Reps e (fz L H) ds vs → f ds = some d → ∀ Q : VK, (∀ v H', Sm H H' → Rep e (fz L H') d v → Q v H') → r vs H Q
def RmD (r : V → List V → Hp → VK → Prop) (f : D → List D → Option D) : Prop := ∀ L H dx x ds vs d, Dom L H → Rep e (fz L H) dx x → Reps e (fz L H) ds vs → f dx ds = some d → ∀ Q : VK, (∀ v H', Sm H H' → Rep e (fz L H') d v → Q v H') → r x vs H Q
end

def bnd {α β : Type} (o : Option α) (f : α → Option β) : Option β := match o with | some a => f a | none => none
theorem bnd_some {α β : Type} {o : Option α} {f : α → Option β} {b : β} (h : bnd o f = some b) : ∃ a, o = some a ∧ f a = some b := by
  cases o with
  | none => cases h
  | some a => exact ⟨a, rfl, h⟩
@[simp] theorem bnd_s {α β : Type} {a : α} {f : α → Option β} : bnd (some a) f = f a := (rfl)
@[simp] theorem bnd_n {α β : Type} {f : α → Option β} : bnd none f = none := (rfl)

section
variable {e : En} {ta tb te : TE} {sa sb s : State → Option D}
theorem dom_up {L : List Addr} {H H' : Hp} (h : Sm H H') (d : Dom L H) : Dom L H' where
  dom := fun p m z => by
    cases q : H p with
    | none => exact d.dom p m q
    | some o => rw [h.k p o q (d.nh p m)] at z; cases z
  nh := d.nh
  inv := h.i d.inv

/-! ### slots and constants -/
def xVar (i : Nat) : State → Option D := fun α => match α[i]? with | some (some (.dat d)) => some d | _ => none
theorem ev_var (i : Nat) : Evp e (tVar i) (xVar i) := fun c L S σ H α d r h Q q => by
  unfold xVar at h
  split at h
  · rename_i d' hd
    cases h
    obtain ⟨v, h1, h2⟩ := r.slot i _ hd
    exact ⟨v, h1, q v H (Sm.refl H) h2⟩
  · cases h
def xC (d : D) : State → Option D := fun _ => some d
theorem ev_c {d : D} {v : V} (h : ∀ F, Rep e F d v) : Evp e (tC v) (xC d) := fun c L S σ H α d' r hd Q q => by
  cases hd
  exact q v H (Sm.refl H) (h _)
theorem ev_int {i : Int} : Evp e (tC (.int i)) (xC (.int i)) := ev_c fun _ => rfl
theorem ev_bl {i : Bool} : Evp e (tC (.bl i)) (xC (.bl i)) := ev_c fun _ => rfl
theorem ev_str {i : Str} : Evp e (tC (.str i)) (xC (.str i)) := ev_c fun _ => rfl
theorem ev_non : Evp e (tC .non) (xC .non) := ev_c fun _ => rfl
/-- a thing of the module's top -/
theorem ev_top {d : D} {v : V} (h : ∀ F, Rep e F d v) : Evp e (tC v) (xC d) := ev_c h

/-! ### operations -/
def x2 (f : D → D → Option D) (sa sb : State → Option D) : State → Option D := fun α => bnd (sa α) fun a => bnd (sb α) fun b => f a b
theorem ev_op {r : R2} {f : D → D → Option D} (hr : RvD e r f) (ha : Evp e ta sa) (hb : Evp e tb sb) : Evp e (tOp r ta tb) (x2 f sa sb) := fun c L S σ H α d R h Q q => by
  obtain ⟨a, h1, h⟩ := bnd_some h
  obtain ⟨b, h2, h⟩ := bnd_some h
  refine ha c L S σ H α a R h1 _ fun v H1 e1 r1 => ?_
  refine hb c L S σ H1 α b (R.up e1) h2 _ fun u H2 e2 r2 => ?_
  exact hr L H2 a b v u d (dom_up (e1.trans e2) R.dm) (r1.up (fz_same e2)) r2 h Q fun w H3 e3 r3 => q w H3 ((e1.trans e2).trans e3) r3
def x1 (f : D → Option D) (sa : State → Option D) : State → Option D := fun α => bnd (sa α) f
theorem ev_un {r : V → Hp → VK → Prop} {f : D → Option D} (hr : RuD e r f) (ha : Evp e ta sa) : Evp e (tUn r ta) (x1 f sa) := fun c L S σ H α d R h Q q => by
  obtain ⟨a, h1, h⟩ := bnd_some h
  refine ha c L S σ H α a R h1 _ fun v H1 e1 r1 => ?_
  exact hr L H1 a v d (dom_up e1 R.dm) r1 h Q fun w H3 e3 r3 => q w H3 (e1.trans e3) r3

def ii (g : Int → Int → Option D) : D → D → Option D := fun a b => match a, b with | .int i, .int j => g i j | _, _ => none
theorem ii_some {g : Int → Int → Option D} {a b d : D} (h : ii g a b = some d) : ∃ i j, a = .int i ∧ b = .int j ∧ g i j = some d := by
  unfold ii at h
  split at h
  · exact ⟨_, _, rfl, rfl, h⟩
  · cases h
theorem rv_I0 {g : Int → Int → V} {k : Int → Int → D} (hk : ∀ i j F, Rep e F (k i j) (g i j)) : RvD e (rI0 g) (ii fun i j => some (k i j)) := fun L H dx dy x y d dm rx ry h Q q => by
  obtain ⟨i, j, rfl, rfl, h⟩ := ii_some h
  cases h; cases rx; cases ry
  exact ⟨i, j, rfl, rfl, q _ H (Sm.refl H) (hk i j _)⟩
theorem rv_I {C : Int → Int → Prop} [∀ i j, Decidable (C i j)] {g : Int → Int → V} {k : Int → Int → D} (hk : ∀ i j F, Rep e F (k i j) (g i j)) : RvD e (rI C g) (ii fun i j => if C i j then some (k i j) else none) := fun L H dx dy x y d dm rx ry h Q q => by
  obtain ⟨i, j, rfl, rfl, h2⟩ := ii_some h
  clear h
  have h := h2
  split at h
  · rename_i hc
    cases h; cases rx; cases ry
    exact ⟨i, j, rfl, rfl, hc, q _ H (Sm.refl H) (hk i j _)⟩
  · cases h
abbrev fAdd : D → D → Option D := ii fun i j => some (.int (i + j))
abbrev fSub : D → D → Option D := ii fun i j => some (.int (i - j))
abbrev fLt : D → D → Option D := ii fun i j => some (.bl (decide (i < j)))
abbrev fLe : D → D → Option D := ii fun i j => some (.bl (decide (i ≤ j)))
abbrev fGt : D → D → Option D := ii fun i j => some (.bl (decide (i > j)))
abbrev fGe : D → D → Option D := ii fun i j => some (.bl (decide (i ≥ j)))
theorem rv_add : RvD e (rI0 fun i j => .int (i + j)) fAdd := rv_I0 fun _ _ _ => rfl
theorem rv_sub : RvD e (rI0 fun i j => .int (i - j)) fSub := rv_I0 fun _ _ _ => rfl
theorem rv_lt : RvD e (rI0 fun i j => .bl (decide (i < j))) fLt := rv_I0 fun _ _ _ => rfl
theorem rv_le : RvD e (rI0 fun i j => .bl (decide (i ≤ j))) fLe := rv_I0 fun _ _ _ => rfl
theorem rv_gt : RvD e (rI0 fun i j => .bl (decide (j < i))) fGt := rv_I0 fun _ _ _ => rfl
theorem rv_ge : RvD e (rI0 fun i j => .bl (decide (j ≤ i))) fGe := rv_I0 fun _ _ _ => rfl
instance (i j : Int) : Decidable (CMul i j) := by unfold CMul; infer_instance
instance (i j : Int) : Decidable (CDiv i j) := by unfold CDiv; infer_instance
instance (i j : Int) : Decidable (CDivN i j) := by unfold CDivN; infer_instance
instance (i j : Int) : Decidable (CPow i j) := by unfold CPow; infer_instance
abbrev fMul : D → D → Option D := ii fun i j => if CMul i j then some (.int (i * j)) else none
abbrev fDiv : D → D → Option D := ii fun i j => if CDiv i j then some (.int (i / j)) else none
abbrev fMod : D → D → Option D := ii fun i j => if 0 < j then some (.int (i % j)) else none
abbrev fPow : D → D → Option D := ii fun i j => if CPow i j then some (.int (i ^ j.toNat)) else none
theorem rv_mul : RvD e (rI CMul fun i j => .int (i * j)) fMul := rv_I fun _ _ _ => rfl
theorem rv_div : RvD e (rI CDiv fun i j => .int (i / j)) fDiv := rv_I fun _ _ _ => rfl
theorem rv_mod : RvD e (rI (fun _ j => 0 < j) fun i j => .int (i % j)) fMod := rv_I fun _ _ _ => rfl
theorem rv_pow : RvD e (rI CPow fun i j => .int (i ^ j.toNat)) fPow := rv_I fun _ _ _ => rfl
def fNeg : D → Option D := fun a => match a with | .int i => some (.int (-i)) | _ => none
theorem ru_neg : RuD e (rU fun i => .int (-i)) fNeg := fun L H dx x d dm rx h Q q => by
  unfold fNeg at h
  split at h
  · cases h; cases rx; exact ⟨_, rfl, q _ H (Sm.refl H) rfl⟩
  · cases h

/-! ### == -/
def flat : D → Bool
  | .non | .bl _ | .int _ | .str _ => true
  | _ => false
def dv : D → V
  | .non => .non | .bl b => .bl b | .int i => .int i | .str s => .str s | _ => .non
theorem rep_flat {F : Hp} {d : D} {v : V} (h : flat d = true) (r : Rep e F d v) : v = dv d := by
  cases d <;> first | (exact r) | (simp [flat] at h)
theorem rep_of_flat {F : Hp} {d : D} (h : flat d = true) : Rep e F d (dv d) := by
  cases d <;> first | rfl | (simp [flat] at h)
/-- == of scalars (of kinds that differ only where they can't be alike) -/
def fEq : D → D → Option D := fun a b => if (flat a && flat b && scal (dv a) (dv b)) = true then some (.bl (decide (dv a = dv b))) else none
def fNe : D → D → Option D := fun a b => if (flat a && flat b && scal (dv a) (dv b)) = true then some (.bl (!decide (dv a = dv b))) else none
theorem rv_eq : RvD e rEq fEq := fun L H dx dy x y d dm rx ry h Q q => by
  unfold fEq at h
  split at h
  · rename_i hc
    simp only [Bool.and_eq_true] at hc
    cases h
    rw [rep_flat hc.1.1 rx, rep_flat hc.1.2 ry]
    exact ⟨hc.2, q _ H (Sm.refl H) rfl⟩
  · cases h
theorem rv_ne : RvD e rNe fNe := fun L H dx dy x y d dm rx ry h Q q => by
  unfold fNe at h
  split at h
  · rename_i hc
    simp only [Bool.and_eq_true] at hc
    cases h
    rw [rep_flat hc.1.1 rx, rep_flat hc.1.2 ry]
    exact ⟨hc.2, q _ H (Sm.refl H) rfl⟩
  · cases h
def fIsN : D → D → Option D := fun a b => match b with | .non => (match a with | .non => some (.bl true) | _ => some (.bl false)) | _ => none
def fNotN : D → D → Option D := fun a b => match b with | .non => (match a with | .non => some (.bl false) | _ => some (.bl true)) | _ => none
theorem rep_non {F : Hp} {d : D} {v : V} (r : Rep e F d v) : decide (v = .non) = (match d with | .non => true | _ => false) := by
  cases d with
  | non => cases r; rfl
  | bl b => cases r; rfl
  | int b => cases r; rfl
  | str b => cases r; rfl
  | ty b => cases r; rfl
  | cls b => cases r; rfl
  | tup b => obtain ⟨a, vs, rfl, _⟩ := r; rfl
  | lst b => obtain ⟨a, vs, rfl, _⟩ := r; rfl
  | ins b c => obtain ⟨a, vs, _, rfl, _⟩ := r; rfl
  | dic b => obtain ⟨a, vs, _, rfl, _⟩ := r; rfl
theorem rv_isN : RvD e (fun x y H Q => y = .non ∧ Q (.bl (decide (x = .non))) H) fIsN := fun L H dx dy x y d dm rx ry h Q q => by
  unfold fIsN at h
  split at h
  · cases ry
    refine ⟨rfl, ?_⟩
    rw [rep_non rx]
    cases dx <;> (cases h; exact q _ H (Sm.refl H) rfl)
  · cases h
theorem rv_notN : RvD e (fun x y H Q => y = .non ∧ Q (.bl (!decide (x = .non))) H) fNotN := fun L H dx dy x y d dm rx ry h Q q => by
  unfold fNotN at h
  split at h
  · cases ry
    refine ⟨rfl, ?_⟩
    rw [rep_non rx]
    cases dx <;> (cases h; exact q _ H (Sm.refl H) rfl)
  · cases h

/-! ### tests -/
def asB (s : State → Option D) : State → Option Bool := fun α => match s α with | some (.bl b) => some b | _ => none
theorem asB_some {α : State} {b : Bool} (h : asB s α = some b) : s α = some (.bl b) := by
  unfold asB at h
  split at h
  · rename_i q; cases h; exact q
  · cases h
theorem et_test (h : Evp e te s) : Evt e (tTest te) (asB s) := fun c L S σ H α b R q Q k => h c L S σ H α _ R (asB_some q) _ fun v H' e1 r => by
  cases r
  exact ⟨b, rfl, k H' e1⟩
theorem et_B (h : Evp e te s) : Evt e (tB te) (asB s) := fun c L S σ H α b R q Q k => h c L S σ H α _ R (asB_some q) _ fun v H' e1 r => by
  cases r
  exact ⟨b, rfl, k H' e1⟩
variable {t u : TT} {st su : State → Option Bool}
def tbNot (st : State → Option Bool) : State → Option Bool := fun α => (st α).map (!·)
def tbAnd (st su : State → Option Bool) : State → Option Bool := fun α => match st α with | some true => su α | o => o
def tbOr (st su : State → Option Bool) : State → Option Bool := fun α => match st α with | some false => su α | o => o
theorem et_not (h : Evt e t st) : Evt e (tNot t) (tbNot st) := fun c L S σ H α b R q Q k => by
  unfold tbNot at q
  cases hs : st α with
  | none => rw [hs] at q; cases q
  | some b' =>
    rw [hs] at q; cases q
    exact h c L S σ H α b' R hs _ fun H' e1 => k H' e1
theorem et_and (h : Evt e t st) (h' : Evt e u su) : Evt e (tAnd t u) (tbAnd st su) := fun c L S σ H α b R q Q k => by
  unfold tbAnd at q
  cases hs : st α with
  | none => rw [hs] at q; cases q
  | some b' =>
    refine h c L S σ H α b' R hs _ fun H' e1 => ?_
    cases b' with
    | true =>
      rw [hs] at q
      show u σ H' Q
      exact h' c L S σ H' α b (R.up e1) q Q fun H2 e2 => k H2 (e1.trans e2)
    | false => rw [hs] at q; cases q; exact k H' e1
theorem et_or (h : Evt e t st) (h' : Evt e u su) : Evt e (tOr t u) (tbOr st su) := fun c L S σ H α b R q Q k => by
  unfold tbOr at q
  cases hs : st α with
  | none => rw [hs] at q; cases q
  | some b' =>
    refine h c L S σ H α b' R hs _ fun H' e1 => ?_
    cases b' with
    | false =>
      rw [hs] at q
      show u σ H' Q
      exact h' c L S σ H' α b (R.up e1) q Q fun H2 e2 => k H2 (e1.trans e2)
    | true => rw [hs] at q; cases q; exact k H' e1
def xIf (st : State → Option Bool) (sa sb : State → Option D) : State → Option D := fun α => match st α with | some true => sa α | some false => sb α | none => none
theorem ev_if (h : Evt e t st) (ha : Evp e ta sa) (hb : Evp e tb sb) : Evp e (tIf t ta tb) (xIf st sa sb) := fun c L S σ H α d R q Q k => by
  unfold xIf at q
  cases hs : st α with
  | none => rw [hs] at q; cases q
  | some b' =>
    refine h c L S σ H α b' R hs _ fun H' e1 => ?_
    cases b' with
    | true =>
      rw [hs] at q
      show ta σ H' Q
      exact ha c L S σ H' α d (R.up e1) q Q fun v H2 e2 r => k v H2 (e1.trans e2) r
    | false =>
      rw [hs] at q
      show tb σ H' Q
      exact hb c L S σ H' α d (R.up e1) q Q fun v H2 e2 r => k v H2 (e1.trans e2) r
/-- and, or, not as values -/
def xB (st : State → Option Bool) : State → Option D := fun α => (st α).map .bl
theorem ev_andV (h : Evp e ta sa) (h' : Evp e tb sb) : Evp e (tAndV ta tb) (xB (tbAnd (asB sa) (asB sb))) := fun c L S σ H α d R q Q k => by
  unfold xB tbAnd at q
  cases hs : asB sa α with
  | none => rw [hs] at q; cases q
  | some b =>
    refine h c L S σ H α _ R (asB_some hs) _ fun v H' e1 r => ?_
    cases r
    refine ⟨b, rfl, ?_⟩
    rw [hs] at q
    cases b with
    | true =>
      cases hu : asB sb α with
      | none => rw [hu] at q; cases q
      | some b2 =>
        rw [hu] at q; cases q
        show tb σ H' Q
        exact h' c L S σ H' α _ (R.up e1) (asB_some hu) Q fun v H2 e2 r => k v H2 (e1.trans e2) r
    | false => cases q; exact k _ H' e1 rfl
theorem ev_orV (h : Evp e ta sa) (h' : Evp e tb sb) : Evp e (tOrV ta tb) (xB (tbOr (asB sa) (asB sb))) := fun c L S σ H α d R q Q k => by
  unfold xB tbOr at q
  cases hs : asB sa α with
  | none => rw [hs] at q; cases q
  | some b =>
    refine h c L S σ H α _ R (asB_some hs) _ fun v H' e1 r => ?_
    cases r
    refine ⟨b, rfl, ?_⟩
    rw [hs] at q
    cases b with
    | false =>
      cases hu : asB sb α with
      | none => rw [hu] at q; cases q
      | some b2 =>
        rw [hu] at q; cases q
        show tb σ H' Q
        exact h' c L S σ H' α _ (R.up e1) (asB_some hu) Q fun v H2 e2 r => k v H2 (e1.trans e2) r
    | true => cases q; exact k _ H' e1 rfl
theorem ev_notV (h : Evp e ta sa) : Evp e (tNotV ta) (xB (tbNot (asB sa))) := fun c L S σ H α d R q Q k => by
  unfold xB tbNot at q
  cases hs : asB sa α with
  | none => rw [hs] at q; cases q
  | some b =>
    rw [hs] at q; cases q
    exact h c L S σ H α _ R (asB_some hs) _ fun v H' e1 r => by
      cases r
      exact ⟨b, rfl, k _ H' e1 rfl⟩

/-! ### argument lists, displays, calls -/
variable {tr : TA} {sr : State → Option (List D)}
def aNil : State → Option (List D) := fun _ => some []
def aCons (s : State → Option D) (sr : State → Option (List D)) : State → Option (List D) := fun α => bnd (s α) fun d => bnd (sr α) fun ds => some (d :: ds)
theorem ea_nil : Eva e tNil aNil := fun c L S σ H α ds R q Q k => by cases q; exact k [] H (Sm.refl H) Reps.nil
theorem ea_cons (h : Evp e te s) (hr : Eva e tr sr) : Eva e (tCons te tr) (aCons s sr) := fun c L S σ H α ds R q Q k => by
  obtain ⟨d, h1, q⟩ := bnd_some q
  obtain ⟨ds', h2, q⟩ := bnd_some q
  cases q
  refine h c L S σ H α d R h1 _ fun v H1 e1 r1 => ?_
  exact hr c L S σ H1 α ds' (R.up e1) h2 _ fun vs H2 e2 r2 => k _ H2 (e1.trans e2) (Reps.cons (r1.up (fz_same e2)) r2)
theorem fresh_nL {L : List Addr} {H : Hp} {p : Addr} (dm : Dom L H) (n : H p = none) : p ∉ L ∧ ¬ Hd.hid p := ⟨fun m => dm.dom p m n, fun h => Hd.al dm.inv h n⟩
theorem Dom.new {L : List Addr} {H H' : Hp} {p : Addr} {o : HO} (d : Dom L H) (s : Sm H H') (n : H p = none) (ho : H' p = some o) : Dom (p :: L) H' where
  dom := fun q m => by
    rcases List.mem_cons.mp m with rfl | m
    · rw [ho]; simp
    · exact (dom_up s d).dom q m
  nh := fun q m => by
    rcases List.mem_cons.mp m with rfl | m
    · exact fun h => Hd.al d.inv h n
    · exact d.nh q m
  inv := s.i d.inv
theorem Sm.thenM {H H1 H' : Hp} {p : Addr} (s : Sm H H1) (m : Mod [p] H1 H') (n : H p = none) : Sm H H' :=
  ⟨fun b o z nh => m.k b o (s.k b o z nh) (by simp only [List.mem_singleton]; exact ne_of_none z n) nh, fun h => m.i (s.i h)⟩
theorem fz_new {L : List Addr} {H : Hp} {p : Addr} {o : HO} (hn : p ∉ L ∧ ¬ Hd.hid p) (ho : H p = some o) : fz L H p = some o := fz_at ho hn.1 hn.2
def lenOk {β : Type} (xs : List β) : Option (List β) := if xs.length ≤ 100000 then some xs else none
theorem lenOk_some {β : Type} {xs ys : List β} (h : lenOk xs = some ys) : ys = xs ∧ xs.length ≤ 100000 := by
  unfold lenOk at h
  split at h
  · cases h; exact ⟨rfl, by assumption⟩
  · cases h
theorem sz_of {n : Nat} (h : n ≤ 100000) : n ≤ sizeLine := Nat.le_trans h (by decide)
theorem sz_lt {n : Nat} (h : n < 100000) : n < sizeLine := Nat.lt_of_lt_of_le h (by decide)
def xTup (sr : State → Option (List D)) : State → Option D := fun α => bnd (sr α) fun ds => if ds.length ≤ 100000 then some (.tup ds) else none
theorem ev_tup (h : Eva e tr sr) : Evp e (tTup tr) (xTup sr) := fun c L S σ H α d R q Q k => by
  obtain ⟨ds, h1, q⟩ := bnd_some q
  split at q
  · rename_i hz
    cases q
    refine h c L S σ H α ds R h1 _ fun vs H1 e1 r1 => ⟨by rw [r1.len]; exact sz_of hz, fun p hp => ?_⟩
    have s2 : Sm H1 (upd H1 p (.tup vs)) := .of fun b o z => by rw [upd_ne (ne_of_none z hp)]; exact z
    refine k _ _ (e1.trans s2) ⟨p, vs, rfl, .inl (.inl (fz_new (fresh_nL (dom_up e1 R.dm) hp) upd_same)), r1.up (fz_same s2)⟩
  · cases q
theorem el_lst (h : Eva e tr sr) : Evl e (tLst tr) (fun α => bnd (sr α) lenOk) := fun c L S σ H α xs R q Q k => by
  obtain ⟨ds, h1, q⟩ := bnd_some q
  obtain ⟨rfl, hz⟩ := lenOk_some q
  refine h c L S σ H α _ R h1 _ fun vs H1 e1 r1 => ⟨by rw [r1.len]; exact sz_of hz, fun p hp => ?_⟩
  have s2 : Sm H1 (upd H1 p (.lst vs)) := .of fun b o z => by rw [upd_ne (ne_of_none z hp)]; exact z
  have hn : H p = none := by
    exact e1.free R.inv hp
  exact k p vs _ (e1.trans s2) hn upd_same (r1.up (fz_cons s2 hp))
/-- a new list as data -/
def xL (s : State → Option (List D)) : State → Option D := fun α => (s α).map .lst
theorem el_d {s : State → Option (List D)} (h : Evl e te s) : Evp e te (xL s) := fun c L S σ H α d R q Q k => by
  unfold xL at q
  cases hs : s α with
  | none => rw [hs] at q; cases q
  | some xs =>
    rw [hs] at q; cases q
    refine h c L S σ H α xs R hs _ fun p vs H' e1 n hp r => k _ H' e1 ⟨p, vs, rfl, .inl (.inl (fz_new (fresh_nL R.dm n) hp)), r.up (fz_anti fun a m => List.mem_cons_of_mem _ m)⟩
/-- read as a list, a tuple -/
def qL (s : State → Option D) : State → Option (List D) := fun α => match s α with | some (.lst xs) => some xs | _ => none
def qT (s : State → Option D) : State → Option (List D) := fun α => match s α with | some (.tup xs) => some xs | _ => none
theorem eq_l (h : Evp e te s) : EvqL e te (qL s) := fun c L S σ H α xs R q Q k => by
  unfold qL at q
  split at q
  · rename_i ys hs
    cases q
    refine h c L S σ H α _ R hs _ fun v H' e1 ⟨a, vs, e2, r1, r2⟩ => ?_
    subst e2
    exact k a vs H' e1 ((fz_anti (fun a m => absurd m (by simp))).seq r1) r2
  · cases q
theorem eq_t (h : Evp e te s) : EvqT e te (qT s) := fun c L S σ H α xs R q Q k => by
  unfold qT at q
  split at q
  · rename_i ys hs
    cases q
    refine h c L S σ H α _ R hs _ fun v H' e1 ⟨a, vs, e2, r1, r2⟩ => ?_
    subst e2
    exact k a vs H' e1 r1 r2
  · cases q
theorem eq_n {s : State → Option (List D)} (h : Evl e te s) : EvqL e te s := fun c L S σ H α xs R q Q k =>
  h c L S σ H α xs R q _ fun p vs H' e1 n hp r => k p vs H' e1 (SqL.of (fz_at hp (by simp) (fresh_nL R.dm n).2)) (r.up (fz_anti fun a m => List.mem_cons_of_mem _ m))
/-- an own list, read -/
def qO (i : Nat) : State → Option (List D) := fun α => match ctOf α[i]? with | some (.lst xs) => some xs | _ => none
theorem eq_o (i : Nat) : EvqL e (tVar i) (qO i) := fun c L S σ H α xs R q Q k => by
  unfold qO at q
  split at q
  · rename_i ys hs
    cases q
    obtain ⟨p, o, h1, h2, h3, vs, rfl, h4⟩ := R.at hs
    exact ⟨_, h1, k p vs H (Sm.refl H) (SqL.of (fz_at h3 (by simp) (R.nh p (R.sub p h2)))) h4⟩
  · cases q

/-- what a def without side effects promises -/
def spP (e : En) (m : List D → Option D) : Sp := fun vs H Q _ => ∃ L ds d, Dom L H ∧ Reps e (fz L H) ds vs ∧ m ds = some d ∧ ∀ v H', Sm H H' → Rep e (fz L H') d v → Q v H'
/-- .. that gives a new list -/
def spL (e : En) (m : List D → Option (List D)) : Sp := fun vs H Q _ => ∃ L ds xs, Dom L H ∧ Reps e (fz L H) ds vs ∧ m ds = some xs ∧ ∀ p us H', Sm H H' → H p = none → H' p = some (.lst us) → Reps e (fz (p :: L) H') xs us → Q (.ref p) H'
def xCall (m : List D → Option D) (sr : State → Option (List D)) : State → Option D := fun α => bnd (sr α) m
theorem ev_call {E : XK} {m : List D → Option D} (h : Eva e tr sr) : Evp e (tCall (spP e m) [] E tr) (xCall m sr) := fun c L S σ H α d R q Q k => by
  obtain ⟨ds, h1, q⟩ := bnd_some q
  exact h c L S σ H α ds R h1 _ fun vs H1 e1 r1 => ⟨L, ds, d, dom_up e1 R.dm, by rw [List.append_nil]; exact r1, q, fun v H' e2 r2 => k v H' (e1.trans e2) r2⟩
theorem el_call {E : XK} {m : List D → Option (List D)} (h : Eva e tr sr) : Evl e (tCall (spL e m) [] E tr) (fun α => bnd (sr α) m) := fun c L S σ H α d R q Q k => by
  obtain ⟨ds, h1, q⟩ := bnd_some q
  refine h c L S σ H α ds R h1 _ fun vs H1 e1 r1 => ⟨L, ds, d, dom_up e1 R.dm, by rw [List.append_nil]; exact r1, q, fun p us H' e2 n hp r2 => k p us H' (e1.trans e2) ?_ hp r2⟩
  exact e1.free R.inv n
/-- built-in functions and methods, by values -/
theorem ev_callB {r : List V → Hp → VK → Prop} {f : List D → Option D} (hr : RcD e r f) (h : Eva e tr sr) : Evp e (tCB r tr) (xCall f sr) := fun c L S σ H α d R q Q k => by
  obtain ⟨ds, h1, q⟩ := bnd_some q
  exact h c L S σ H α ds R h1 _ fun vs H1 e1 r1 => hr L H1 ds vs d (dom_up e1 R.dm) r1 q Q fun v H' e2 r2 => k v H' (e1.trans e2) r2

/-! ### what reads a list or a tuple -/
section
variable {sq : State → Option (List D)}
def xLen (sq : State → Option (List D)) : State → Option D := fun α => match sq α with | some xs => some (.int xs.length) | none => none
theorem ev_lenL (h : EvqL e te sq) : Evp e (tCB (fun xs H Q => ∃ p ys, xs = [.ref p] ∧ (SqL e.K H p ys ∨ SqT e.K H p ys) ∧ Q (.int ys.length) H) (tCons te tNil)) (xLen sq) := fun c L S σ H α d R q Q k => by
  unfold xLen at q
  cases hs : sq α with
  | none => rw [hs] at q; cases q
  | some xs =>
    rw [hs] at q; cases q
    exact h c L S σ H α xs R hs _ fun a vs H' e1 r1 r2 => ⟨a, vs, rfl, .inl (fz_le.seq r1), k _ H' e1 (by rw [r2.len]; rfl)⟩
theorem ev_lenT (h : EvqT e te sq) : Evp e (tCB (fun xs H Q => ∃ p ys, xs = [.ref p] ∧ (SqL e.K H p ys ∨ SqT e.K H p ys) ∧ Q (.int ys.length) H) (tCons te tNil)) (xLen sq) := fun c L S σ H α d R q Q k => by
  unfold xLen at q
  cases hs : sq α with
  | none => rw [hs] at q; cases q
  | some xs =>
    rw [hs] at q; cases q
    exact h c L S σ H α xs R hs _ fun a vs H' e1 r1 r2 => ⟨a, vs, rfl, .inr (same_t fz_le r1), k _ H' e1 (by rw [r2.len]; rfl)⟩
def fLenS : List D → Option D := fun ds => match ds with | [.str z] => if z.length ≤ 100000 then some (.int z.length) else none | _ => none
theorem rc_lenS : RcD e (fun xs H Q => ∃ z, xs = [.str z] ∧ z.length ≤ sizeLine ∧ Q (.int z.length) H) fLenS := fun L H ds vs d dm r q Q k => by
  unfold fLenS at q
  split at q
  · rename_i z
    split at q
    · cases q
      obtain ⟨v, _, rfl, r1, r2⟩ := r
      cases r1; cases r2
      exact ⟨z, rfl, sz_of (by assumption), k _ H (Sm.refl H) rfl⟩
    · cases q
  · cases q
/-- an item -/
theorem atI_rep {F : Hp} {ds : List D} {vs : List V} {i : Int} {d : D} (r : Reps e F ds vs) (h : atI ds i = some d) : ∃ v, atI vs i = some v ∧ Rep e F d v := by
  unfold atI at *
  rw [r.len]
  cases hx : ixN ds.length i with
  | none => rw [hx] at h; cases h
  | some j => rw [hx] at h; exact r.get h
def xIx (sq : State → Option (List D)) (sb : State → Option D) : State → Option D := fun α => bnd (sq α) fun xs => match sb α with | some (.int i) => atI xs i | _ => none
theorem ev_ixL (h : EvqL e ta sq) (hb : Evp e tb sb) : Evp e (tOp (rIxL e.K) ta tb) (xIx sq sb) := fun c L S σ H α d R q Q k => by
  obtain ⟨xs, h1, q⟩ := bnd_some q
  split at q
  · rename_i i hi
    refine h c L S σ H α xs R h1 _ fun a vs H1 e1 r1 r2 => ?_
    refine hb c L S σ H1 α _ (R.up e1) hi _ fun v H2 e2 r3 => ?_
    cases r3
    obtain ⟨v, h2, h3⟩ := atI_rep r2 q
    exact ⟨a, vs, i, v, rfl, rfl, fz_le.seq ((fz_same e2).seq r1), h2, k v H2 (e1.trans e2) (h3.up (fz_same e2))⟩
  · cases q
theorem ev_ixT (h : EvqT e ta sq) (hb : Evp e tb sb) : Evp e (tOp (rIxT e.K) ta tb) (xIx sq sb) := fun c L S σ H α d R q Q k => by
  obtain ⟨xs, h1, q⟩ := bnd_some q
  split at q
  · rename_i i hi
    refine h c L S σ H α xs R h1 _ fun a vs H1 e1 r1 r2 => ?_
    refine hb c L S σ H1 α _ (R.up e1) hi _ fun v H2 e2 r3 => ?_
    cases r3
    obtain ⟨v, h2, h3⟩ := atI_rep r2 q
    exact ⟨a, vs, i, v, rfl, rfl, same_t fz_le (same_t (fz_same e2) r1), h2, k v H2 (e1.trans e2) (h3.up (fz_same e2))⟩
  · cases q
/-- slices -/
def cutD (xs : List D) (lo hi : Option Int) : List D := (xs.drop (HT.sIx xs.length 0 lo)).take (HT.sIx xs.length xs.length hi - HT.sIx xs.length 0 lo)
theorem cut_rep {F : Hp} {ds : List D} {vs : List V} {lo hi : Option Int} (r : Reps e F ds vs) : Reps e F (cutD ds lo hi) (cutV vs lo hi) := by
  unfold cutD cutV
  rw [r.len]
  exact (r.drop _).take _
variable {tl th : TO} {sl sh : State → Option (Option Int)}
def oNone : State → Option (Option Int) := fun _ => some none
def oSome (s : State → Option D) : State → Option (Option Int) := fun α => match s α with | some (.int i) => some (some i) | _ => none
theorem eo_none : Evo e tNoPart oNone := fun c L S σ H α o R q Q k => by cases q; exact k H (Sm.refl H)
theorem eo_some (h : Evp e te s) : Evo e (tPart te) (oSome s) := fun c L S σ H α o R q Q k => by
  unfold oSome at q
  split at q
  · rename_i i hi
    cases q
    refine h c L S σ H α _ R hi _ fun v H' e1 r => ?_
    cases r
    exact ⟨i, rfl, k H' e1⟩
  · cases q
def xSlL (sq : State → Option (List D)) (sl sh : State → Option (Option Int)) : State → Option (List D) := fun α => bnd (sq α) fun xs => bnd (sl α) fun lo => bnd (sh α) fun hi => some (cutD xs lo hi)
def xSlT (sq : State → Option (List D)) (sl sh : State → Option (Option Int)) : State → Option D := fun α => bnd (sq α) fun xs => bnd (sl α) fun lo => bnd (sh α) fun hi =>
    if (HT.sIx xs.length 0 lo = 0 ∧ HT.sIx xs.length xs.length hi = xs.length) then none else some (.tup (cutD xs lo hi))
theorem el_slL (h : EvqL e te sq) (hl : Evo e tl sl) (hh : Evo e th sh) : Evl e (tSl (rSlL e.K) te tl th) (xSlL sq sl sh) := fun c L S σ H α d R q Q k => by
  obtain ⟨xs, h1, q⟩ := bnd_some q
  obtain ⟨lo, h2, q⟩ := bnd_some q
  obtain ⟨hi, h3, q⟩ := bnd_some q
  cases q
  refine h c L S σ H α xs R h1 _ fun a vs H1 e1 r1 r2 => ?_
  refine hl c L S σ H1 α lo (R.up e1) h2 _ fun H2 e2 => ?_
  refine hh c L S σ H2 α hi (R.up (e1.trans e2)) h3 _ fun H3 e3 => ?_
  refine ⟨a, vs, rfl, fz_le.seq ((fz_same (e2.trans e3)).seq r1), fun p hp => ?_⟩
  have s4 : Sm H3 (upd H3 p (.lst (cutV vs lo hi))) := .of fun b o z => by rw [upd_ne (ne_of_none z hp)]; exact z
  have e13 := e1.trans (e2.trans e3)
  have hn : H p = none := by
    exact e13.free R.inv hp
  exact k p _ _ (e13.trans s4) hn upd_same (cut_rep (r2.up ((fz_same (e2.trans e3)).trans (fz_cons s4 hp))))
theorem ev_slT (h : EvqT e te sq) (hl : Evo e tl sl) (hh : Evo e th sh) : Evp e (tSl (rSlT e.K) te tl th) (xSlT sq sl sh) := fun c L S σ H α d R q Q k => by
  obtain ⟨xs, h1, q⟩ := bnd_some q
  obtain ⟨lo, h2, q⟩ := bnd_some q
  obtain ⟨hi, h3, q⟩ := bnd_some q
  split at q
  · cases q
  rename_i hc
  cases q
  refine h c L S σ H α xs R h1 _ fun a vs H1 e1 r1 r2 => ?_
  refine hl c L S σ H1 α lo (R.up e1) h2 _ fun H2 e2 => ?_
  refine hh c L S σ H2 α hi (R.up (e1.trans e2)) h3 _ fun H3 e3 => ?_
  refine ⟨a, vs, rfl, same_t fz_le (same_t (fz_same (e2.trans e3)) r1), by rw [r2.len]; exact hc, fun p hp => ?_⟩
  have s4 : Sm H3 (upd H3 p (.tup (cutV vs lo hi))) := .of fun b o z => by rw [upd_ne (ne_of_none z hp)]; exact z
  have e13 := e1.trans (e2.trans e3)
  exact k _ _ (e13.trans s4) ⟨p, _, rfl, .inl (.inl (fz_new (fresh_nL (dom_up e13 R.dm) hp) upd_same)), cut_rep (r2.up (fz_same ((e2.trans e3).trans s4)))⟩
/-- list(..), tuple(..) -/
theorem el_listL (h : EvqL e te sq) : Evl e (tCB (fun xs H Q => ∃ p ys, xs = [.ref p] ∧ (SqL e.K H p ys ∨ SqT e.K H p ys) ∧ ∀ l, H l = none → Q (.ref l) (upd H l (.lst ys))) (tCons te tNil)) sq := fun c L S σ H α xs R q Q k =>
  h c L S σ H α xs R q _ fun a vs H' e1 r1 r2 => ⟨a, vs, rfl, .inl (fz_le.seq r1), fun l hl => by
    have s4 : Sm H' (upd H' l (.lst vs)) := .of fun b o z => by rw [upd_ne (ne_of_none z hl)]; exact z
    have hn : H l = none := by
      exact e1.free R.inv hl
    exact k l vs _ (e1.trans s4) hn upd_same (r2.up (fz_cons s4 hl))⟩
theorem el_listT (h : EvqT e te sq) : Evl e (tCB (fun xs H Q => ∃ p ys, xs = [.ref p] ∧ (SqL e.K H p ys ∨ SqT e.K H p ys) ∧ ∀ l, H l = none → Q (.ref l) (upd H l (.lst ys))) (tCons te tNil)) sq := fun c L S σ H α xs R q Q k =>
  h c L S σ H α xs R q _ fun a vs H' e1 r1 r2 => ⟨a, vs, rfl, .inr (same_t fz_le r1), fun l hl => by
    have s4 : Sm H' (upd H' l (.lst vs)) := .of fun b o z => by rw [upd_ne (ne_of_none z hl)]; exact z
    have hn : H l = none := by
      exact e1.free R.inv hl
    exact k l vs _ (e1.trans s4) hn upd_same (r2.up (fz_cons s4 hl))⟩
def xTupL (sq : State → Option (List D)) : State → Option D := fun α => match sq α with | some xs => some (.tup xs) | none => none
theorem ev_tupL (h : EvqL e te sq) : Evp e (tCB (fun xs H Q => ∃ p ys, xs = [.ref p] ∧ ((SqL e.K H p ys ∧ ∀ l, H l = none → Q (.ref l) (upd H l (.tup ys))) ∨ (SqT e.K H p ys ∧ Q (.ref p) H))) (tCons te tNil)) (xTupL sq) := fun c L S σ H α d R q Q k => by
  unfold xTupL at q
  cases hs : sq α with
  | none => rw [hs] at q; cases q
  | some xs =>
    rw [hs] at q; cases q
    refine h c L S σ H α xs R hs _ fun a vs H' e1 r1 r2 => ⟨a, vs, rfl, .inl ⟨fz_le.seq r1, fun l hl => ?_⟩⟩
    have s4 : Sm H' (upd H' l (.tup vs)) := .of fun b o z => by rw [upd_ne (ne_of_none z hl)]; exact z
    exact k _ _ (e1.trans s4) ⟨l, vs, rfl, .inl (.inl (fz_new (fresh_nL (dom_up e1 R.dm) hl) upd_same)), r2.up (fz_same s4)⟩
/-- sum of dints -/
def dints : List D → Option (List Int)
  | [] => some []
  | .int i :: r => (dints r).map (i :: ·)
  | _ => none
theorem dints_rep {F : Hp} : ∀ {ds : List D} {vs : List V} {ns : List Int}, dints ds = some ns → Reps e F ds vs → vs = ns.map V.int
  | [], _, _, h, r => by cases h; cases r; rfl
  | .int i :: ds, _, _, h, ⟨v, w, q, r1, r2⟩ => by
    cases hs : dints ds with
    | none => simp [dints, hs] at h
    | some ns => simp [dints, hs] at h; subst h; subst q; cases r1; rw [dints_rep hs r2]; rfl
  | .non :: _, _, _, h, _ => by simp [dints] at h
  | .bl _ :: _, _, _, h, _ => by simp [dints] at h
  | .str _ :: _, _, _, h, _ => by simp [dints] at h
  | .tup _ :: _, _, _, h, _ => by simp [dints] at h
  | .lst _ :: _, _, _, h, _ => by simp [dints] at h
  | .ins _ _ :: _, _, _, h, _ => by simp [dints] at h
  | .ty _ :: _, _, _, h, _ => by simp [dints] at h
  | .cls _ :: _, _, _, h, _ => by simp [dints] at h
theorem dints_of (ns : List Int) : dints (ns.map D.int) = some ns := by
  induction ns with
  | nil => rfl
  | cons a r ih => simp [dints, ih]
def fSum (xs : List D) : Option D := (dints xs).map fun ns => .int ns.sum
def xSum (sq : State → Option (List D)) : State → Option D := fun α => bnd (sq α) fSum
theorem ev_sum (h : EvqL e te sq) : Evp e (tCB (rSum e.K) (tCons te tNil)) (xSum sq) := fun c L S σ H α d R q Q k => by
  obtain ⟨xs, h1, q⟩ := bnd_some q
  unfold fSum at q
  cases hs : dints xs with
  | none => rw [hs] at q; cases q
  | some ns =>
    rw [hs] at q; cases q
    refine h c L S σ H α xs R h1 _ fun a vs H' e1 r1 r2 => ⟨a, ns, rfl, ?_, k _ H' e1 rfl⟩
    rw [← dints_rep hs r2]
    exact fz_le.seq r1
end

/-! ### an own object lent as data, where what comes is flat -/
theorem Rel.lend {c : Cn} {L S : List Addr} {σ : L2.St} {H : Hp} {α : State} (r : Rel e c L S σ H α) {i : Nat} {ct : Ct} {d : D} (h : ctOf α[i]? = some ct)
    (hd : ∀ L' p o, H p = some o → p ∉ L' ∧ ¬ Hd.hid p → RepC e (fz L' H) ct o → Rep e (fz L' H) d (.ref p)) :
    ∃ L' S', Rel e ⟨[], [], hz H, σ⟩ L' S' σ H (α.set i (some (.dat d))) := by
  obtain ⟨p, o, h1, h2, h3, h4⟩ := r.at h
  have hlen : i < α.length := by
    cases z : α[i]? with
    | none => rw [z] at h; cases h
    | some x => exact (List.getElem?_eq_some_iff.mp z).1
  have anti : Same (fz L H) (fz (L.filter (· ≠ p)) H) := fz_anti fun a m => (List.mem_filter.mp m).1
  have hp : p ∉ L.filter (· ≠ p) := fun m => by simpa using (List.mem_filter.mp m).2
  have slotp : ∀ j, isOwn α[j]? = true → i ≠ j → σ[j]? ≠ some (some (.ref p)) := fun j hj hn z => hn (r.sep i j p (isOwn_ct h) hj h1 z)
  refine ⟨L.filter (· ≠ p), S.filter (· ≠ p), ⟨fun j a q => ?_, fun j k q hj hk sj sk => ?_, r.inv, hz_al r.inv, fun q m => r.nh q (List.mem_filter.mp m).1, fun q m => r.dom q (List.mem_filter.mp m).1, fun q m => ?_, (fun q m => nomatch m), (fun q m => .inr (hz_none (r.nh q (List.mem_filter.mp m).1))), (fun q m => .inr (hz_none (r.nh q (r.sub q (List.mem_filter.mp m).1)))), hz_mod r.inv, (fun q m => nomatch m), (fun q m => nomatch m), by rw [List.length_set]; exact r.len⟩⟩
  · rw [getset] at q
    by_cases e1 : i = j
    · rw [if_pos e1] at q
      split at q
      · cases q
        subst e1
        exact ⟨_, h1, hd _ p o h3 ⟨hp, r.nh p (r.sub p h2)⟩ (h4.up anti)⟩
      · cases q
    · rw [if_neg e1] at q
      obtain ⟨v, k1, k2⟩ := r.slot j a q
      refine ⟨v, k1, ?_⟩
      cases a with
      | dat d => exact Rep.up (d := d) k2 anti
      | adr _ => exact k2
      | own ct =>
        obtain ⟨p', o', rfl, m, n, ho, rc⟩ := k2
        have : p' ≠ p := fun z => slotp j (by rw [q]; rfl) e1 (by rw [k1, z])
        exact ⟨p', o', rfl, List.mem_filter.mpr ⟨m, by simpa using this⟩, hz_none (r.nh _ (r.sub _ m)), ho, rc.up anti⟩
      | inn ct =>
        obtain ⟨p', o', rfl, m, n, ho, rc⟩ := k2
        have : p' ≠ p := fun z => slotp j (by rw [q]; rfl) e1 (by rw [k1, z])
        exact ⟨p', o', rfl, List.mem_filter.mpr ⟨m, by simpa using this⟩, k1, ho, rc.up anti⟩
  · have un : ∀ j, isOwn (α.set i (some (.dat d)))[j]? = true → isOwn α[j]? = true := fun j hj => by
      rw [getset] at hj
      split at hj
      · split at hj <;> simp [isOwn] at hj
      · exact hj
    exact r.sep j k q (un j hj) (un k hk) sj sk
  · obtain ⟨m1, m2⟩ := List.mem_filter.mp m
    exact List.mem_filter.mpr ⟨r.sub q m1, m2⟩
def lendD (i : Nat) (α : State) : Option State := match ctOf α[i]? with
  | some (.lst xs) => some (α.set i (some (.dat (.lst xs))))
  | some (.obj c fs) => some (α.set i (some (.dat (.ins c fs))))
  | _ => none
theorem Rel.lendD {c : Cn} {L S : List Addr} {σ : L2.St} {H : Hp} {α β : State} (r : Rel e c L S σ H α) {i : Nat} (h : lendD i α = some β) : ∃ c' L' S', Rel e c' L' S' σ H β := by
  unfold Ab.lendD at h
  split at h
  · rename_i xs hx
    cases h
    obtain ⟨L', S', q⟩ := r.lend (d := .lst xs) hx fun L' p o ho hn rc => by
      obtain ⟨vs, rfl, rr⟩ := rc
      exact ⟨p, vs, rfl, .inl (.inl (fz_new hn ho)), rr⟩
    exact ⟨_, L', S', q⟩
  · rename_i x fs hx
    cases h
    obtain ⟨L', S', q⟩ := r.lend (d := .ins x fs) hx fun L' p o ho hn rc => by
      obtain ⟨dx, gs, rfl, rr⟩ := rc
      exact ⟨p, dx, gs, rfl, fz_new hn ho, rr⟩
    exact ⟨_, L', S', q⟩
  · cases h
def xLend (i : Nat) (s : State → Option D) : State → Option D := fun α => bnd (lendD i α) fun β => match s β with | some d => if flat d = true then some d else none | none => none
theorem ev_lend (i : Nat) (h : Evp e te s) : Evp e te (xLend i s) := fun c L S σ H α d R q Q k => by
  obtain ⟨β, h1, q⟩ := bnd_some q
  obtain ⟨c', L', S', R'⟩ := R.lendD h1
  split at q
  · rename_i d' hs
    split at q
    · rename_i hf
      cases q
      exact h c' L' S' σ H β d R' hs Q fun v H' e1 r1 => k v H' e1 (by rw [rep_flat hf r1]; exact rep_of_flat hf)
    · cases q
  · cases q
def tLend (i : Nat) (s : State → Option Bool) : State → Option Bool := fun α => bnd (lendD i α) s
theorem et_lend (i : Nat) {t : TT} {s : State → Option Bool} (h : Evt e t s) : Evt e t (tLend i s) := fun c L S σ H α d R q Q k => by
  obtain ⟨β, h1, q⟩ := bnd_some q
  obtain ⟨c', L', S', R'⟩ := R.lendD h1
  exact h c' L' S' σ H β d R' q Q k
end
end Ab
end
section
set_option maxRecDepth 100000
set_option maxHeartbeats 1000000
namespace Ab
open PySem L2
variable [Hd]

structure Exn where
  name : String
  fs : List (Str × D)
inductive Res (β : Type) where
  | ok (b : β) (α : State) | exc (x : Exn) | bad
inductive RetV where
  | dat (d : D) | lst (xs : List D)
inductive Out where
  | nxt (α : State) | ret (r : RetV) (α : State) | brk (α : State) | cnt (α : State) | exc (x : Exn) | bad

/-- an exception's own things -/
def XRep (e : En) (F : Hp) (H' : Hp) (x : Exn) (cls : Value) (dd : Option Addr) : Prop :=
  cls = .ref (e.cls x.name) ∧ (x.fs = [] ∨ ∃ p gs, dd = some p ∧ H' p = some (.xd gs) ∧ RepF e F x.fs gs)
def XOk (e : En) (c : Cn) (E : XK) (x : Exn) : Prop := ∀ cls dd H', Mod c.S0 c.H0 H' → XRep e (fz c.L0 H') H' x cls dd → (∀ p, dd = some p → c.H0 p = none) → E cls dd H'

section
variable (e : En) (E : XK)
/-- with side effects upon what is owned -/
def Eve (te : TE) (s : State → Res D) : Prop := ∀ c L S σ H α, Rel e c L S σ H α → ∀ Q : VK, (∀ d α', s α = .ok d α' → ∀ v H', Mod S H H' → Rel e c L S σ H' α' → Rep e (fz L H') d v → Q v H') → (∀ x, s α = .exc x → XOk e c E x) → s α ≠ .bad → te σ H Q
def EvlE (te : TE) (s : State → Res (List D)) : Prop := ∀ c L S σ H α, Rel e c L S σ H α → ∀ Q : VK, (∀ xs α', s α = .ok xs α' → ∀ p vs H', Mod S H H' → H p = none → Rel e c (p :: L) S σ H' α' → H' p = some (.lst vs) → Reps e (fz (p :: L) H') xs vs → Q (.ref p) H') → (∀ x, s α = .exc x → XOk e c E x) → s α ≠ .bad → te σ H Q
def EvtE (tt : TT) (s : State → Res Bool) : Prop := ∀ c L S σ H α, Rel e c L S σ H α → ∀ Q : Bool → Hp → Prop, (∀ b α', s α = .ok b α' → ∀ H', Mod S H H' → Rel e c L S σ H' α' → Q b H') → (∀ x, s α = .exc x → XOk e c E x) → s α ≠ .bad → tt σ H Q
/-- arguments: data, or an own object handed on -/
inductive Arg where
  | dat (d : D) | slot (i : Nat)
def ArgRep (e : En) (L : List Addr) (σ : L2.St) (H : Hp) : Arg → V → Prop
  | .dat d, v => Rep e (fz L H) d v
  | .slot i, v => σ[i]? = some (some v)
def ArgsRep (e : En) (L : List Addr) (σ : L2.St) (H : Hp) : List Arg → List V → Prop
  | [], vs => vs = []
  | a :: r, vs => ∃ v w, vs = v :: w ∧ ArgRep e L σ H a v ∧ ArgsRep e L σ H r w
def EvaE (ta : TA) (s : State → Res (List Arg)) : Prop := ∀ c L S σ H α, Rel e c L S σ H α → ∀ Q : List V → Hp → Prop, (∀ as α', s α = .ok as α' → ∀ vs H', Mod S H H' → Rel e c L S σ H' α' → ArgsRep e L σ H' as vs → Q vs H') → (∀ x, s α = .exc x → XOk e c E x) → s α ≠ .bad → ta σ H Q

def RetRep (L : List Addr) (H : Hp) (v : V) (c : Cn) : RetV → Prop
  | .dat d => Rep e (fz L H) d v
  | .lst xs => ∃ p vs, v = .ref p ∧ c.H0 p = none ∧ H p = some (.lst vs) ∧ Reps e (fz (p :: L) H) xs vs
def OutOk (c : Cn) (D : Ends) (F : Hp) : Out → Prop
  | .nxt α' => ∀ L S σ H, Same F (fz L H) → Rel e c L S σ H α' → D.nx σ H
  | .brk α' => ∀ L S σ H, Same F (fz L H) → Rel e c L S σ H α' → D.bk σ H
  | .cnt α' => ∀ L S σ H, Same F (fz L H) → Rel e c L S σ H α' → D.ct σ H
  | .ret r α' => ∀ v L S σ H, Rel e c L S σ H α' → RetRep e L H v c r → D.rt v H
  | .exc x => XOk e c E x
  | .bad => False
def Sts (ts : TS) (s : State → Out) : Prop := ∀ c L S σ H α D, Rel e c L S σ H α → OutOk e E c D (fz L H) (s α) → ts D σ H
end

section
variable {e : En} {E : XK} {te ta tb : TE} {ts tu tw : TS} {t : TT} {s u w : State → Out}
theorem OutOk.mono {c : Cn} {D : Ends} {F F1 : Hp} (h : Same F F1) : ∀ {o : Out}, OutOk e E c D F o → OutOk e E c D F1 o
  | .nxt _, k => fun L S σ H a r => k L S σ H (h.trans a) r
  | .brk _, k => fun L S σ H a r => k L S σ H (h.trans a) r
  | .cnt _, k => fun L S σ H a r => k L S σ H (h.trans a) r
  | .ret _ _, k => k
  | .exc _, k => k
  | .bad, k => k
omit E in
theorem _root_.Ab.fz_swap {L : List Addr} {H : Hp} {p : Addr} {o : HO} (mL : p ∈ L) : Same (fz L H) (fz (L.filter (· ≠ p)) (upd H p o)) := fun a u q => by
  obtain ⟨m, nh⟩ := fz_nh q
  have hne : a ≠ p := fun z => m (z ▸ mL)
  exact fz_at (by rw [upd_ne hne]; exact fz_le _ _ q) (fun z => m (List.mem_filter.mp z).1) nh
omit E in
theorem _root_.Ab.fz_out {L : List Addr} {H : Hp} {p : Addr} {o : HO} (nh : ¬ Hd.hid p) : fz (L.filter (· ≠ p)) (upd H p o) p = some o :=
  fz_at upd_same (fun z => by simpa using (List.mem_filter.mp z).2) nh
theorem fz_mod {L S : List Addr} {H H' : Hp} (h : Mod S H H') (sub : ∀ p ∈ S, p ∈ L) : Same (fz L H) (fz L H') := fz_mut fun a o q n m => h.k a o q (fun m => n (sub a m)) m

/-! ### lifting -/
def lift (s : State → Option D) : State → Res D := fun α => match s α with | some d => .ok d α | none => .bad
theorem ee_p {s : State → Option D} (h : Evp e te s) : Eve e E te (lift s) := fun c L S σ H α R Q k kx nb => by
  unfold lift at *
  cases hs : s α with
  | none => rw [hs] at nb; exact absurd rfl nb
  | some d =>
    rw [hs] at k
    exact h c L S σ H α d R hs Q fun v H' e1 r => k d α rfl v H' (.of e1) (R.up e1) r
def liftL (s : State → Option (List D)) : State → Res (List D) := fun α => match s α with | some d => .ok d α | none => .bad
theorem Rel.more {c : Cn} {L S : List Addr} {σ : L2.St} {H : Hp} {α : State} (r : Rel e c L S σ H α) {H' : Hp} {p : Addr} {o : HO} (s : Sm H H') (n : H p = none) (ho : H' p = some o) : Rel e c (p :: L) S σ H' α where
  slot := fun i a q => by
    obtain ⟨v, h1, h2⟩ := r.slot i a q
    refine ⟨v, h1, ?_⟩
    cases a with
    | dat d => exact Rep.up (d := d) h2 (fz_cons s n)
    | adr _ => exact h2
    | own ct => obtain ⟨p', o', q', m, n', ho', rc⟩ := h2; exact ⟨p', o', q', m, n', s.k _ _ ho' (r.nh _ (r.sub _ m)), rc.up (fz_cons s n)⟩
    | inn ct => obtain ⟨p', o', q', m, n', ho', rc⟩ := h2; exact ⟨p', o', q', m, n', s.k _ _ ho' (r.nh _ (r.sub _ m)), rc.up (fz_cons s n)⟩
  sep := r.sep
  inv := s.i r.inv
  h1 := r.h1
  nh := fun q m z => by
    rcases List.mem_cons.mp m with rfl | m
    · exact Hd.al r.inv z n
    · exact r.nh q m z
  dom := fun q m z => by
    rcases List.mem_cons.mp m with rfl | m
    · rw [ho] at z; cases z
    · exact (r.up s).dom q m z
  sub := fun q m => List.mem_cons_of_mem _ (r.sub q m)
  l0 := fun q m => List.mem_cons_of_mem _ (r.l0 q m)
  l1 := fun q m => by
    rcases List.mem_cons.mp m with rfl | m
    · exact .inr (r.h0 n)
    · exact r.l1 q m
  s1 := r.s1
  md := r.md.trans (.of s)
  s0 := r.s0
  d0 := r.d0
  len := r.len
theorem ele_p {s : State → Option (List D)} (h : Evl e te s) : EvlE e E te (liftL s) := fun c L S σ H α R Q k kx nb => by
  unfold liftL at *
  cases hs : s α with
  | none => rw [hs] at nb; exact absurd rfl nb
  | some d =>
    rw [hs] at k
    exact h c L S σ H α d R hs Q fun p vs H' e1 n hp r => k d α rfl p vs H' (.of e1) n (R.more e1 n hp) hp r
def liftB (s : State → Option Bool) : State → Res Bool := fun α => match s α with | some d => .ok d α | none => .bad
theorem ete_p {s : State → Option Bool} (h : Evt e t s) : EvtE e E t (liftB s) := fun c L S σ H α R Q k kx nb => by
  unfold liftB at *
  cases hs : s α with
  | none => rw [hs] at nb; exact absurd rfl nb
  | some d =>
    rw [hs] at k
    exact h c L S σ H α d R hs Q fun H' e1 => k d α rfl H' (.of e1) (R.up e1)
def rB (s : State → Res D) : State → Res Bool := fun α => match s α with | .ok (.bl b) α' => .ok b α' | .ok _ _ => .bad | .exc x => .exc x | .bad => .bad
theorem ete_B {s : State → Res D} (h : Eve e E te s) : EvtE e E (tB te) (rB s) := fun c L S σ H α R Q k kx nb => by
  refine h c L S σ H α R _ (fun d α' hs v H' m r1 r2 => ?_) (fun x hx => kx x (by unfold rB; rw [hx])) (fun hb => nb (by unfold rB; rw [hb]))
  unfold rB at k nb
  rw [hs] at k nb
  cases d with
  | bl b => cases r2; exact ⟨b, rfl, k b α' rfl H' m r1⟩
  | _ => exact absurd rfl nb
theorem ete_test {s : State → Res D} (h : Eve e E te s) : EvtE e E (tTest te) (rB s) := fun c L S σ H α R Q k kx nb => by
  refine h c L S σ H α R _ (fun d α' hs v H' m r1 r2 => ?_) (fun x hx => kx x (by unfold rB; rw [hx])) (fun hb => nb (by unfold rB; rw [hb]))
  unfold rB at k nb
  rw [hs] at k nb
  cases d with
  | bl b => cases r2; exact ⟨b, rfl, k b α' rfl H' m r1⟩
  | _ => exact absurd rfl nb
def rNot (s : State → Res Bool) : State → Res Bool := fun α => match s α with | .ok b α' => .ok (!b) α' | .exc x => .exc x | .bad => .bad
theorem ete_not {s : State → Res Bool} (h : EvtE e E t s) : EvtE e E (tNot t) (rNot s) := fun c L S σ H α R Q k kx nb => by
  refine h c L S σ H α R _ (fun d α' hs H' m r1 => k (!d) α' (by unfold rNot; rw [hs]) H' m r1) (fun x hx => kx x (by unfold rNot; rw [hx])) (fun hb => nb (by unfold rNot; rw [hb]))

/-! ### statements -/
def sSeq (s u : State → Out) : State → Out := fun α => match s α with | .nxt β => u β | o => o
theorem st_seq (h : Sts e E ts s) (h' : Sts e E tu u) : Sts e E (tSeq ts tu) (sSeq s u) := fun c L S σ H α D R k => by
  refine h c L S σ H α { D with nx := tu D } R ?_
  unfold sSeq at k
  cases hs : s α with
  | nxt β =>
    rw [hs] at k
    exact fun L1 S1 σ1 H1 a r => h' c L1 S1 σ1 H1 β D r (OutOk.mono a k)
  | brk β => rw [hs] at k; exact k
  | cnt β => rw [hs] at k; exact k
  | ret r β => rw [hs] at k; exact k
  | exc x => rw [hs] at k; exact k
  | bad => rw [hs] at k; exact k
def sNext : State → Out := .nxt
theorem st_next : Sts e E tNext sNext := fun c L S σ H α D R k => k L S σ H (Same.refl _) R
def sBrk : State → Out := .brk
theorem st_brk : Sts e E tBreak sBrk := fun c L S σ H α D R k => k L S σ H (Same.refl _) R
def sCnt : State → Out := .cnt
theorem st_cnt : Sts e E tCont sCnt := fun c L S σ H α D R k => k L S σ H (Same.refl _) R
/-- x = e -/
def sSet (i : Nat) (s : State → Res D) : State → Out := fun α => match s α with | .ok d α' => .nxt (α'.set i (some (.dat d))) | .exc x => .exc x | .bad => .bad
theorem st_set {i : Nat} {s : State → Res D} (h : Eve e E te s) : Sts e E (tAsg te (gName i)) (sSet i s) := fun c L S σ H α D R k => by
  unfold sSet at k
  refine h c L S σ H α R _ (fun d α' hs v H' m r1 r2 => ?_) (fun x hx => by rw [hx] at k; exact k) (fun hb => by rw [hb] at k; exact k)
  rw [hs] at k
  exact k L S _ H' (fz_mod m R.sub) (r1.setD r2)
/-- x = a new list that is x's own -/
def sSetL (i : Nat) (s : State → Res (List D)) : State → Out := fun α => match s α with | .ok xs α' => .nxt (α'.set i (some (.own (.lst xs)))) | .exc x => .exc x | .bad => .bad
theorem Rel.setO' {c : Cn} {L S : List Addr} {σ : L2.St} {H : Hp} {α : State} {i : Nat} {p : Addr} {o : HO} {ct : Ct} (r : Rel e c (p :: L) S σ H α) (n : c.H0 p = none) (nS : p ∉ S) (ho : H p = some o) (rc : RepC e (fz (p :: L) H) ct o) :
    Rel e c (p :: L) (p :: S) (σ.set i (some (.ref p))) H (α.set i (some (.own ct))) where
  slot := fun j a q => by
    rw [getset] at q
    rw [getset]
    by_cases e1 : i = j
    · rw [if_pos e1] at q ⊢
      split at q
      · rename_i hl
        cases q
        rw [if_pos (by rw [r.len]; exact hl)]
        exact ⟨_, rfl, p, o, rfl, by simp, n, ho, rc⟩
      · cases q
    · rw [if_neg e1] at q ⊢
      obtain ⟨v, h1, h2⟩ := r.slot j a q
      refine ⟨v, h1, ?_⟩
      cases a with
      | dat d => exact h2
      | adr _ => exact h2
      | own ct => obtain ⟨p', o, q, m, n', ho, rc⟩ := h2; exact ⟨p', o, q, List.mem_cons_of_mem _ m, n', ho, rc⟩
      | inn ct => obtain ⟨p', o, q, m, n', ho, rc⟩ := h2; exact ⟨p', o, q, List.mem_cons_of_mem _ m, n', ho, rc⟩
  sep := fun j k q hj hk sj sk => by
    have fresh : ∀ j, i ≠ j → isOwn α[j]? = true → σ[j]? ≠ some (some (V.ref p)) := fun j _ hj z => by
      cases ha : α[j]? with
      | none => rw [ha] at hj; simp [isOwn] at hj
      | some x =>
        cases x with
        | none => rw [ha] at hj; simp [isOwn] at hj
        | some a =>
          obtain ⟨v, h1, h2⟩ := r.slot j a ha
          rw [h1] at z; cases z
          cases a with
          | dat d => rw [ha] at hj; simp [isOwn] at hj
          | adr _ => rw [ha] at hj; simp [isOwn] at hj
          | own ct => obtain ⟨p', o, q, m, n', ho, rc⟩ := h2; cases q; exact nS m
          | inn ct => obtain ⟨p', o, q, m, n', ho, rc⟩ := h2; cases q; exact nS m
    rw [getset] at hj hk sj sk
    by_cases e1 : i = j
    · by_cases e2 : i = k
      · omega
      · rw [if_neg e2] at hk sk
        rw [if_pos e1] at sj
        split at sj
        · cases sj; exact absurd sk (fresh k e2 hk)
        · cases sj
    · rw [if_neg e1] at hj sj
      by_cases e2 : i = k
      · rw [if_pos e2] at sk
        split at sk
        · cases sk; exact absurd sj (fresh j e1 hj)
        · cases sk
      · rw [if_neg e2] at hk sk
        exact r.sep j k q hj hk sj sk
  inv := r.inv
  h1 := r.h1
  nh := r.nh
  dom := r.dom
  sub := fun q m => by
    rcases List.mem_cons.mp m with rfl | m
    · simp
    · exact r.sub q m
  l0 := r.l0
  l1 := r.l1
  s1 := fun q m => by
    rcases List.mem_cons.mp m with rfl | m
    · exact .inr n
    · exact r.s1 q m
  md := r.md
  s0 := r.s0
  d0 := r.d0
  len := by rw [List.length_set, List.length_set]; exact r.len
theorem fz_consM {L S : List Addr} {H H' : Hp} {p : Addr} (h : Mod S H H') (sub : ∀ p ∈ S, p ∈ L) (n : H p = none) : Same (fz L H) (fz (p :: L) H') := fun a o q => by
  obtain ⟨m, n2⟩ := fz_nh q
  have hp : a ≠ p := ne_of_none (fz_le _ _ q) n
  exact fz_at (h.k _ _ (fz_le _ _ q) (fun z => m (sub a z)) n2) (by simp [hp, m]) n2
theorem st_setL {i : Nat} {s : State → Res (List D)} (h : EvlE e E te s) : Sts e E (tAsg te (gName i)) (sSetL i s) := fun c L S σ H α D R k => by
  unfold sSetL at k
  refine h c L S σ H α R _ (fun xs α' hs p vs H' m n r1 hp r2 => ?_) (fun x hx => by rw [hx] at k; exact k) (fun hb => by rw [hb] at k; exact k)
  rw [hs] at k
  exact k (p :: L) (p :: S) _ H' (fz_consM m R.sub n) (r1.setO' (R.h0 n) (fun z => R.dom p (R.sub p z) n) hp ⟨vs, rfl, r2⟩)
/-- if -/
def sIf (t : State → Res Bool) (s u : State → Out) : State → Out := fun α => match t α with | .ok true α' => s α' | .ok false α' => u α' | .exc x => .exc x | .bad => .bad
theorem st_if {st : State → Res Bool} (h : EvtE e E t st) (h1 : Sts e E ts s) (h2 : Sts e E tu u) : Sts e E (tIfS t ts tu) (sIf st s u) := fun c L S σ H α D R k => by
  unfold sIf at k
  refine h c L S σ H α R _ (fun b α' hs H' m r1 => ?_) (fun x hx => by rw [hx] at k; exact k) (fun hb => by rw [hb] at k; exact k)
  rw [hs] at k
  cases b with
  | true => exact h1 c L S σ H' α' D r1 (OutOk.mono (fz_mod m R.sub) k)
  | false => exact h2 c L S σ H' α' D r1 (OutOk.mono (fz_mod m R.sub) k)
/-- an expression alone -/
def sDrop (s : State → Res D) : State → Out := fun α => match s α with | .ok _ α' => .nxt α' | .exc x => .exc x | .bad => .bad
theorem st_drop {s : State → Res D} (h : Eve e E te s) : Sts e E (tDrop te) (sDrop s) := fun c L S σ H α D R k => by
  unfold sDrop at k
  refine h c L S σ H α R _ (fun d α' hs v H' m r1 r2 => ?_) (fun x hx => by rw [hx] at k; exact k) (fun hb => by rw [hb] at k; exact k)
  rw [hs] at k
  exact k L S _ H' (fz_mod m R.sub) r1
/-- return -/
def sRet (s : State → Res D) : State → Out := fun α => match s α with | .ok d α' => .ret (.dat d) α' | .exc x => .exc x | .bad => .bad
theorem st_ret {s : State → Res D} (h : Eve e E te s) : Sts e E (tRet te) (sRet s) := fun c L S σ H α D R k => by
  unfold sRet at k
  refine h c L S σ H α R _ (fun d α' hs v H' m r1 r2 => ?_) (fun x hx => by rw [hx] at k; exact k) (fun hb => by rw [hb] at k; exact k)
  rw [hs] at k
  exact k v L S σ H' r1 r2
def sRetN : State → Out := fun α => .ret (.dat .non) α
theorem st_retN : Sts e E tRetN sRetN := fun c L S σ H α D R k => k .non L S σ H R rfl
def sRetL (s : State → Res (List D)) : State → Out := fun α => match s α with | .ok xs α' => .ret (.lst xs) α' | .exc x => .exc x | .bad => .bad
theorem st_retL {s : State → Res (List D)} (h : EvlE e E te s) : Sts e E (tRet te) (sRetL s) := fun c L S σ H α D R k => by
  unfold sRetL at k
  refine h c L S σ H α R _ (fun xs α' hs p vs H' m n r1 hp r2 => ?_) (fun x hx => by rw [hx] at k; exact k) (fun hb => by rw [hb] at k; exact k)
  rw [hs] at k
  exact k _ (p :: L) S σ H' r1 ⟨p, vs, rfl, R.h0 n, hp, r2.up (fz_anti (by simp))⟩
/-- return x, x an own list -/
def sRetO (i : Nat) : State → Out := fun α => match α[i]? with | some (some (.own (.lst xs))) => .ret (.lst xs) α | _ => .bad
theorem st_retO (i : Nat) : Sts e E (tRet (tVar i)) (sRetO i) := fun c L S σ H α D R k => by
  unfold sRetO at k
  split at k
  · rename_i xs hx
    obtain ⟨v, h1, p, o, rfl, m, n, ho, vs, rfl, r⟩ := R.slot i _ hx
    exact ⟨_, h1, k _ L S σ H R ⟨p, vs, rfl, n, ho, r.up (fz_anti (by simp [R.sub p m]))⟩⟩
  · exact k.elim
/-- an own list is an own list no more, but data -/
def frzD (i : Nat) (α : State) : State := match α[i]? with
  | some (some (.own (.lst xs))) => α.set i (some (.dat (.lst xs)))
  | some (some (.own (.obj x fs))) => α.set i (some (.dat (.ins x fs)))
  | _ => α
theorem Rel.frz {c : Cn} {L S : List Addr} {σ : L2.St} {H : Hp} {α : State} (r : Rel e c L S σ H α) {i : Nat} {ct : Ct} {d : D} {p : Addr} (ha : α[i]? = some (some (.own ct))) (h1 : σ[i]? = some (some (.ref p))) (n0 : c.H0 p = none)
    (hd : Rep e (fz (L.filter (· ≠ p)) H) d (.ref p)) : Rel e c (L.filter (· ≠ p)) (S.filter (· ≠ p)) σ H (α.set i (some (.dat d))) := by
  have anti : Same (fz L H) (fz (L.filter (· ≠ p)) H) := fz_anti fun a m => (List.mem_filter.mp m).1
  have slotp : ∀ j, isOwn α[j]? = true → i ≠ j → σ[j]? ≠ some (some (.ref p)) := fun j hj hn z => hn (r.sep i j p (by rw [ha]; rfl) hj h1 z)
  refine ⟨fun j a q => ?_, fun j k q hj hk sj sk => ?_, r.inv, r.h1, fun q m => r.nh q (List.mem_filter.mp m).1, fun q m => r.dom q (List.mem_filter.mp m).1, fun q m => ?_, fun q m => ?_, fun q m => r.l1 q (List.mem_filter.mp m).1, fun q m => r.s1 q (List.mem_filter.mp m).1, r.md, r.s0, r.d0, by rw [List.length_set]; exact r.len⟩
  · rw [getset] at q
    by_cases e1 : i = j
    · rw [if_pos e1] at q
      split at q
      · cases q
        subst e1
        exact ⟨_, h1, hd⟩
      · cases q
    · rw [if_neg e1] at q
      obtain ⟨v, k1, k2⟩ := r.slot j a q
      refine ⟨v, k1, ?_⟩
      cases a with
      | dat d => exact Rep.up (d := d) k2 anti
      | adr _ => exact k2
      | own ct =>
        obtain ⟨p', o', rfl, m, n, ho, rc⟩ := k2
        have : p' ≠ p := fun z => slotp j (by rw [q]; rfl) e1 (by rw [k1, z])
        exact ⟨p', o', rfl, List.mem_filter.mpr ⟨m, by simpa using this⟩, n, ho, rc.up anti⟩
      | inn ct =>
        obtain ⟨p', o', rfl, m, n, ho, rc⟩ := k2
        have : p' ≠ p := fun z => slotp j (by rw [q]; rfl) e1 (by rw [k1, z])
        exact ⟨p', o', rfl, List.mem_filter.mpr ⟨m, by simpa using this⟩, n, ho, rc.up anti⟩
  · have un : ∀ j, isOwn (α.set i (some (.dat d)))[j]? = true → isOwn α[j]? = true := fun j hj => by
      rw [getset] at hj
      split at hj
      · split at hj <;> simp [isOwn] at hj
      · exact hj
    exact r.sep j k q (un j hj) (un k hk) sj sk
  · obtain ⟨m1, m2⟩ := List.mem_filter.mp m
    exact List.mem_filter.mpr ⟨r.sub q m1, m2⟩
  · refine List.mem_filter.mpr ⟨r.l0 q m, ?_⟩
    simp only [decide_eq_true_eq]
    rintro rfl
    exact r.d0 q m n0
theorem Rel.frzD {c : Cn} {L S : List Addr} {σ : L2.St} {H : Hp} {α : State} (r : Rel e c L S σ H α) (i : Nat) : ∃ L' S', Rel e c L' S' σ H (frzD i α) ∧ Same (fz L H) (fz L' H) := by
  unfold Ab.frzD
  split
  · rename_i xs hx
    obtain ⟨v, h1, p, o, rfl, m, n, ho, vs, rfl, rr⟩ := r.slot i _ hx
    have hn : p ∉ L.filter (· ≠ p) := fun m => by simpa using (List.mem_filter.mp m).2
    have anti : Same (fz L H) (fz (L.filter (· ≠ p)) H) := fz_anti fun a m => (List.mem_filter.mp m).1
    exact ⟨_, _, r.frz (d := .lst xs) hx h1 n ⟨p, vs, rfl, .inl (.inl (fz_new ⟨hn, r.nh p (r.sub p m)⟩ ho)), rr.up anti⟩, anti⟩
  · rename_i x fs hx
    obtain ⟨v, h1, p, o, rfl, m, n, ho, dx, gs, rfl, rr⟩ := r.slot i _ hx
    have hn : p ∉ L.filter (· ≠ p) := fun m => by simpa using (List.mem_filter.mp m).2
    have anti : Same (fz L H) (fz (L.filter (· ≠ p)) H) := fz_anti fun a m => (List.mem_filter.mp m).1
    exact ⟨_, _, r.frz (d := .ins x fs) hx h1 n ⟨p, dx, gs, rfl, fz_new ⟨hn, r.nh p (r.sub p m)⟩ ho, RepF.mono anti _ _ rr⟩, anti⟩
  · exact ⟨L, S, r, Same.refl _⟩
def sFrz (i : Nat) (s : State → Out) : State → Out := fun α => s (frzD i α)
theorem st_frz (i : Nat) (h : Sts e E ts s) : Sts e E ts (sFrz i s) := fun c L S σ H α D R k => by
  obtain ⟨L', S', r, a⟩ := R.frzD i
  exact h c L' S' σ H _ D r (OutOk.mono a k)

/-! ### targets -/
theorem wipe_get {σ : L2.St} {j : Nat} : ∀ {vs : List Nat}, (wipe σ vs)[j]? = if j ∈ vs then (if j < σ.length then some none else none) else σ[j]?
  | [] => by simp [wipe]
  | v :: vs => by
    unfold wipe
    rw [getset, wipe_length, wipe_get (vs := vs)]
    by_cases e1 : v = j
    · subst e1; simp
    · rw [if_neg e1]
      have : (j ∈ v :: vs) ↔ j ∈ vs := by simp only [List.mem_cons, show ¬ j = v from fun z => e1 z.symm, false_or]
      simp only [this]
theorem wipe_ext {σ σ' : L2.St} {vs : List Nat} (hl : σ'.length = σ.length) (h : ∀ j, j ∉ vs → σ'[j]? = σ[j]?) : wipe σ' vs = wipe σ vs := by
  apply List.ext_getElem?
  intro j
  rw [wipe_get, wipe_get, hl]
  split
  · rfl
  · exact h j (by assumption)
/-- js: the places that it may store to -/
def Etg (e : En) (g : TG) (gt : D → State → Option State) (js : List Nat) : Prop := ∀ c L S σ H α x v α', Rel e c L S σ H α → Rep e (fz L H) x v → gt x α = some α' → ∀ Q : L2.St → Hp → Prop, (∀ σ', σ'.length = σ.length → (∀ j, j ∉ js → σ'[j]? = σ[j]?) → Rel e c L S σ' H α' → Q σ' H) → g v σ H Q
def gN (i : Nat) : D → State → Option State := fun x α => some (α.set i (some (.dat x)))
theorem eg_name (i : Nat) : Etg e (gName i) (gN i) [i] := fun c L S σ H α x v α' R r q Q k => by
  cases q
  exact k _ (List.length_set ..) (fun j hj => by rw [getset, if_neg (by simpa using fun z => hj (by simp [z]))]) (R.setD r)
def Etgs (e : En) (g : TGs) (gt : List D → State → Option State) (js : List Nat) : Prop := ∀ c L S σ H α x v α', Rel e c L S σ H α → Reps e (fz L H) x v → gt x α = some α' → ∀ Q : L2.St → Hp → Prop, (∀ σ', σ'.length = σ.length → (∀ j, j ∉ js → σ'[j]? = σ[j]?) → Rel e c L S σ' H α' → Q σ' H) → g v σ H Q
def gsN : List D → State → Option State := fun xs α => match xs with | [] => some α | _ => none
theorem egs_nil : Etgs e gNil gsN [] := fun c L S σ H α x v α' R r q Q k => by
  unfold gsN at q
  split at q
  · cases q; cases r; exact ⟨rfl, k σ rfl (fun _ _ => rfl) R⟩
  · cases q
def gsC (gt : D → State → Option State) (gs : List D → State → Option State) : List D → State → Option State := fun xs α => match xs with | x :: r => bnd (gt x α) (gs r) | [] => none
theorem egs_cons {g : TG} {gs : TGs} {gt : D → State → Option State} {gst : List D → State → Option State} {js ks : List Nat} (h : Etg e g gt js) (hs : Etgs e gs gst ks) : Etgs e (gCons g gs) (gsC gt gst) (js ++ ks) := fun c L S σ H α x v α' R r q Q k => by
  unfold gsC at q
  split at q
  · rename_i x xs
    obtain ⟨v1, vs, rfl, r1, r2⟩ := r
    obtain ⟨β, h1, h2⟩ := bnd_some q
    exact ⟨v1, vs, rfl, h c L S σ H α x v1 β R r1 h1 _ fun σ' hl hj R' => hs c L S σ' H β xs vs α' R' r2 h2 Q fun σ2 hl2 hj2 R2 => k σ2 (hl2.trans hl) (fun j hn => (hj2 j fun z => hn (List.mem_append_right _ z)).trans (hj j fun z => hn (List.mem_append_left _ z))) R2⟩
  · cases q
def gT (n : Nat) (gst : List D → State → Option State) : D → State → Option State := fun x α => match x with | .tup xs => if xs.length = n then gst xs α else none | _ => none
theorem eg_tup {n : Nat} {gs : TGs} {gst : List D → State → Option State} {js : List Nat} (hs : Etgs e gs gst js) : Etg e (gTup e.K n gs) (gT n gst) js := fun c L S σ H α x v α' R r q Q k => by
  unfold gT at q
  split at q
  · split at q
    · rename_i hn
      obtain ⟨a, vs, rfl, r1, r2⟩ := r
      exact ⟨a, vs, rfl, same_t fz_le r1, by rw [r2.len]; exact hn, hs c L S σ H α _ vs α' R r2 q Q k⟩
    · cases q
  · cases q
/-- a, b = e by a target -/
def sAsgT (gt : D → State → Option State) (s : State → Res D) : State → Out := fun α => match s α with | .ok d α' => (match gt d α' with | some β => .nxt β | none => .bad) | .exc x => .exc x | .bad => .bad
theorem st_asgT {g : TG} {gt : D → State → Option State} {s : State → Res D} {js : List Nat} (hg : Etg e g gt js) (h : Eve e E te s) : Sts e E (tAsg te g) (sAsgT gt s) := fun c L S σ H α D R k => by
  unfold sAsgT at k
  refine h c L S σ H α R _ (fun d α' hs v H' m r1 r2 => ?_) (fun x hx => by rw [hx] at k; exact k) (fun hb => by rw [hb] at k; exact k)
  rw [hs] at k
  cases hg' : gt d α' with
  | none => simp only [hg'] at k; exact k.elim
  | some β => simp only [hg'] at k; exact hg c L S σ H' α' d v β r1 r2 hg' _ fun σ' _ _ r => k L S σ' H' (fz_mod m R.sub) r

/-! ### what a loop walks -/
def Walks (e : En) (J : It) (F : Hp) (xs : List D) : Prop := ∀ L H, Same F (fz L H) → Dom L H → ∀ i, (i < xs.length → J.go i H) ∧ (xs.length ≤ i → J.stop i H) ∧ ∀ x v H', xs[i]? = some x → J.yld i H v H' → Sm H H' ∧ Rep e (fz L H') x v
def Evi (e : En) (wi : TI) (s : State → Option (List D)) : Prop := ∀ c L S σ H α xs, Rel e c L S σ H α → s α = some xs → ∀ R : It → Hp → Prop, (∀ J H', Sm H H' → Walks e J (fz L H') xs → R J H') → wi σ H R
theorem ei_list {sq : State → Option (List D)} (h : Evp e te sq') (hq : sq = qL sq') : Evi e (iList e.K te) sq := fun c L S σ H α xs R q W k => by
  subst hq
  unfold qL at q
  split at q
  · rename_i ys hs
    cases q
    refine h c L S σ H α _ R hs _ fun v H' e1 ⟨a, vs, e2, r1, r2⟩ => ?_
    subst e2
    refine ⟨a, rfl, ⟨vs, fz_le.seq r1⟩, k _ H' e1 fun L2 H2 s2 _ i => ?_⟩
    have t2 : SqL e.K H2 a vs := fz_le.seq (s2.seq r1)
    refine ⟨fun hi => ⟨vs, vs[i]'(by rw [r2.len]; exact hi), t2, List.getElem?_eq_getElem _⟩, fun hi => ⟨vs, t2, by rw [r2.len]; exact hi⟩, fun x v H3 hx ⟨e3, y⟩ => ?_⟩
    subst e3
    refine ⟨Sm.refl _, ?_⟩
    obtain ⟨v', h1, h2⟩ := r2.get hx
    have := y vs t2
    rw [h1] at this; cases this
    exact h2.up s2
  · cases q
theorem ei_tup {sq : State → Option (List D)} (h : Evp e te sq') (hq : sq = qT sq') : Evi e (iTup e.K te) sq := fun c L S σ H α xs R q W k => by
  subst hq
  unfold qT at q
  split at q
  · rename_i ys hs
    cases q
    refine h c L S σ H α _ R hs _ fun v H' e1 ⟨a, vs, e2, r1, r2⟩ => ?_
    subst e2
    refine ⟨a, rfl, ⟨vs, same_t fz_le r1⟩, k _ H' e1 fun L2 H2 s2 _ i => ?_⟩
    have t2 : SqT e.K H2 a vs := same_t fz_le (same_t s2 r1)
    refine ⟨fun hi => ⟨vs, vs[i]'(by rw [r2.len]; exact hi), t2, List.getElem?_eq_getElem _⟩, fun hi => ⟨vs, t2, by rw [r2.len]; exact hi⟩, fun x v H3 hx ⟨e3, y⟩ => ?_⟩
    subst e3
    refine ⟨Sm.refl _, ?_⟩
    obtain ⟨v', h1, h2⟩ := r2.get hx
    have := y vs t2
    rw [h1] at this; cases this
    exact h2.up s2
  · cases q
theorem ei_listL {sq : State → Option (List D)} (h : Evl e te sq) : Evi e (iList e.K te) sq := fun c L S σ H α xs R q W k => by
  have h' := el_d h
  have hx : xL sq α = some (.lst xs) := by unfold xL; rw [q]; rfl
  exact ei_list (sq := qL (xL sq)) h' rfl c L S σ H α xs R (by unfold qL; rw [hx]) W k
def rngD (lo : Int) (n : Nat) : List D := (List.range n).map fun (k : Nat) => D.int (lo + (k : Int))
theorem walks_rng {lo : Int} {n : Nat} {F : Hp} : Walks e (Itr lo n) F (rngD lo n) := fun L H s2 _ i => by
  refine ⟨fun hi => by show i < n; simpa [rngD] using hi, fun hi => by show n ≤ i; simpa [rngD] using hi, fun x v H3 hx ⟨e3, y⟩ => ?_⟩
  subst e3 y
  refine ⟨Sm.refl _, ?_⟩
  unfold rngD at hx
  rw [List.getElem?_map] at hx
  cases hr : (List.range n)[i]? with
  | none => rw [hr] at hx; cases hx
  | some j =>
    rw [hr] at hx
    cases hx
    obtain ⟨hlt, hj⟩ := List.getElem?_eq_some_iff.mp hr
    rw [List.getElem_range] at hj
    subst hj
    rfl
def rngOk (n : Int) : Bool := decide (-(2 ^ 62) ≤ n ∧ n < 2 ^ 62)
theorem rngOk_iff {n : Int} : rngOk n = true ↔ (-(2 ^ 62) ≤ n ∧ n < 2 ^ 62) := by unfold rngOk; simp
def xRng1 (sr : State → Option (List D)) : State → Option (List D) := fun α => match sr α with | some [.int n] => if rngOk n = true then some (rngD 0 n.toNat) else none | _ => none
theorem ei_rng1 {tr : TA} {sr : State → Option (List D)} (h : Eva e tr sr) : Evi e (iRng1 tr) (xRng1 sr) := fun c L S σ H α xs R q W k => by
  unfold xRng1 at q
  split at q
  · rename_i n hs
    split at q
    · rename_i hn
      cases q
      refine h c L S σ H α _ R hs _ fun vs H' e1 ⟨v, _, e2, r1, r2⟩ => ?_
      cases r1; cases r2; subst e2
      have hn := rngOk_iff.mp hn
      exact ⟨n, rfl, hn.1, hn.2, k _ H' e1 walks_rng⟩
    · cases q
  · cases q
def xRng2 (sr : State → Option (List D)) : State → Option (List D) := fun α => match sr α with | some [.int a, .int n] => if rngOk a = true ∧ rngOk n = true then some (rngD a (n - a).toNat) else none | _ => none
theorem ei_rng2 {tr : TA} {sr : State → Option (List D)} (h : Eva e tr sr) : Evi e (iRng2 tr) (xRng2 sr) := fun c L S σ H α xs R q W k => by
  unfold xRng2 at q
  split at q
  · rename_i a n hs
    split at q
    · rename_i hn
      cases q
      refine h c L S σ H α _ R hs _ fun vs H' e1 ⟨v, _, e2, r1, ⟨v', _, e3, r2, r3⟩⟩ => ?_
      cases r1; cases r2; cases r3; subst e3; subst e2
      have ha := rngOk_iff.mp hn.1
      have hb := rngOk_iff.mp hn.2
      exact ⟨a, n, rfl, ⟨ha.1, ha.2, hb.1, hb.2⟩, k _ H' e1 walks_rng⟩
    · cases q
  · cases q

/-! ### for, while -/
def loopF (gt : D → State → Option State) (body : State → Out) : List D → State → Out
  | [], α => .nxt α
  | x :: xs, α => match gt x α with
    | none => .bad
    | some β => match body β with
      | .nxt α' => loopF gt body xs α'
      | .cnt α' => loopF gt body xs α'
      | .brk α' => .nxt α'
      | o => o
def sFor (sx : State → Option (List D)) (gt : D → State → Option State) (body : State → Out) : State → Out := fun α => match sx α with | some xs => loopF gt body xs α | none => .bad
theorem st_for {wi : TI} {g : TG} {sx : State → Option (List D)} {gt : D → State → Option State} {js : List Nat} (hi : Evi e wi sx) (hg : Etg e g gt js) (hb : Sts e E ts s) : Sts e E (tFor wi g ts) (sFor sx gt s) := fun c L S σ H α D R k => by
  unfold sFor at k
  cases hx : sx α with
  | none => rw [hx] at k; exact k.elim
  | some xs =>
    rw [hx] at k
    refine hi c L S σ H α xs R hx _ fun J H1 e1 wk => ?_
    refine ⟨fun i m σ' H' => m = xs.length - i ∧ i ≤ xs.length ∧ ∃ L' S' α', Rel e c L' S' σ' H' α' ∧ Same (fz L H1) (fz L' H') ∧ OutOk e E c D (fz L' H') (loopF gt s (xs.drop i) α'),
      ⟨xs.length, by simp, Nat.zero_le _, L, S, α, R.up e1, Same.refl _, OutOk.mono (fz_same e1) k⟩, ?_⟩
    rintro i m σ2 H2 ⟨rfl, hi, L2, S2, α2, R2, s2, k2⟩
    obtain ⟨w1, w2, w3⟩ := wk L2 H2 s2 R2.dm i
    by_cases hlt : i < xs.length
    · refine .inr ⟨w1 hlt, fun σ' H' => ∃ L' S' α', Rel e c L' S' σ' H' α' ∧ Same (fz L H1) (fz L' H') ∧ OutOk e E c D (fz L' H') (loopF gt s (xs.drop (i + 1)) α'), fun σ' H' h => ⟨xs.length - (i + 1), by omega, rfl, hlt, h⟩, fun v H3 y => ?_⟩
      obtain ⟨e3, r3⟩ := w3 xs[i] v H3 (List.getElem?_eq_getElem hlt) y
      rw [List.drop_eq_getElem_cons hlt] at k2
      unfold loopF at k2
      cases hgt : gt xs[i] α2 with
      | none => rw [hgt] at k2; exact k2.elim
      | some β =>
        rw [hgt] at k2
        have R3 := R2.up e3
        refine hg c L2 S2 σ2 H3 α2 xs[i] v β R3 r3 hgt _ fun σ4 _ _ R4 => ?_
        have f3 : Same (fz L2 H2) (fz L2 H3) := fz_same e3
        refine hb c L2 S2 σ4 H3 β _ R4 ?_
        dsimp only at k2
        cases hs : s β with
        | nxt β' => rw [hs] at k2; exact fun L5 S5 σ5 H5 a5 r5 => ⟨L5, S5, β', r5, s2.trans (f3.trans a5), OutOk.mono (f3.trans a5) k2⟩
        | cnt β' => rw [hs] at k2; exact fun L5 S5 σ5 H5 a5 r5 => ⟨L5, S5, β', r5, s2.trans (f3.trans a5), OutOk.mono (f3.trans a5) k2⟩
        | brk β' => rw [hs] at k2; exact fun L5 S5 σ5 H5 a5 r5 => k2 L5 S5 σ5 H5 (f3.trans a5) r5
        | ret r β' => rw [hs] at k2; exact k2
        | exc x => rw [hs] at k2; exact k2
        | bad => rw [hs] at k2; exact k2
    · have e2 : i = xs.length := by omega
      subst e2
      rw [List.drop_length] at k2
      exact .inl ⟨w2 (Nat.le_refl _), k2 L2 S2 σ2 H2 (Same.refl _) R2⟩
def loopW (t : State → Res Bool) (body : State → Out) : Nat → State → Out
  | 0, _ => .bad
  | n + 1, α => match t α with
    | .ok true α' => (match body α' with
      | .nxt β => loopW t body n β
      | .cnt β => loopW t body n β
      | .brk β => .nxt β
      | o => o)
    | .ok false α' => .nxt α'
    | .exc x => .exc x
    | .bad => .bad
theorem st_while {st : State → Res Bool} (fuel : State → Nat) (ht : EvtE e E t st) (hb : Sts e E ts s) : Sts e E (tWhile t ts) (fun α => loopW st s (fuel α) α) := fun c L S σ H α D R k => by
  refine ⟨fun m σ' H' => ∃ L' S' α', Rel e c L' S' σ' H' α' ∧ Same (fz L H) (fz L' H') ∧ OutOk e E c D (fz L' H') (loopW st s m α'), ⟨_, L, S, α, R, Same.refl _, k⟩, ?_⟩
  rintro m σ2 H2 ⟨L2, S2, α2, R2, s2, k2⟩
  cases m with
  | zero => exact k2.elim
  | succ n =>
    unfold loopW at k2
    refine ht c L2 S2 σ2 H2 α2 R2 _ (fun b α' hs H' m r1 => ?_) (fun x hx => by rw [hx] at k2; exact k2) (fun hb => by rw [hb] at k2; exact k2)
    rw [hs] at k2
    have f3 := fz_mod m R2.sub
    cases b with
    | false => exact k2 L2 S2 σ2 H' f3 r1
    | true =>
      refine ⟨fun σ' H' => ∃ L' S' α', Rel e c L' S' σ' H' α' ∧ Same (fz L H) (fz L' H') ∧ OutOk e E c D (fz L' H') (loopW st s n α'), fun σ' H' h => ⟨n, Nat.lt_succ_self _, h⟩, ?_⟩
      refine hb c L2 S2 σ2 H' α' _ r1 ?_
      dsimp only at k2
      cases hs : s α' with
      | nxt β' => rw [hs] at k2; exact fun L5 S5 σ5 H5 a5 r5 => ⟨L5, S5, β', r5, s2.trans (f3.trans a5), OutOk.mono (f3.trans a5) k2⟩
      | cnt β' => rw [hs] at k2; exact fun L5 S5 σ5 H5 a5 r5 => ⟨L5, S5, β', r5, s2.trans (f3.trans a5), OutOk.mono (f3.trans a5) k2⟩
      | brk β' => rw [hs] at k2; exact fun L5 S5 σ5 H5 a5 r5 => k2 L5 S5 σ5 H5 (f3.trans a5) r5
      | ret r β' => rw [hs] at k2; exact k2
      | exc x => rw [hs] at k2; exact k2
      | bad => rw [hs] at k2; exact k2
end
end Ab
end
section
set_option maxRecDepth 100000
set_option maxHeartbeats 1000000
namespace Ab
open PySem L2 PyProof.Rows PySem.Spec
variable [Hd]
section
variable {e : En} {E : XK} {te ta tb : TE} {ts tu tw : TS} {t : TT} {s u w : State → Out}

/-- an owned object is changed by a callee -/
theorem Rel.mutM {c : Cn} {L S : List Addr} {σ : L2.St} {H H' : Hp} {α : State} (r : Rel e c L S σ H α) {i : Nat} {p : Addr} {o : HO} {ct ct' : Ct} (h : ctOf α[i]? = some ct) (hp : σ[i]? = some (some (.ref p))) (m : Mod [p] H H') (ho : H' p = some o) (rc : RepC e (fz L H') ct' o) :
    Rel e c L S σ H' (putC α i ct') ∧ Mod S H H' := by
  obtain ⟨p', o', hp', mS, ho', _⟩ := r.at h
  rw [hp] at hp'; cases hp'
  have mL := r.sub p mS
  have m' : ∀ a u, H a = some u → a ≠ p → ¬ Hd.hid a → H' a = some u := fun a u q n => m.k a u q (by simpa using n)
  have fzs : Same (fz L H) (fz L H') := fz_mut fun a u q n => m' a u q fun z => n (by rw [z]; exact mL)
  have md : Mod S H H' := ⟨fun a u q n => m' a u q fun z => n (by rw [z]; exact mS), m.i⟩
  refine ⟨⟨fun j a q => ?_, fun j k q hj hk sj sk => r.sep j k q (putC_own hj) (putC_own hk) sj sk, m.i r.inv, r.h1, r.nh, fun q m2 z => ?_, r.sub, r.l0, r.l1, r.s1, ?_, r.s0, r.d0, by rw [putC_len]; exact r.len⟩, md⟩
  · by_cases e1 : j = i
    · subst e1
      cases ha : α[j]? with
      | none => rw [ha] at h; cases h
      | some x =>
        cases x with
        | none => rw [ha] at h; cases h
        | some b =>
          have hl : j < α.length := (List.getElem?_eq_some_iff.mp ha).1
          obtain ⟨v, h1, h2⟩ := r.slot j b ha
          rw [hp] at h1; cases h1
          unfold putC at q
          cases b with
          | dat d => rw [ha] at h; cases h
          | adr _ => rw [ha] at h; cases h
          | own c1 =>
            rw [ha] at q
            rw [show (α.set j (some (A.own ct')))[j]? = some (some (A.own ct')) by rw [getset, if_pos rfl, if_pos hl]] at q
            cases q
            obtain ⟨p', o2, q2, m, n, ho2, _⟩ := h2
            cases q2
            exact ⟨_, hp, p, o, rfl, m, n, ho, rc⟩
          | inn c1 =>
            rw [ha] at q
            rw [show (α.set j (some (A.inn ct')))[j]? = some (some (A.inn ct')) by rw [getset, if_pos rfl, if_pos hl]] at q
            cases q
            obtain ⟨p', o2, q2, m, n, ho2, _⟩ := h2
            cases q2
            exact ⟨_, hp, p, o, rfl, m, n, ho, rc⟩
    · have qa : α[j]? = some (some a) := by
        unfold putC at q
        split at q
        · rw [getset, if_neg (fun z => e1 z.symm)] at q; exact q
        · rw [getset, if_neg (fun z => e1 z.symm)] at q; exact q
        · exact q
      obtain ⟨v, h1, h2⟩ := r.slot j a qa
      refine ⟨v, h1, ?_⟩
      have hne : isOwn α[j]? = true → v ≠ .ref p := fun ho z => e1 (r.sep j i p ho (isOwn_ct h) (by rw [h1, z]) hp)
      cases a with
      | dat d => exact Rep.up (d := d) h2 fzs
      | adr _ => exact h2
      | own c1 =>
        obtain ⟨p', o2, q2, m, n, ho2, rc2⟩ := h2
        subst q2
        exact ⟨p', o2, rfl, m, n, m' _ _ ho2 (fun z => hne (by rw [qa]; rfl) (by rw [z])) (r.nh _ (r.sub _ m)), rc2.up fzs⟩
      | inn c1 =>
        obtain ⟨p', o2, q2, m, n, ho2, rc2⟩ := h2
        subst q2
        exact ⟨p', o2, rfl, m, n, m' _ _ ho2 (fun z => hne (by rw [qa]; rfl) (by rw [z])) (r.nh _ (r.sub _ m)), rc2.up fzs⟩
  · by_cases e1 : q = p
    · subst e1; rw [ho] at z; cases z
    · cases qh : H q with
      | none => exact r.dom q m2 qh
      | some o2 => rw [m' q o2 qh e1 (r.nh q m2)] at z; cases z
  · refine ⟨fun a u q n nh => ?_, fun h => m.i (r.md.i h)⟩
    have hne : a ≠ p := by
      rintro rfl
      rcases r.s1 a mS with z | z
      · exact n z
      · rw [q] at z; cases z
    exact m' a u (r.md.k a u q n nh) hne nh

/-! ### lists that are owned -/
def isL (x : Option (Option A)) : Bool := match ctOf x with | some (.lst _) => true | _ => false
def sApp (i : Nat) (s : State → Res D) : State → Out := fun α => if isL α[i]? = true then (match s α with
  | .ok d α' => (match ctOf α'[i]? with | some (.lst xs) => if xs.length < 100000 then .nxt (putC α' i (.lst (xs ++ [d]))) else .bad | _ => .bad)
  | .exc x => .exc x | .bad => .bad) else .bad
theorem isL_some {x : Option (Option A)} (h : isL x = true) : ∃ xs, ctOf x = some (.lst xs) := by
  unfold isL at h
  split at h
  · exact ⟨_, by assumption⟩
  · cases h
theorem st_app {i : Nat} {s : State → Res D} (h : Eve e E te s) : Sts e E (tDrop (tBM e.K "list" rAppend (tVar i) (tCons te tNil))) (sApp i s) := fun c L S σ H α D R k => by
  unfold sApp at k
  split at k
  · rename_i hi
    obtain ⟨ys, hy⟩ := isL_some hi
    obtain ⟨p, o, h1, m1, ho, vs, rfl, r1⟩ := R.at hy
    refine ⟨.ref p, h1, .inl ⟨rfl, vs, SqL.of ho⟩, ?_⟩
    refine h c L S σ H α R _ (fun d α' hs v H' m R' rv => ?_) (fun x hx => by rw [hx] at k; exact k) (fun hb => by rw [hb] at k; exact k)
    rw [hs] at k
    dsimp only at k
    split at k
    · rename_i xs hx
      split at k
      · rename_i hz
        obtain ⟨p', o', h1', m1', ho', vs', rfl, r1'⟩ := R'.at hx
        rw [h1] at h1'; cases h1'
        refine ⟨p, vs', v, rfl, rfl, ho', by rw [r1'.len]; exact sz_lt hz, ?_⟩
        have fzs : Same (fz L H') (fz L H') := Same.refl _
        obtain ⟨R2, m2⟩ := R'.mut hx h1 (o := .lst (vs' ++ [v])) (ct' := .lst (xs ++ [d])) ⟨_, rfl, r1'.append (Reps.cons rv Reps.nil)⟩
        exact k L S σ _ ((fz_mod m R.sub).trans (fz_mod m2 R'.sub)) R2
      · exact k.elim
    · exact k.elim
  · exact k.elim
def xPop (i : Nat) : State → Res D := fun α => match ctOf α[i]? with | some (.lst xs) => (match xs.getLast? with | some d => .ok d (putC α i (.lst xs.dropLast)) | none => .bad) | _ => .bad
theorem Reps.dropLast : ∀ {ds : List D} {vs : List V} {F : Hp}, Reps e F ds vs → Reps e F ds.dropLast vs.dropLast := fun {ds vs F} r => by
  rw [List.dropLast_eq_take, List.dropLast_eq_take, r.len]
  exact r.take _
theorem ee_pop (i : Nat) : Eve e E (tBM0 e.K "list" rPop (tVar i)) (xPop i) := fun c L S σ H α R Q k kx nb => by
  unfold xPop at k nb
  cases hc : ctOf α[i]? with
  | none => rw [hc] at nb; exact absurd rfl nb
  | some ct =>
    cases ct with
    | obj x fs => rw [hc] at nb; exact absurd rfl nb
    | dic kvs => rw [hc] at nb; exact absurd rfl nb
    | lst xs =>
      rw [hc] at k nb
      dsimp only at k nb
      cases hl : xs.getLast? with
      | none => rw [hl] at nb; exact absurd rfl nb
      | some d =>
        rw [hl] at k
        obtain ⟨p, o, h1, m1, ho, vs, rfl, r1⟩ := R.at hc
        rw [List.getLast?_eq_getElem?] at hl
        obtain ⟨v, hv, rv⟩ := r1.get hl
        refine ⟨.ref p, h1, .inl ⟨rfl, vs, SqL.of ho⟩, p, vs, v, rfl, rfl, ho, by rw [r1.len]; exact hv, ?_⟩
        obtain ⟨R2, m2⟩ := R.mut hc h1 (o := .lst vs.dropLast) (ct' := .lst xs.dropLast) ⟨_, rfl, r1.dropLast⟩
        exact k d _ rfl v _ m2 R2 (rv.up (fz_mod m2 R.sub))
/-- x[k] = e -/
def sSetI (i : Nat) (s : State → Res D) (sk : State → Option D) : State → Out := fun α => match s α with
  | .ok d α' => (match sk α', ctOf α'[i]? with | some (.int z), some (.lst xs) => (match ixN xs.length z with | some j => .nxt (putC α' i (.lst (xs.set j d))) | none => .bad) | _, _ => .bad)
  | .exc x => .exc x | .bad => .bad
theorem st_setI {i : Nat} {s : State → Res D} {sk : State → Option D} (h : Eve e E te s) (hk : Evp e tb sk) : Sts e E (tAsg te (gSub (tVar i) tb rSetL)) (sSetI i s sk) := fun c L S σ H α D R k => by
  unfold sSetI at k
  refine h c L S σ H α R _ (fun d α' hs v H' m R' rv => ?_) (fun x hx => by rw [hx] at k; exact k) (fun hb => by rw [hb] at k; exact k)
  rw [hs] at k
  dsimp only at k
  split at k
  · rename_i z xs hz hx
    split at k
    · rename_i j hj
      obtain ⟨p, o, h1, m1, ho, vs, rfl, r1⟩ := R'.at hx
      refine ⟨.ref p, h1, ?_⟩
      refine hk c L S σ H' α' _ R' hz _ fun v2 H2 e2 r2 => ?_
      cases r2
      refine ⟨p, vs, z, j, rfl, rfl, e2.k _ _ ho (R'.nh p (R'.sub p m1)), by rw [r1.len]; exact hj, ?_⟩
      have R2 := R'.up e2
      obtain ⟨R3, m3⟩ := R2.mut hx h1 (o := .lst (vs.set j v)) (ct' := .lst (xs.set j d)) ⟨_, rfl, (r1.set j rv).up (fz_same e2)⟩
      exact k L S σ _ ((fz_mod m R.sub).trans ((fz_same e2).trans (fz_mod m3 R2.sub))) R3
    · exact k.elim
  · exact k.elim

/-! ### arguments with side effects, calls -/
def anil : State → Res (List Arg) := fun α => .ok [] α
theorem eae_nil : EvaE e E tNil anil := fun c L S σ H α R Q k kx nb => k [] α rfl [] H Mod.refl R rfl
def acons (s : State → Res D) (sr : State → Res (List Arg)) : State → Res (List Arg) := fun α => match s α with
  | .ok d α1 => (match sr α1 with | .ok as α2 => .ok (.dat d :: as) α2 | .exc x => .exc x | .bad => .bad)
  | .exc x => .exc x | .bad => .bad
theorem eae_cons {tr : TA} {s : State → Res D} {sr : State → Res (List Arg)} (h : Eve e E te s) (hr : EvaE e E tr sr) : EvaE e E (tCons te tr) (acons s sr) := fun c L S σ H α R Q k kx nb => by
  unfold acons at k kx nb
  refine h c L S σ H α R _ (fun d α1 hs v H1 m1 R1 r1 => ?_) (fun x hx => kx x (by rw [hx])) (fun hb => nb (by rw [hb]))
  rw [hs] at k kx nb
  dsimp only at k kx nb
  refine hr c L S σ H1 α1 R1 _ (fun as α2 hs2 vs H2 m2 R2 r2 => ?_) (fun x hx => kx x (by rw [hx])) (fun hb => nb (by rw [hb]))
  rw [hs2] at k
  exact k _ α2 rfl _ H2 (m1.trans m2) R2 ⟨v, vs, rfl, Rep.up (d := d) r1 (fz_mod m2 R1.sub), r2⟩
def aslot (i : Nat) (sr : State → Res (List Arg)) : State → Res (List Arg) := fun α => if (ctOf α[i]?).isSome = true then (match sr α with | .ok as α2 => .ok (.slot i :: as) α2 | .exc x => .exc x | .bad => .bad) else .bad
theorem eae_slot (i : Nat) {tr : TA} {sr : State → Res (List Arg)} (hr : EvaE e E tr sr) : EvaE e E (tCons (tVar i) tr) (aslot i sr) := fun c L S σ H α R Q k kx nb => by
  unfold aslot at k kx nb
  split at nb
  · rename_i hi
    rw [if_pos hi] at k kx
    obtain ⟨ct, hct⟩ := Option.isSome_iff_exists.mp hi
    obtain ⟨p, o, h1, m1, ho, r1⟩ := R.at hct
    refine ⟨.ref p, h1, ?_⟩
    refine hr c L S σ H α R _ (fun as α2 hs2 vs H2 m2 R2 r2 => ?_) (fun x hx => kx x (by rw [hx])) (fun hb => nb (by rw [hb]))
    rw [hs2] at k
    exact k _ α2 rfl _ H2 m2 R2 ⟨.ref p, vs, rfl, h1, r2⟩
  · exact absurd rfl nb
def datas : List Arg → Option (List D)
  | [] => some []
  | .dat d :: r => (datas r).map (d :: ·)
  | .slot _ :: _ => none
theorem datas_rep {L : List Addr} {σ : L2.St} {H : Hp} : ∀ {as : List Arg} {vs : List V} {ds : List D}, datas as = some ds → ArgsRep e L σ H as vs → Reps e (fz L H) ds vs
  | [], _, _, h, r => by cases h; cases r; exact Reps.nil
  | .dat d :: as, _, _, h, ⟨v, w, q, r1, r2⟩ => by
    unfold datas at h
    cases hs : datas as with
    | none => rw [hs] at h; cases h
    | some ds => rw [hs] at h; cases h; subst q; exact Reps.cons r1 (datas_rep hs r2)
  | .slot _ :: _, _, _, h, _ => by cases h
def rCall (m : List D → Option D) (sr : State → Res (List Arg)) : State → Res D := fun α => match sr α with
  | .ok as α1 => (match bnd (datas as) m with | some d => .ok d α1 | none => .bad)
  | .exc x => .exc x | .bad => .bad
/-- a call without side effects of its own, of arguments with such -/
theorem ee_call {E' : XK} {m : List D → Option D} {tr : TA} {sr : State → Res (List Arg)} (h : EvaE e E tr sr) : Eve e E (tCall (spP e m) [] E' tr) (rCall m sr) := fun c L S σ H α R Q k kx nb => by
  unfold rCall at k kx nb
  refine h c L S σ H α R _ (fun as α1 hs vs H1 m1 R1 r1 => ?_) (fun x hx => kx x (by rw [hx])) (fun hb => nb (by rw [hb]))
  rw [hs] at k nb
  dsimp only at k nb
  cases hb : bnd (datas as) m with
  | none => rw [hb] at nb; exact absurd rfl nb
  | some d =>
    rw [hb] at k
    obtain ⟨ds, h1, h2⟩ := bnd_some hb
    exact ⟨L, ds, d, R1.dm, by rw [List.append_nil]; exact datas_rep h1 r1, h2, fun v H' e2 r2 => k d α1 rfl v H' (m1.trans (.of e2)) (R1.up e2) r2⟩
/-- displays -/
def rTup (sr : State → Res (List Arg)) : State → Res D := fun α => match sr α with
  | .ok as α1 => (match datas as with | some ds => if ds.length ≤ 100000 then .ok (.tup ds) α1 else .bad | none => .bad)
  | .exc x => .exc x | .bad => .bad
theorem ee_tup {tr : TA} {sr : State → Res (List Arg)} (h : EvaE e E tr sr) : Eve e E (tTup tr) (rTup sr) := fun c L S σ H α R Q k kx nb => by
  unfold rTup at k kx nb
  refine h c L S σ H α R _ (fun as α1 hs vs H1 m1 R1 r1 => ?_) (fun x hx => kx x (by rw [hx])) (fun hb => nb (by rw [hb]))
  rw [hs] at k nb
  dsimp only at k nb
  cases hb : datas as with
  | none => rw [hb] at nb; exact absurd rfl nb
  | some ds =>
    rw [hb] at k nb
    dsimp only at k nb
    split at nb
    · rename_i hz
      rw [if_pos hz] at k
      have r2 := datas_rep hb r1
      refine ⟨by rw [r2.len]; exact sz_of hz, fun p hp => ?_⟩
      have s2 : Sm H1 (upd H1 p (.tup vs)) := .of fun b o z => by rw [upd_ne (ne_of_none z hp)]; exact z
      exact k _ α1 rfl _ _ (m1.trans (.of s2)) (R1.up s2) ⟨p, vs, rfl, .inl (.inl (fz_new (fresh_nL R1.dm hp) upd_same)), r2.up (fz_same s2)⟩
    · exact absurd rfl nb

/-! ### a def that changes an object handed in -/
inductive MRes where
  | ok (r : RetV) (as : List A) | exc (x : Exn) | bad
def AsRep (e : En) (L S : List Addr) (H : Hp) : List A → List V → Prop
  | [], vs => vs = []
  | a :: r, vs => ∃ v w, vs = v :: w ∧ (match a with
    | .dat d => Rep e (fz L H) d v
    | .inn ct => ∃ p o, v = .ref p ∧ p ∈ S ∧ H p = some o ∧ RepC e (fz L H) ct o
    | .own _ => False
    | .adr _ => False) ∧ AsRep e L S H r w
def innCount : List A → Nat
  | [] => 0
  | .inn _ :: r => innCount r + 1
  | _ :: r => innCount r
/-- at most one object is handed in to be changed -/
def spM (e : En) (m : List A → MRes) : Sp := fun vs H Q E => ∃ L S as, Dom L H ∧ (∀ p ∈ S, p ∈ L) ∧ innCount as ≤ 1 ∧ AsRep e L S H as vs ∧
  (∀ r as', m as = .ok r as' → ∀ v H', Mod S H H' → AsRep e L S H' as' vs → RetRep e L H' v ⟨L, S, H, []⟩ r → Q v H') ∧
  (∀ x, m as = .exc x → ∀ cls dd H', Mod S H H' → XRep e (fz L H') H' x cls dd → (∀ p, dd = some p → H p = none) → E cls dd H') ∧ m as ≠ .bad

/-! ### a def's promise by its body -/
def ends (k : Nat) (α : State) : State := α
def inP (n k : Nat) (ds : List D) : State := ds.map (fun d => some (.dat d)) ++ List.replicate (n - k) none
def runP (n k : Nat) (s : State → Out) : List D → Option D := fun ds => if ds.length = k then (match s (inP n k ds) with
  | .ret (.dat d) _ => some d | .ret (.lst xs) _ => some (.lst xs) | .nxt _ => some .non | _ => none) else none
def runL (n k : Nat) (s : State → Out) : List D → Option (List D) := fun ds => if ds.length = k then (match s (inP n k ds) with
  | .ret (.lst xs) _ => some xs | _ => none) else none
theorem Mod.same {H H' : Hp} (h : Mod [] H H') : Sm H H' := ⟨fun a o q => h.k a o q (by simp), h.i⟩
theorem inP_rel {L : List Addr} {H : Hp} {ds : List D} {vs : List V} {N : List Str} (dm : Dom L H) (r : Reps e (fz L H) ds vs) (hk : vs.length ≤ N.length) : Rel e ⟨L, [], H, L2.start N vs⟩ L [] (L2.start N vs) H (inP N.length vs.length ds) where
  slot := fun i a q => by
    unfold inP at q
    have hl := r.len
    by_cases hi : i < ds.length
    · rw [List.getElem?_append_left (by simpa using hi), List.getElem?_map, List.getElem?_eq_getElem hi] at q
      cases q
      obtain ⟨v, h1, h2⟩ := r.get (List.getElem?_eq_getElem hi)
      refine ⟨v, ?_, h2⟩
      unfold L2.start
      rw [List.getElem?_append_left (by simp; omega), List.getElem?_map, h1]
      rfl
    · rw [List.getElem?_append_right (by simp; omega)] at q
      rw [List.getElem?_replicate] at q
      split at q <;> cases q
  sep := fun i j p hi _ _ _ => by
    unfold inP at hi
    by_cases h : i < ds.length
    · rw [List.getElem?_append_left (by simpa using h), List.getElem?_map, List.getElem?_eq_getElem h] at hi
      simp [isOwn] at hi
    · rw [List.getElem?_append_right (by simp; omega), List.getElem?_replicate] at hi
      split at hi <;> simp [isOwn] at hi
  inv := dm.inv
  h1 := fun _ => Hd.al dm.inv
  nh := dm.nh
  dom := dm.dom
  sub := fun _ h => nomatch h
  l0 := fun _ h => h
  l1 := fun _ h => .inl h
  s1 := fun _ h => nomatch h
  md := Mod.refl
  s0 := fun _ h => nomatch h
  d0 := dm.dom
  len := by
    unfold L2.start inP
    simp [r.len]
variable {P : Program} {w : World} {K : PySem.W.Frag} {mg : Str → Option Value} {base : Heap}
theorem fn_P {cls : String → Addr} {x qual : Str} {st : Stmt} {f : Addr} {fd : FuncData} {N ps : List Str} {k : Nat} (s : State → Out) (F : Fun K x qual st f fd) (S : FnScope N ps (defScope st)) {n kk : Nat} (hn : N.length = n) (hkk : ps.length = kk) (hps : kk ≤ n) {m : List D → Option D} (hmm : m = runP n kk s)
    (hbody : ∀ (cdv : Value) (A : Around) (outer : List Env) (s0 : Shared) (H : Hp) (E : XK), Room k (A.deeper (envOfC qual (defScope st) s0.heap.objs.size f cdv)) →
      ∃ t, PSs (cxOf CX0 P w K mg base N qual (defScope st) f cdv A outer s0 H E).nox (defBody st) t ∧ Sts ⟨K, cls⟩ E0 t s) : FnOk P w K mg base CX0 (k + 1) f fd ps (spP ⟨K, cls⟩ m) := by
  subst hn hkk hmm
  refine F.ok S (fun vs H Q E h => ?_) (fun cdv A outer s0 H vs Q E hr h => ?_)
  · obtain ⟨L, ds, d, dm, r, hm, q⟩ := h
    unfold runP at hm
    split at hm
    · rename_i hl
      rw [r.len, hl]
    · cases hm
  · obtain ⟨L, ds, d, dm, r, hm, q⟩ := h
    obtain ⟨t, h1, h2⟩ := hbody cdv A outer s0 H E hr
    refine ⟨t, h1, ?_⟩
    unfold runP at hm
    split at hm
    · rename_i hl
      have hvl : vs.length = ps.length := by rw [r.len, hl]
      have R := inP_rel (N := N) dm r (by omega)
      rw [hvl] at R
      refine h2 _ _ _ _ _ _ _ R ?_
      split at hm
      · rename_i d' β hs
        cases hm
        rw [hs]
        intro v L' S' σ' H' R' rr
        exact q v H' R'.md.same (Rep.mono (fz_anti R'.l0) _ _ rr)
      · rename_i xs β hs
        cases hm
        rw [hs]
        intro v L' S' σ' H' R' rr
        obtain ⟨p, us, rfl, n0, hp, r2⟩ := rr
        refine q _ H' R'.md.same ⟨p, us, rfl, .inl (.inl (fz_new (R'.n0 n0) hp)), r2.up (fz_anti fun a m => List.mem_cons_of_mem _ (R'.l0 a m))⟩
      · rename_i β hs
        cases hm
        rw [hs]
        intro L' S' σ' H' _ R'
        exact q _ H' R'.md.same rfl
      · cases hm
    · cases hm
theorem fn_L {cls : String → Addr} {x qual : Str} {st : Stmt} {f : Addr} {fd : FuncData} {N ps : List Str} {k : Nat} (s : State → Out) (F : Fun K x qual st f fd) (S : FnScope N ps (defScope st)) {n kk : Nat} (hn : N.length = n) (hkk : ps.length = kk) (hps : kk ≤ n) {m : List D → Option (List D)} (hmm : m = runL n kk s)
    (hbody : ∀ (cdv : Value) (A : Around) (outer : List Env) (s0 : Shared) (H : Hp) (E : XK), Room k (A.deeper (envOfC qual (defScope st) s0.heap.objs.size f cdv)) →
      ∃ t, PSs (cxOf CX0 P w K mg base N qual (defScope st) f cdv A outer s0 H E).nox (defBody st) t ∧ Sts ⟨K, cls⟩ E0 t s) : FnOk P w K mg base CX0 (k + 1) f fd ps (spL ⟨K, cls⟩ m) := by
  subst hn hkk hmm
  refine F.ok S (fun vs H Q E h => ?_) (fun cdv A outer s0 H vs Q E hr h => ?_)
  · obtain ⟨L, ds, d, dm, r, hm, q⟩ := h
    unfold runL at hm
    split at hm
    · rename_i hl
      rw [r.len, hl]
    · cases hm
  · obtain ⟨L, ds, d, dm, r, hm, q⟩ := h
    obtain ⟨t, h1, h2⟩ := hbody cdv A outer s0 H E hr
    refine ⟨t, h1, ?_⟩
    unfold runL at hm
    split at hm
    · rename_i hl
      have hvl : vs.length = ps.length := by rw [r.len, hl]
      have R := inP_rel (N := N) dm r (by omega)
      rw [hvl] at R
      refine h2 _ _ _ _ _ _ _ R ?_
      split at hm
      · rename_i xs β hs
        cases hm
        rw [hs]
        intro v L' S' σ' H' R' rr
        obtain ⟨p, us, rfl, n0, hp, r2⟩ := rr
        refine q p us H' R'.md.same n0 hp (r2.up (fz_anti fun a m => ?_))
        rcases List.mem_cons.mp m with rfl | m
        · exact List.mem_cons_self
        · exact List.mem_cons_of_mem _ (R'.l0 a m)
      · cases hm
    · cases hm

/-! ### comprehensions -/
def wipeA : List Nat → State → State
  | [], α => α
  | v :: vs, α => (wipeA vs α).set v none
theorem Rel.setN {c : Cn} {L S : List Addr} {σ : L2.St} {H : Hp} {α : State} (r : Rel e c L S σ H α) (i : Nat) : Rel e c L S (σ.set i none) H (α.set i none) where
  slot := fun j a q => by
    rw [getset] at q ⊢
    split at q
    · split at q <;> cases q
    · rename_i hn
      rw [if_neg hn]
      exact r.slot j a q
  sep := fun j k p hj hk sj sk => by
    rw [getset] at hj hk sj sk
    by_cases e1 : i = j
    · rw [if_pos e1] at hj
      split at hj <;> simp [isOwn] at hj
    · by_cases e2 : i = k
      · rw [if_pos e2] at hk
        split at hk <;> simp [isOwn] at hk
      · rw [if_neg e1] at hj sj; rw [if_neg e2] at hk sk
        exact r.sep j k p hj hk sj sk
  inv := r.inv
  h1 := r.h1
  nh := r.nh
  dom := r.dom
  sub := r.sub
  l0 := r.l0
  l1 := r.l1
  s1 := r.s1
  md := r.md
  s0 := r.s0
  d0 := r.d0
  len := by rw [List.length_set, List.length_set]; exact r.len
theorem Rel.wipe {c : Cn} {L S : List Addr} {σ : L2.St} {H : Hp} {α : State} (r : Rel e c L S σ H α) : ∀ vs : List Nat, Rel e c L S (L2.wipe σ vs) H (wipeA vs α)
  | [] => r
  | v :: vs => (Rel.wipe r vs).setN v
theorem wipe_idem {σ : L2.St} {vs : List Nat} : L2.wipe (L2.wipe σ vs) vs = L2.wipe σ vs := wipe_ext (wipe_length _ _) fun j hj => wipe_out hj
def lcF (gt : D → State → Option State) (st : State → Option Bool) (se : State → Option D) : List D → State → Option (List D)
  | [], _ => some []
  | x :: xs, α => bnd (gt x α) fun β => match st β with
    | some true => bnd (se β) fun d => bnd (lcF gt st se xs α) fun r => some (d :: r)
    | some false => lcF gt st se xs α
    | none => none
def xLc (vs : List Nat) (sx : State → Option (List D)) (gt : D → State → Option State) (st : State → Option Bool) (se : State → Option D) : State → Option (List D) := fun α =>
  bnd (sx α) fun xs => if xs.length ≤ 100000 then lcF gt st se xs (wipeA vs α) else none
def tbYes : State → Option Bool := fun _ => some true
theorem et_yes : Evt e tYes tbYes := fun c L S σ H α b R q Q k => by cases q; exact k H (Sm.refl H)
theorem el_lc {wi : TI} {g : TG} {tt : TT} {vs js : List Nat} {sx : State → Option (List D)} {gt : D → State → Option State} {st : State → Option Bool} {se : State → Option D} (hi : Evi e wi sx) (hg : Etg e g gt js) (hj : ∀ j ∈ js, j ∈ vs) (ht : Evt e tt st) (he : Evp e te se) :
    Evl e (tLc wi g tt te vs) (xLc vs sx gt st se) := fun c L S σ H α out R q Q k => by
  obtain ⟨xs, hx, q⟩ := bnd_some q
  split at q
  · rename_i hz
    refine hi c L S σ H α xs R hx _ fun J H1 e1 wk => ?_
    intro D0 hD
    have hn : H D0 = none := by
      exact e1.free R.inv hD
    have R1 := R.up e1
    have nD : ¬ Hd.hid D0 := (fresh_nL R1.dm hD).2
    refine ⟨fun i m H' => m = xs.length - i ∧ i ≤ xs.length ∧ Sm H1 H' ∧ ∃ acc ds rest, H' D0 = some (.lst acc) ∧ acc.length ≤ i ∧ Reps e (fz (D0 :: L) H') ds acc ∧ lcF gt st se (xs.drop i) (wipeA vs α) = some rest ∧ ds ++ rest = out,
      ⟨xs.length, by simp, Nat.zero_le _, .of fun a o z => by rw [upd_ne (ne_of_none z hD)]; exact z, [], [], out, upd_same, Nat.le_refl _, Reps.nil, q, rfl⟩, ?_⟩
    rintro i m H2 ⟨rfl, hi, s2, acc, ds, rest, h2, hal, hr, hl, ho⟩
    have R2 : Rel e c (D0 :: L) S (L2.wipe σ vs) H2 (wipeA vs α) := (R1.more s2 hD h2).wipe vs
    have s2' : Same (fz L H1) (fz (D0 :: L) H2) := fz_cons s2 hD
    obtain ⟨w1, w2, w3⟩ := wk (D0 :: L) H2 s2' R2.dm i
    by_cases hlt : i < xs.length
    · rw [List.drop_eq_getElem_cons hlt] at hl
      obtain ⟨β, hgt, hl⟩ := bnd_some hl
      refine .inr ⟨w1 hlt, fun H' => Sm H1 H' ∧ ∃ acc ds rest, H' D0 = some (.lst acc) ∧ acc.length ≤ i + 1 ∧ Reps e (fz (D0 :: L) H') ds acc ∧ lcF gt st se (xs.drop (i + 1)) (wipeA vs α) = some rest ∧ ds ++ rest = out,
        fun H' ⟨h', h''⟩ => ⟨xs.length - (i + 1), by omega, rfl, hlt, h', h''⟩, fun v H3 y => ?_⟩
      obtain ⟨e3, r3⟩ := w3 xs[i] v H3 (List.getElem?_eq_getElem hlt) y
      refine hg c _ S _ H3 _ xs[i] v β (R2.up e3) r3 hgt _ fun σ4 hl4 hj4 R4 => ⟨?_, ?_⟩
      · rw [wipe_ext hl4 fun j hn => hj4 j fun m => hn (hj j m), wipe_idem]
      · cases hst : st β with
        | none => rw [hst] at hl; cases hl
        | some b =>
          rw [hst] at hl
          refine ht c _ S σ4 H3 β b R4 hst _ fun H4 e4 => ?_
          cases b with
          | false =>
            rw [if_neg Bool.false_ne_true]
            exact ⟨s2.trans (e3.trans e4), acc, ds, rest, (e3.trans e4).k _ _ h2 nD, by omega, hr.up (fz_same (e3.trans e4)), hl, ho⟩
          | true =>
            rw [if_pos rfl]
            obtain ⟨d, hd, hl⟩ := bnd_some hl
            obtain ⟨rest', hr', hl⟩ := bnd_some hl
            cases hl
            refine he c _ S σ4 H4 β d (R4.up e4) hd _ fun v5 H5 e5 r5 => ?_
            have e35 := e3.trans (e4.trans e5)
            have fzs : Same (fz (D0 :: L) H5) (fz (D0 :: L) (upd H5 D0 (.lst (acc ++ [v5])))) := fz_mut fun a o z n _ => by
              rw [upd_ne (fun z' => n (by rw [z']; exact List.mem_cons_self))]; exact z
            refine ⟨acc, e35.k _ _ h2 nD, sz_lt (by omega), ⟨fun a o z nh => ?_, fun h => Hd.chg (e35.i (s2.i h)) nD (e35.k _ _ h2 nD) trivial⟩, acc ++ [v5], ds ++ [d], rest', upd_same, by simp; omega, ((hr.up (fz_same e35)).append (Reps.cons r5 Reps.nil)).up fzs, hr', by rw [← ho, List.append_assoc]; rfl⟩
            rw [upd_ne (ne_of_none z hD)]
            exact e35.k _ _ (s2.k _ _ z nh) nh
    · have e2 : i = xs.length := by omega
      subst e2
      rw [List.drop_length] at hl
      cases hl
      rw [List.append_nil] at ho
      subst ho
      exact .inl ⟨w2 (Nat.le_refl _), k D0 acc H2 (e1.trans s2) hn h2 hr⟩
  · cases q
end
end Ab
end
section
set_option maxRecDepth 100000
set_option maxHeartbeats 1000000
namespace Ab
open PySem L2 PyProof.Rows PySem.Spec
variable [Hd]
section
variable {e : En} {E : XK} {te ta tb : TE} {sq sq2 : State → Option (List D)}
theorem none_back {H H1 : Hp} {p : Addr} (i : Hd.inv H) (s : Sm H H1) (n : H1 p = none) : H p = none := s.free i n
theorem same_upd {H : Hp} {p : Addr} {o : HO} (h : H p = none) : Sm H (upd H p o) := .of fun b u z => by rw [upd_ne (ne_of_none z h)]; exact z
/-! ### in -/
theorem reps_flat : ∀ {F : Hp} {ds : List D} {vs : List V}, ds.all flat = true → Reps e F ds vs → vs = ds.map dv
  | _, [], _, _, r => by cases r; rfl
  | F, d :: ds, _, h, ⟨v, w, q, r1, r2⟩ => by
    simp only [List.all_cons, Bool.and_eq_true] at h
    subst q
    rw [rep_flat h.1 r1, reps_flat h.2 r2]
    rfl
theorem flatV_dv {d : D} (h : flat d = true) : flatV (dv d) = true := by cases d <;> first | rfl | (simp [flat] at h)
theorem flatV_dvs {ds : List D} (h : ds.all flat = true) : (ds.map dv).all flatV = true := by
  rw [List.all_map]
  rw [List.all_eq_true] at h ⊢
  exact fun x hx => flatV_dv (h x hx)
def memD (neg : Bool) : D → D → Option D := fun a b => match b with
  | .tup xs => if (flat a && xs.all flat) = true then some (.bl (if neg then !inV (dv a) (xs.map dv) else inV (dv a) (xs.map dv))) else none
  | .lst xs => if (flat a && xs.all flat) = true then some (.bl (if neg then !inV (dv a) (xs.map dv) else inV (dv a) (xs.map dv))) else none
  | _ => none
theorem rv_in {neg : Bool} : RvD e (rIn e.K neg) (memD neg) := fun L H dx dy x y d dm rx ry h Q q => by
  unfold memD at h
  split at h
  · rename_i xs
    split at h
    · rename_i hc
      simp only [Bool.and_eq_true] at hc
      cases h
      obtain ⟨a, vs, rfl, r1, r2⟩ := ry
      have e1 := reps_flat hc.2 r2
      subst e1
      rw [rep_flat hc.1 rx]
      exact ⟨a, _, rfl, .inr (same_t fz_le r1), flatV_dv hc.1, flatV_dvs hc.2, q _ H (Sm.refl H) rfl⟩
    · cases h
  · rename_i xs
    split at h
    · rename_i hc
      simp only [Bool.and_eq_true] at hc
      cases h
      obtain ⟨a, vs, rfl, r1, r2⟩ := ry
      have e1 := reps_flat hc.2 r2
      subst e1
      rw [rep_flat hc.1 rx]
      exact ⟨a, _, rfl, .inl (fz_le.seq r1), flatV_dv hc.1, flatV_dvs hc.2, q _ H (Sm.refl H) rfl⟩
    · cases h
  · cases h
/-! ### == at any depth -/
mutual
def py : D → PyData
  | .non => .none | .bl b => .bool b | .int i => .int i | .str s => .str s
  | .tup xs => .tuple (pys xs) | .lst xs => .list (pys xs)
  | .ins _ _ => .none | .ty _ => .none | .cls _ => .none | .dic _ => .none
def pys : List D → List PyData
  | [] => [] | d :: ds => py d :: pys ds
end
mutual
def plainD : D → Bool
  | .non | .bl _ | .int _ => true
  | .str s => PyData.strOk s
  | .tup xs => plainDs xs | .lst xs => plainDs xs
  | _ => false
def plainDs : List D → Bool
  | [] => true | d :: ds => plainD d && plainDs ds
end
mutual
def depD : D → Nat
  | .tup xs => depDs xs + 1 | .lst xs => depDs xs + 1
  | _ => 0
def depDs : List D → Nat
  | [] => 0 | d :: ds => max (depD d) (depDs ds)
end
mutual
theorem dp_of {F : Hp} : ∀ (d : D) (v : V), plainD d = true → Rep e F d v → Dp e.K F v (py d)
  | .non, _, _, r => by cases r; exact .non
  | .bl b, _, _, r => by cases r; exact .bl b
  | .int b, _, _, r => by cases r; exact .int b
  | .str b, _, _, r => by cases r; exact .str b
  | .tup xs, _, h, ⟨a, vs, q, t, r⟩ => by subst q; exact .tup t (dps_of xs vs h r)
  | .lst xs, _, h, ⟨a, vs, q, t, r⟩ => by subst q; exact .lst t (dps_of xs vs h r)
  | .ins _ _, _, h, _ => by cases h
  | .ty _, _, h, _ => by cases h
  | .cls _, _, h, _ => by cases h
  | .dic _, _, h, _ => by cases h
theorem dps_of {F : Hp} : ∀ (ds : List D) (vs : List V), plainDs ds = true → Reps e F ds vs → DpAll e.K F vs (pys ds)
  | [], _, _, r => by cases r; exact .nil
  | d :: ds, _, h, ⟨v, w, q, r1, r2⟩ => by
    subst q
    have h' : plainD d = true ∧ plainDs ds = true := by simpa [plainDs] using h
    exact .cons (dp_of d v h'.1 r1) (dps_of ds w h'.2 r2)
end
mutual
theorem lay_of : ∀ d : D, plainD d = true → (py d).canLay0 = true
  | .non, _ => rfl
  | .bl _, _ => rfl
  | .int _, _ => rfl
  | .str s, h => h
  | .tup xs, h => lays_of xs h
  | .lst xs, h => lays_of xs h
  | .ins _ _, h => by cases h
  | .ty _, h => by cases h
  | .cls _, h => by cases h
  | .dic _, h => by cases h
theorem lays_of : ∀ ds : List D, plainDs ds = true → PyData.canLayAll0 (pys ds) = true
  | [], _ => rfl
  | d :: ds, h => by
    have h' : plainD d = true ∧ plainDs ds = true := by simpa [plainDs] using h
    show ((py d).canLay0 && PyData.canLayAll0 (pys ds)) = true
    rw [lay_of d h'.1, lays_of ds h'.2]; rfl
end
mutual
theorem dep_py : ∀ d : D, (py d).depth ≤ depD d
  | .non => Nat.le_refl _
  | .bl _ => Nat.le_refl _
  | .int _ => Nat.le_refl _
  | .str s => Nat.le_refl _
  | .tup xs => by show PyData.depth (.tuple (pys xs)) ≤ depDs xs + 1; have := deps_py xs; simp only [PyData.depth]; omega
  | .lst xs => by show PyData.depth (.list (pys xs)) ≤ depDs xs + 1; have := deps_py xs; simp only [PyData.depth]; omega
  | .ins _ _ => Nat.le_refl _
  | .ty _ => Nat.le_refl _
  | .cls _ => Nat.le_refl _
  | .dic _ => Nat.le_refl _
theorem deps_py : ∀ ds : List D, PyData.depthAll (pys ds) ≤ depDs ds
  | [] => Nat.le_refl _
  | d :: ds => by
    have h1 := dep_py d
    have h2 := deps_py ds
    show PyData.depthAll (py d :: pys ds) ≤ max (depD d) (depDs ds)
    simp only [PyData.depthAll]
    omega
end
def eqOk (a b : D) : Bool := plainD a && plainD b && decide (min (depD a) (depD b) ≤ 190)
def eqv (a b : D) : Bool := PyData.eqv (py a) (py b)
def rEqQ (K : PySem.W.Frag) : R2 := fun x y H Q => ∃ d e, Dp K H x d ∧ Dp K H y e ∧ d.canLay0 = true ∧ e.canLay0 = true ∧ min d.depth e.depth ≤ 190 ∧ Q (.bl (PyData.eqv d e)) H
def rNeQ (K : PySem.W.Frag) : R2 := fun x y H Q => ∃ d e, Dp K H x d ∧ Dp K H y e ∧ d.canLay0 = true ∧ e.canLay0 = true ∧ min d.depth e.depth ≤ 190 ∧ Q (.bl (!PyData.eqv d e)) H
theorem op_eqQ {X : Cx} (hu : X.A.units + 200 < cLine) : OpR X (compareOp .Eq) (rEqQ X.K) := by
  intro pins s σ H x y v u Q I rx ry h
  obtain ⟨d, e, hd, he, sd, se, hm, q⟩ := h
  obtain ⟨as, r1⟩ := Dp.reads I d x v hd rx
  obtain ⟨bs, r2⟩ := Dp.reads I e y u he ry
  exact SeqAt.compareEq_reads r1 r2 sd se (by omega) ⟨.bl _, H, I, rfl, q⟩
theorem op_neQ {X : Cx} (hu : X.A.units + 200 < cLine) : OpR X (compareOp .NotEq) (rNeQ X.K) := by
  intro pins s σ H x y v u Q I rx ry h
  obtain ⟨d, e, hd, he, sd, se, hm, q⟩ := h
  obtain ⟨as, r1⟩ := Dp.reads I d x v hd rx
  obtain ⟨bs, r2⟩ := Dp.reads I e y u he ry
  exact SeqAt.compareNe_reads r1 r2 sd se (by omega) ⟨.bl _, H, I, rfl, q⟩
theorem units_of {k : Nat} {A : Around} (hr : Room k A) : A.units + 200 < cLine := by have := hr.un; omega
theorem dp_up {K : PySem.W.Frag} {F H : Hp} (h : Same F H) : ∀ {v : V} {d : PyData}, Dp K F v d → Dp K H v d := by
  intro v d r
  exact Dp.rec (motive_1 := fun v d _ => Dp K H v d) (motive_2 := fun vs ds _ => DpAll K H vs ds) .non .bl .int .str (fun s _ ih => .lst (h.seq s) ih) (fun s _ ih => .tup (same_t h s) ih) .nil (fun _ _ a b => .cons a b) r
def fEqQ : D → D → Option D := fun a b => if eqOk a b = true then some (.bl (eqv a b)) else none
def fNeQ : D → D → Option D := fun a b => if eqOk a b = true then some (.bl (!eqv a b)) else none
theorem rv_eqQ : RvD e (rEqQ e.K) fEqQ := fun L H dx dy x y d dm rx ry h Q q => by
  unfold fEqQ at h
  split at h
  · rename_i hc
    cases h
    unfold eqOk at hc
    simp only [Bool.and_eq_true, decide_eq_true_eq] at hc
    have h1 := dep_py dx
    have h2 := dep_py dy
    exact ⟨py dx, py dy, dp_up fz_le (dp_of dx x hc.1.1 rx), dp_up fz_le (dp_of dy y hc.1.2 ry), lay_of _ hc.1.1, lay_of _ hc.1.2, by omega, q _ H (Sm.refl H) rfl⟩
  · cases h
theorem rv_neQ : RvD e (rNeQ e.K) fNeQ := fun L H dx dy x y d dm rx ry h Q q => by
  unfold fNeQ at h
  split at h
  · rename_i hc
    cases h
    unfold eqOk at hc
    simp only [Bool.and_eq_true, decide_eq_true_eq] at hc
    have h1 := dep_py dx
    have h2 := dep_py dy
    exact ⟨py dx, py dy, dp_up fz_le (dp_of dx x hc.1.1 rx), dp_up fz_le (dp_of dy y hc.1.2 ry), lay_of _ hc.1.1, lay_of _ hc.1.2, by omega, q _ H (Sm.refl H) rfl⟩
  · cases h
/-! ### isinstance of built-in types -/
def tyName : D → Option String
  | .non => some "NoneType" | .bl _ => some "bool" | .int _ => some "int" | .str _ => some "str" | .lst _ => some "list" | .tup _ => some "tuple"
  | _ => none
def fIsi : List D → Option D := fun ds => match ds with | [d, .ty n] => bnd (tyName d) fun m => (kitB m n).map .bl | _ => none
theorem ty_of {L : List Addr} {H : Hp} {d : D} {v : V} {m : String} (h : tyName d = some m) (r : Rep e (fz L H) d v) : TyX e.K H v (.type m) := by
  cases d with
  | non => cases h; cases r; exact .base .non
  | bl b => cases h; cases r; exact .base (.bl b)
  | int b => cases h; cases r; exact .base (.int b)
  | str b => cases h; cases r; exact .base (.str b)
  | ins _ _ => cases h
  | ty _ => cases h
  | cls _ => cases h
  | dic _ => cases h
  | tup xs =>
    cases h
    obtain ⟨a, vs, rfl, t, _⟩ := r
    rcases t with (t | ⟨o, t⟩) | ⟨o, its, n, k, c, _⟩
    · exact .base (.tup (fz_le _ _ t))
    · exact .fTuple (fz_le _ _ t)
    · exact .kTuple k c
  | lst xs =>
    cases h
    obtain ⟨a, vs, rfl, t, _⟩ := r
    rcases t with (t | ⟨o, t⟩) | ⟨o, its, n, k, c, _⟩
    · exact .base (.lst (fz_le _ _ t))
    · exact .base (.frz (fz_le _ _ t))
    · exact .kList k c
theorem rc_isi : RcD e (rIsi e.K) fIsi := fun L H ds vs d dm r q Q k => by
  unfold fIsi at q
  split at q
  · rename_i d' n
    obtain ⟨m, hm, q⟩ := bnd_some q
    cases hb : kitB m n with
    | none => rw [hb] at q; cases q
    | some b =>
      rw [hb] at q
      cases q
      obtain ⟨v, _, rfl, r1, v2, _, rfl, r2, r3⟩ := r
      cases r2; cases r3
      exact ⟨v, .ty n, .type m, .type n, b, rfl, .ty n, ty_of hm r1, kit_ty hb, k _ H (Sm.refl H) rfl⟩
  · cases q
theorem ev_ty {n : String} : Evp e (tC (.ty n)) (xC (.ty n)) := ev_c fun _ => rfl
/-! ### + of lists, tuples, texts -/
def rCatQ (K : PySem.W.Frag) : R2 := fun x y H Q => ∃ l b xs zs, x = .ref l ∧ y = .ref b ∧ SqL K H l xs ∧ SqL K H b zs ∧ xs.length + zs.length ≤ sizeLine ∧ ∀ p, H p = none → Q (.ref p) (upd H p (.lst (xs ++ zs)))
theorem op_catQ {X : Cx} : OpR X (binaryOp .Add) (rCatQ X.K) := by
  intro pins s σ H x y v u Q I rx ry h
  obtain ⟨l, b, xs, zs, rfl, rfl, hH, hB, hz, q⟩ := h
  cases rx
  cases ry
  obtain ⟨its, r, p1, hz1⟩ := I.list hH
  obtain ⟨its2, r2, p2, hz2⟩ := I.list hB
  obtain ⟨⟨cls, dd, data, sl⟩, n, e1, c1, d1, f1⟩ := p1
  obtain ⟨⟨cls2, dd2, data2, sl2⟩, n2, e2, c2, d2, f2⟩ := p2
  simp only at c1 f1 c2 f2
  subst c1 f1 c2 f2
  have hl := r.length
  have hl2 := r2.length
  have ea : its.toArray ++ its2.toArray = (its ++ its2).toArray := by simp
  refine concat_meets ⟨_, e1, rfl⟩ ⟨_, e2, rfl⟩ noFill_list_add seq_list_add PySem.F.slot_list_add PySem.F.entry_list_add (PySem.F.args_list_add_2 _ _) (list_addW l b its.toArray its2.toArray n n2 dd dd2 sl sl2 (by simp; omega)) ⟨e1, e2, ?_⟩
  rw [ea]
  exact ⟨.ref _, _, I.lnew (t' := s.toks) (r.append r2) (by rw [List.length_append]; omega), rfl, q _ I.fresh⟩

def xCat (sq sq2 : State → Option (List D)) : State → Option (List D) := fun α => bnd (sq α) fun xs => bnd (sq2 α) fun ys => lenOk (xs ++ ys)
theorem el_cat (ha : EvqL e ta sq) (hb : EvqL e tb sq2) : Evl e (tOp (rCatQ e.K) ta tb) (xCat sq sq2) := fun c L S σ H α d R q Q k => by
  obtain ⟨xs, h1, q⟩ := bnd_some q
  obtain ⟨ys, h2, q⟩ := bnd_some q
  obtain ⟨rfl, hz⟩ := lenOk_some q
  refine ha c L S σ H α xs R h1 _ fun a vs H1 e1 r1 r2 => ?_
  refine hb c L S σ H1 α ys (R.up e1) h2 _ fun b us H2 e2 r3 r4 => ?_
  rw [List.length_append] at hz
  refine ⟨a, b, vs, us, rfl, rfl, fz_le.seq ((fz_same e2).seq r1), fz_le.seq r3, by rw [r2.len, r4.len]; exact sz_of hz, fun p hp => ?_⟩
  have s3 : Sm H2 (upd H2 p (.lst (vs ++ us))) := same_upd hp
  exact k p _ _ (e1.trans (e2.trans s3)) (none_back R.inv (e1.trans e2) hp) upd_same (((r2.up (fz_same e2)).append r4).up (fz_cons s3 hp))
def xCatT (sq sq2 : State → Option (List D)) : State → Option D := fun α => bnd (sq α) fun xs => bnd (sq2 α) fun ys => if (xs ++ ys).length ≤ 100000 then some (.tup (xs ++ ys)) else none
theorem ev_catT (ha : EvqT e ta sq) (hb : EvqT e tb sq2) : Evp e (tOp (rCatA e.K) ta tb) (xCatT sq sq2) := fun c L S σ H α d R q Q k => by
  obtain ⟨xs, h1, q⟩ := bnd_some q
  obtain ⟨ys, h2, q⟩ := bnd_some q
  split at q
  · rename_i hz
    cases q
    refine ha c L S σ H α xs R h1 _ fun a vs H1 e1 r1 r2 => ?_
    refine hb c L S σ H1 α ys (R.up e1) h2 _ fun b us H2 e2 r3 r4 => ?_
    rw [List.length_append] at hz
    have r12 := r1
    have q1 : SqT e.K (fz L H2) a vs := same_t (fz_same e2) r1
    have rr := (r2.up (fz_same e2)).append r4
    refine ⟨a, b, vs, us, rfl, rfl, same_t fz_le q1, same_t fz_le r3, by rw [r2.len, r4.len]; exact sz_of hz, fun z => ?_, fun _ z => ?_, fun _ _ p hp => ?_⟩
    · refine k _ H2 (e1.trans e2) ⟨b, vs ++ us, rfl, ?_, rr⟩
      rw [z]; exact r3
    · refine k _ H2 (e1.trans e2) ⟨a, vs ++ us, rfl, ?_, rr⟩
      rw [z, List.append_nil]; exact q1
    · have s3 : Sm H2 (upd H2 p (.tup (vs ++ us))) := same_upd hp
      exact k _ _ (e1.trans (e2.trans s3)) ⟨p, vs ++ us, rfl, .inl (.inl (fz_new (fresh_nL (dom_up (e1.trans e2) R.dm) hp) upd_same)), rr.up (fz_same s3)⟩
  · cases q
def xSlA (sq : State → Option (List D)) (sl sh : State → Option (Option Int)) : State → Option D := fun α => bnd (sq α) fun xs => bnd (sl α) fun lo => bnd (sh α) fun hi => some (.tup (cutD xs lo hi))
theorem cut_whole {β : Type} {xs : List β} {lo hi : Option Int} (h : HT.sIx xs.length 0 lo = 0 ∧ HT.sIx xs.length xs.length hi = xs.length) : (xs.drop (HT.sIx xs.length 0 lo)).take (HT.sIx xs.length xs.length hi - HT.sIx xs.length 0 lo) = xs := by
  rw [h.1, h.2]; simp
variable {tl th : TO} {sl sh : State → Option (Option Int)}
theorem ev_slA (h : EvqT e te sq) (hl : Evo e tl sl) (hh : Evo e th sh) : Evp e (tSl (rSlA e.K) te tl th) (xSlA sq sl sh) := fun c L S σ H α d R q Q k => by
  obtain ⟨xs, h1, q⟩ := bnd_some q
  obtain ⟨lo, h2, q⟩ := bnd_some q
  obtain ⟨hi, h3, q⟩ := bnd_some q
  cases q
  refine h c L S σ H α xs R h1 _ fun a vs H1 e1 r1 r2 => ?_
  refine hl c L S σ H1 α lo (R.up e1) h2 _ fun H2 e2 => ?_
  refine hh c L S σ H2 α hi (R.up (e1.trans e2)) h3 _ fun H3 e3 => ?_
  have q1 : SqT e.K (fz L H3) a vs := same_t (fz_same (e2.trans e3)) r1
  have rr := r2.up (fz_same (e2.trans e3))
  refine ⟨a, vs, rfl, same_t fz_le q1, fun hw => ?_, fun hw p hp => ?_⟩
  · refine k _ H3 (e1.trans (e2.trans e3)) ⟨a, cutV vs lo hi, rfl, ?_, cut_rep rr⟩
    unfold cutV
    rw [cut_whole hw]
    exact q1
  · have s4 : Sm H3 (upd H3 p (.tup (cutV vs lo hi))) := same_upd hp
    exact k _ _ ((e1.trans (e2.trans e3)).trans s4) ⟨p, _, rfl, .inl (.inl (fz_new (fresh_nL (dom_up (e1.trans (e2.trans e3)) R.dm) hp) upd_same)), cut_rep (rr.up (fz_same s4))⟩
/-! ### texts -/
def fCatS : D → D → Option D := fun a b => match a, b with | .str i, .str j => if i.length + j.length ≤ 100000 then some (.str (i ++ j)) else none | _, _ => none
theorem rv_catS : RvD e (fun x y H Q => ∃ i j, x = .str i ∧ y = .str j ∧ i.length + j.length ≤ sizeLine ∧ Q (.str (i ++ j)) H) fCatS := fun L H dx dy x y d dm rx ry h Q q => by
  unfold fCatS at h
  split at h
  · split at h
    · cases h; cases rx; cases ry
      exact ⟨_, _, rfl, rfl, sz_of (by assumption), q _ H (Sm.refl H) rfl⟩
    · cases h
  · cases h
def fIxS : D → D → Option D := fun a b => match a, b with | .str z, .int i => if z.length ≤ 100000 then (atI z.cps.toList i).map fun c => .str ⟨#[c]⟩ else none | _, _ => none
theorem rv_ixS : RvD e rIxS fIxS := fun L H dx dy x y d dm rx ry h Q q => by
  unfold fIxS at h
  split at h
  · rename_i z i
    split at h
    · cases hx : atI z.cps.toList i with
      | none => rw [hx] at h; cases h
      | some c =>
        rw [hx] at h
        cases h; cases rx; cases ry
        exact ⟨z, i, c, rfl, rfl, sz_of (by assumption), hx, q _ H (Sm.refl H) rfl⟩
    · cases h
  · cases h
/-! ### chains of two comparisons; least and greatest of two -/
def xChain (f g : D → D → Option D) (sa sb sc : State → Option D) : State → Option D := fun α => bnd (sa α) fun a => bnd (sb α) fun b => match f a b with
  | some (.bl true) => (bnd (sc α) fun c => match g b c with | some (.bl k) => some (.bl k) | _ => none) | some (.bl false) => some (.bl false) | _ => none
theorem ev_chain {tc : TE} {sa sb sc : State → Option D} {r r' : R2} {f g : D → D → Option D} (hr : RvD e r f) (hr' : RvD e r' g) (ha : Evp e ta sa) (hb : Evp e tb sb) (hc : Evp e tc sc) : Evp e (tChain r r' ta tb tc) (xChain f g sa sb sc) := fun c L S σ H α d R q Q k => by
  obtain ⟨a, h1, q⟩ := bnd_some q
  obtain ⟨b, h2, q⟩ := bnd_some q
  refine ha c L S σ H α a R h1 _ fun v H1 e1 r1 => ?_
  refine hb c L S σ H1 α b (R.up e1) h2 _ fun u H2 e2 r2 => ?_
  have e12 := e1.trans e2
  split at q
  · rename_i hf
    refine hr L H2 a b v u _ (dom_up e12 R.dm) (r1.up (fz_same e2)) r2 hf _ fun z H3 e3 r3 => ?_
    cases r3
    refine ⟨true, rfl, ?_⟩
    obtain ⟨c', h3, q⟩ := bnd_some q
    split at q
    · rename_i kk hg
      cases q
      show tc σ H3 _
      refine hc c L S σ H3 α c' (R.up (e12.trans e3)) h3 _ fun w H4 e4 r4 => ?_
      exact hr' L H4 b c' u w _ (dom_up (e12.trans (e3.trans e4)) R.dm) (r2.up (fz_same (e3.trans e4))) r4 hg _ fun z5 H5 e5 r5 => by
        exact k z5 H5 ((e12.trans (e3.trans e4)).trans e5) r5
    · cases q
  · rename_i hf
    cases q
    refine hr L H2 a b v u _ (dom_up e12 R.dm) (r1.up (fz_same e2)) r2 hf _ fun z H3 e3 r3 => ?_
    cases r3
    refine ⟨false, rfl, ?_⟩
    exact k _ H3 (e12.trans e3) rfl
  · cases q
def fMax2 : List D → Option D := fun ds => match ds with | [.int i, .int j] => some (.int (if j > i then j else i)) | _ => none
theorem rc_max2 : RcD e (fun xs H Q => ∃ i j, xs = [.int i, .int j] ∧ Q (.int (if j > i then j else i)) H) fMax2 := fun L H ds vs d dm r q Q k => by
  unfold fMax2 at q
  split at q
  · cases q
    obtain ⟨v, _, rfl, r1, v2, _, rfl, r2, r3⟩ := r
    cases r1; cases r2; cases r3
    exact ⟨_, _, rfl, k _ H (Sm.refl H) rfl⟩
  · cases q
def fMin2 : List D → Option D := fun ds => match ds with | [.int i, .int j] => some (.int (if j < i then j else i)) | _ => none
theorem rc_min2 : RcD e (fun xs H Q => ∃ i j, xs = [.int i, .int j] ∧ Q (.int (if j < i then j else i)) H) fMin2 := fun L H ds vs d dm r q Q k => by
  unfold fMin2 at q
  split at q
  · cases q
    obtain ⟨v, _, rfl, r1, v2, _, rfl, r2, r3⟩ := r
    cases r1; cases r2; cases r3
    exact ⟨_, _, rfl, k _ H (Sm.refl H) rfl⟩
  · cases q
/-! ### tuple(reversed(list)); enumerate(list) -/
def xTupRev (sq : State → Option (List D)) : State → Option D := fun α => match sq α with | some xs => some (.tup xs.reverse) | none => none
theorem ev_tupRev (h : EvqL e te sq) : Evp e (RT.tTupRev e.K te) (xTupRev sq) := fun c L S σ H α d R q Q k => by
  unfold xTupRev at q
  cases hs : sq α with
  | none => rw [hs] at q; cases q
  | some xs =>
    rw [hs] at q; cases q
    refine h c L S σ H α xs R hs _ fun a vs H' e1 r1 r2 => ⟨a, vs, rfl, fz_le.seq r1, fun l hl => ?_⟩
    have s4 : Sm H' (upd H' l (.tup vs.reverse)) := same_upd hl
    exact k _ _ (e1.trans s4) ⟨l, _, rfl, .inl (.inl (fz_new (fresh_nL (dom_up e1 R.dm) hl) upd_same)), (r2.up (fz_same s4)).rev⟩
def enumL (n : Int) : List D → List D
  | [] => [] | d :: ds => .tup [.int n, d] :: enumL (n + 1) ds
theorem enumL_len : ∀ (xs : List D) (n : Int), (enumL n xs).length = xs.length
  | [], _ => rfl
  | d :: ds, n => by simp [enumL, enumL_len ds]
theorem enumL_get : ∀ (xs : List D) (n : Int) (i : Nat) (y : D), (enumL n xs)[i]? = some y → ∃ d, xs[i]? = some d ∧ y = .tup [.int (n + i), d]
  | [], _, _, _, h => by simp [enumL] at h
  | d :: ds, n, 0, y, h => by simp [enumL] at h; exact ⟨d, rfl, by rw [← h]; simp⟩
  | d :: ds, n, i + 1, y, h => by
    obtain ⟨d', h1, h2⟩ := enumL_get ds (n + 1) i y (by simpa [enumL] using h)
    exact ⟨d', by simpa using h1, by rw [h2]; congr 3; omega⟩
def xEnum (s : State → Option D) : State → Option (List D) := fun α => match s α with | some (.lst xs) => some (enumL 0 xs) | _ => none
theorem ei_enum {s : State → Option D} (h : Evp e te s) : Evi e (iEnum e.K (tCons te tNil)) (xEnum s) := fun c L S σ H α xs R q W k => by
  unfold xEnum at q
  split at q
  · rename_i ys hs
    cases q
    refine h c L S σ H α _ R hs _ fun v H' e1 ⟨a, vs, e2, r1, r2⟩ => ?_
    subst e2
    refine ⟨a, vs, rfl, fz_le.seq r1, k _ H' e1 fun L2 H2 s2 dm i => ?_⟩
    have t2 : SqL e.K H2 a vs := fz_le.seq (s2.seq r1)
    rw [enumL_len]
    refine ⟨fun hi => ⟨vs, vs[i]'(by rw [r2.len]; exact hi), t2, List.getElem?_eq_getElem _⟩, fun hi => ⟨vs, t2, by rw [r2.len]; exact hi⟩, fun x v H3 hx ⟨T, y, e3, n, e4, yy⟩ => ?_⟩
    subst e3 e4
    obtain ⟨d, h1, h2⟩ := enumL_get _ _ _ _ hx
    obtain ⟨v', h3, h4⟩ := r2.get h1
    have h5 := yy vs t2
    have h6 : v' = y := Option.some.inj (h3.symm.trans h5)
    subst h6
    have s3 : Sm H2 (upd H2 T (.tup [.int (i : Nat), v'])) := same_upd n
    refine ⟨s3, ?_⟩
    subst h2
    refine ⟨T, _, rfl, .inl (.inl (fz_new (fresh_nL dm n) upd_same)), Reps.cons ?_ (Reps.cons (h4.up (s2.trans (fz_same s3))) Reps.nil)⟩
    show V.int _ = V.int _
    rw [Int.zero_add]
  · cases q
end
end Ab
end
section
set_option maxRecDepth 100000
set_option maxHeartbeats 1000000
namespace Ab
open PySem L2 PyProof.Rows PySem.Spec
variable [Hd]
/-- a def of the top, with its promise -/
structure Cal (P : Program) (w : World) (K : PySem.W.Frag) (mg : Str → Option Value) (base : Heap) (x : Str) (ps : List Str) (k : Nat) (sp : Sp) : Prop where
  ex : ∃ f fd, FnOk P w K mg base CX0 k f fd ps sp ∧ mg x = some (.ref f) ∧ PySem.W.keepIn K (.ref f) = true ∧ Binds K fd ps []
section
variable {X : Cx} {x : Str} {ps : List Str} {k j : Nat} {sp : Sp} {p pos : Pos} {e : Expr} {es : List Expr} {t : TA}
theorem pe_cal (C : Cal X.prog X.w X.K X.mg X.base x ps k sp) (hr : Room j X.A) (hkj : k ≤ j) (hg : Gl X x) (ha : PA X (e :: es) t) (hdb : (x == ("__debug__" : Str)) = false := by decide) (he : starEach (e :: es) X.env = (false, eval e X.env) :: starEach es X.env := by rfl) (hpl : (backTo pos (starEach es X.env)).any (·.1) = false := by rfl) :
    PE X (.Call (.Name x p) (e :: es) [] pos) (tCall sp [] E0 t) := by
  obtain ⟨f, fd, G, hm, hk, hb⟩ := C.ex
  exact pe_call G (hr.mono hkj) hg hm hk hb .nil pass0 ha hdb he hpl
theorem pe_cal0 (C : Cal X.prog X.w X.K X.mg X.base x ps k sp) (hr : Room j X.A) (hkj : k ≤ j) (hg : Gl X x) (hdb : (x == ("__debug__" : Str)) = false := by decide) : PE X (.Call (.Name x p) [] [] pos) (tCall sp [] E0 tNil) := by
  obtain ⟨f, fd, G, hm, hk, hb⟩ := C.ex
  exact pe_call0 G (hr.mono hkj) hg hm hk hb .nil pass0 hdb
end
section
variable {P : Program} {w : World} {K : PySem.W.Frag} {mg : Str → Option Value} {base : Heap} {x : Str} {ps : List Str} {k j : Nat} {sp : Sp}
theorem Cal.mono (C : Cal P w K mg base x ps k sp) (h : k ≤ j) : Cal P w K mg base x ps j sp := by
  obtain ⟨f, fd, G, r⟩ := C.ex
  exact ⟨f, fd, G.mono h, r⟩
theorem Cal.vacuous {f : Addr} {fd : FuncData} (hm : mg x = some (.ref f)) (hk : PySem.W.keepIn K (.ref f) = true) (hb : Binds K fd ps []) (no : ∀ vs H Q E, ¬ sp vs H Q E) : Cal P w K mg base x ps k sp :=
  ⟨f, fd, ⟨fun vs H Q E h => absurd h (no vs H Q E), fun A outer s H args us vs Q E _ _ _ _ h => absurd h (no vs H Q E)⟩, hm, hk, hb⟩
end
theorem no_P {e : En} {m : List D → Option D} (h : ∀ ds, m ds = none) : ∀ vs H Q E, ¬ spP e m vs H Q E := fun vs H Q E ⟨L, ds, d, _, _, hm, _⟩ => by rw [h] at hm; cases hm
theorem no_L {e : En} {m : List D → Option (List D)} (h : ∀ ds, m ds = none) : ∀ vs H Q E, ¬ spL e m vs H Q E := fun vs H Q E ⟨L, ds, d, _, _, hm, _⟩ => by rw [h] at hm; cases hm
/-- a law's end -/
def spLaw (K : PySem.W.Frag) : Sp := fun vs H Q _ => ∃ (a : Addr) (ns : List Int), vs = [.ref a] ∧ SqL K H a (ns.map V.int) ∧ ns.length ≤ 63 ∧ ∀ H', Q (.bl true) H'
theorem reps_ints {e : En} {F : Hp} : ∀ ns : List Int, Reps e F (ns.map D.int) (ns.map V.int)
  | [] => Reps.nil
  | a :: r => Reps.cons rfl (reps_ints r)
theorem fz0 (H : Hp) : @fz hd0 [] H = H := by
  funext a
  unfold fz
  rw [if_neg]
  rintro (z | z)
  · exact nomatch z
  · exact z
omit [Hd] in
theorem law_of {P : Program} {w : World} {K : PySem.W.Frag} {mg : Str → Option Value} {base : Heap} {cls : String → Addr} {k : Nat} {f : Addr} {fd : FuncData} {ps : List Str} {m : List D → Option D} (F : FnOk P w K mg base CX0 k f fd ps (@spP hd0 ⟨K, cls⟩ m))
    (h : ∀ ns : List Int, ns.length ≤ 63 → m [.lst (ns.map .int)] = some (.bl true)) : FnOk P w K mg base CX0 k f fd ps (spLaw K) :=
  F.imp fun vs H Q E ⟨a, ns, hv, hS, hl, q⟩ => by
    subst hv
    refine ⟨[], [.lst (ns.map .int)], .bl true, ⟨(fun _ z => absurd z (by simp)), (fun _ z => absurd z (by simp)), trivial⟩, Reps.cons ⟨a, ns.map V.int, rfl, ?_, reps_ints ns⟩ Reps.nil, h ns hl, fun v H' _ r => by cases r; exact q H'⟩
    rw [fz0]; exact hS
theorem runP_dat {n k : Nat} {s : State → Out} {ds : List D} {d : D} {β : State} (hk : ds.length = k) (h : s (inP n k ds) = .ret (.dat d) β) : runP n k s ds = some d := by
  unfold runP; rw [if_pos hk, h]
theorem runP_lst {n k : Nat} {s : State → Out} {ds : List D} {d : List D} {β : State} (hk : ds.length = k) (h : s (inP n k ds) = .ret (.lst d) β) : runP n k s ds = some (.lst d) := by
  unfold runP; rw [if_pos hk, h]
theorem runL_lst {n k : Nat} {s : State → Out} {ds : List D} {d : List D} {β : State} (hk : ds.length = k) (h : s (inP n k ds) = .ret (.lst d) β) : runL n k s ds = some d := by
  unfold runL; rw [if_pos hk, h]
end Ab
end
section
set_option maxRecDepth 100000
set_option maxHeartbeats 1000000
namespace Ab
open PySem L2 PyProof.Rows PySem.Spec
variable [Hd]
section
variable {e : En} {E : XK} {te ta tb : TE} {ts tu tw : TS} {t : TT}
def backA : List A → State → Option (List A)
  | [], _ => some []
  | .dat d :: r, _ :: β => (backA r β).map (.dat d :: ·)
  | .inn _ :: r, some (.inn ct) :: β => (backA r β).map (.inn ct :: ·)
  | _, _ => none
def inM (n k : Nat) (as : List A) : State := as.map some ++ List.replicate (n - k) none
def runM (n k : Nat) (s : State → Out) : List A → MRes := fun as => if as.length = k then (match s (inM n k as) with
  | .ret r β => (match backA as β with | some as' => .ok r as' | none => .bad)
  | .nxt β => (match backA as β with | some as' => .ok (.dat .non) as' | none => .bad)
  | .exc x => .exc x
  | _ => .bad) else .bad
theorem AsRep.len {L S : List Addr} {H : Hp} : ∀ {as : List A} {vs : List V}, AsRep e L S H as vs → vs.length = as.length
  | [], _, r => by cases r; rfl
  | a :: as, _, ⟨v, w, q, _, r⟩ => by subst q; simp [AsRep.len r]
theorem AsRep.get {L S : List Addr} {H : Hp} : ∀ {as : List A} {vs : List V} {i : Nat} {a : A}, AsRep e L S H as vs → as[i]? = some a → ∃ v, vs[i]? = some v ∧ (match a with
    | .dat d => Rep e (fz L H) d v
    | .inn ct => ∃ p o, v = .ref p ∧ p ∈ S ∧ H p = some o ∧ RepC e (fz L H) ct o
    | .own _ => False
    | .adr _ => False)
  | [], _, _, _, _, h => by simp at h
  | a :: as, _, 0, _, ⟨v, w, q, r1, _⟩, h => by subst q; simp at h; subst h; exact ⟨v, rfl, r1⟩
  | a :: as, _, i + 1, _, ⟨v, w, q, _, r⟩, h => by subst q; obtain ⟨v', h1, h2⟩ := AsRep.get (i := i) r (by simpa using h); exact ⟨v', by simpa using h1, h2⟩
theorem innCount_sep : ∀ {as : List A} {i j : Nat} {c d : Ct}, innCount as ≤ 1 → as[i]? = some (.inn c) → as[j]? = some (.inn d) → i = j := by
  have pos : ∀ {as : List A} {i : Nat} {c : Ct}, as[i]? = some (.inn c) → 1 ≤ innCount as := by
    intro as
    induction as with
    | nil => intro i c h; simp at h
    | cons a r ih =>
      intro i c h
      cases i with
      | zero => simp at h; subst h; simp [innCount]
      | succ i =>
        have := ih (i := i) (c := c) (by simpa using h)
        cases a <;> simp [innCount] <;> omega
  intro as
  induction as with
  | nil => intro i j c d _ h; simp at h
  | cons a r ih =>
    intro i j c d hc hi hj
    cases i with
    | zero =>
      cases j with
      | zero => rfl
      | succ j =>
        simp at hi; subst hi
        have := pos (i := j) (c := d) (as := r) (by simpa using hj)
        simp [innCount] at hc; omega
    | succ i =>
      cases j with
      | zero =>
        simp at hj; subst hj
        have := pos (i := i) (c := c) (as := r) (by simpa using hi)
        simp [innCount] at hc; omega
      | succ j =>
        have h2 : innCount r ≤ 1 := by cases a <;> simp [innCount] at hc <;> omega
        have := ih (i := i) (j := j) (c := c) (d := d) h2 (by simpa using hi) (by simpa using hj)
        omega
theorem inM_get {n k : Nat} {as : List A} {i : Nat} {a : A} (h : (inM n k as)[i]? = some (some a)) : as[i]? = some a := by
  unfold inM at h
  by_cases hi : i < as.length
  · rw [List.getElem?_append_left (by simpa using hi), List.getElem?_map, List.getElem?_eq_getElem hi] at h
    rw [List.getElem?_eq_getElem hi]
    have this : as[i]'hi = a := by simpa using h
    exact congrArg some this
  · rw [List.getElem?_append_right (by simp; omega), List.getElem?_replicate] at h
    split at h <;> cases h
theorem inM_rel {L S : List Addr} {H : Hp} {as : List A} {vs : List V} {N : List Str} (dm : Dom L H) (sub : ∀ p ∈ S, p ∈ L) (hc : innCount as ≤ 1) (r : AsRep e L S H as vs) (hk : vs.length ≤ N.length) :
    Rel e ⟨L, S, H, L2.start N vs⟩ L S (L2.start N vs) H (inM N.length vs.length as) where
  slot := fun i a q => by
    have ha := inM_get q
    obtain ⟨v, h1, h2⟩ := r.get ha
    have h3 : (L2.start N vs)[i]? = some (some v) := by
      unfold L2.start
      have : i < vs.length := (List.getElem?_eq_some_iff.mp h1).1
      rw [List.getElem?_append_left (by simp; exact this), List.getElem?_map, h1]; rfl
    refine ⟨v, h3, ?_⟩
    cases a with
    | dat d => exact h2
    | adr _ => exact h2.elim
    | inn ct => obtain ⟨p, o, q1, m, ho, rc⟩ := h2; exact ⟨p, o, q1, m, h3, ho, rc⟩
    | own ct => exact h2.elim
  sep := fun i j p hi hj _ _ => by
    have un : ∀ i : Nat, isOwn (inM N.length vs.length as)[i]? = true → ∃ c : Ct, as[i]? = some (A.inn c) := fun i hi => by
      cases hx : (inM N.length vs.length as)[i]? with
      | none => rw [hx] at hi; simp [isOwn] at hi
      | some x =>
        cases x with
        | none => rw [hx] at hi; simp [isOwn] at hi
        | some a =>
          have ha := inM_get hx
          obtain ⟨v, h1, h2⟩ := r.get ha
          cases a with
          | dat d => rw [hx] at hi; simp [isOwn] at hi
          | adr _ => rw [hx] at hi; simp [isOwn] at hi
          | inn c => exact ⟨c, ha⟩
          | own c => exact h2.elim
    obtain ⟨c, h1⟩ := un i hi
    obtain ⟨d, h2⟩ := un j hj
    exact innCount_sep hc h1 h2
  inv := dm.inv
  h1 := fun _ => Hd.al dm.inv
  nh := dm.nh
  dom := dm.dom
  sub := sub
  l0 := fun _ h => h
  l1 := fun _ h => .inl h
  s1 := fun _ h => .inl h
  md := Mod.refl
  s0 := sub
  d0 := dm.dom
  len := by unfold L2.start inM; simp [r.len]
theorem start_get {N : List Str} {vs : List V} {i : Nat} {v : V} (h : vs[i]? = some v) : (L2.start N vs)[i]? = some (some v) := by
  unfold L2.start
  have : i < vs.length := (List.getElem?_eq_some_iff.mp h).1
  rw [List.getElem?_append_left (by simp; exact this), List.getElem?_map, h]; rfl
/-- what stands at the arguments behind the body -/
theorem back_rep {c : Cn} {L S L' S' : List Addr} {σ' : L2.St} {H H' : Hp} {β0 : State} (R : Rel e c L' S' σ' H' β0) (hL : ∀ p ∈ L, p ∈ L') (md : Mod S H H') (sub : ∀ p ∈ S, p ∈ L) :
    ∀ (as : List A) (β : State) (as' : List A) (vs : List V) (j : Nat), (∀ i, β[i]? = β0[j + i]?) → (∀ i v, vs[i]? = some v → c.σ0[j + i]? = some (some v)) → backA as β = some as' → AsRep e L S H as vs → AsRep e L S H' as' vs
  | [], _, as', vs, _, _, _, h, r => by cases h; exact r
  | .own _ :: _, _, _, _, _, _, _, h, _ => by simp [backA] at h
  | .adr _ :: _, _, _, _, _, _, _, h, _ => by simp [backA] at h
  | .dat d :: r, [], _, _, _, _, _, h, _ => by simp [backA] at h
  | .inn d :: r, [], _, _, _, _, _, h, _ => by simp [backA] at h
  | .dat d :: r, x :: β, as', vs, j, hb, hv, h, ⟨v, w, q, r1, r2⟩ => by
    unfold backA at h
    cases hr : backA r β with
    | none => rw [hr] at h; cases h
    | some as2 =>
      rw [hr] at h; cases h
      subst q
      refine ⟨v, w, rfl, Rep.up (d := d) r1 (fz_mod md sub), back_rep R hL md sub r β as2 w (j + 1) (fun i => ?_) (fun i u hu => ?_) hr r2⟩
      · have := hb (i + 1); simpa [Nat.add_assoc, Nat.add_comm 1 i] using this
      · have := hv (i + 1) u (by simpa using hu); simpa [Nat.add_assoc, Nat.add_comm 1 i] using this
  | .inn c0 :: r, x :: β, as', vs, j, hb, hv, h, ⟨v, w, q, r1, r2⟩ => by
    cases x with
    | none => simp [backA] at h
    | some a =>
      cases a with
      | dat d => simp [backA] at h
      | adr _ => simp [backA] at h
      | own ct => simp [backA] at h
      | inn ct =>
        unfold backA at h
        cases hr : backA r β with
        | none => rw [hr] at h; cases h
        | some as2 =>
          rw [hr] at h; cases h
          subst q
          obtain ⟨p, o, rfl, m, ho, rc⟩ := r1
          have h0 : β0[j]? = some (some (.inn ct)) := by have := hb 0; simpa using this.symm
          obtain ⟨v', k1, p', o', k2, m', k3, ho', rc'⟩ := R.slot j _ h0
          have k4 := hv 0 (.ref p) rfl
          rw [Nat.add_zero] at k4
          rw [k4] at k3
          cases k3
          cases k2
          refine ⟨_, w, rfl, ⟨p, o', rfl, m, ho', rc'.up (fz_anti hL)⟩, back_rep R hL md sub r β as2 w (j + 1) (fun i => ?_) (fun i u hu => ?_) hr r2⟩
          · have := hb (i + 1); simpa [Nat.add_assoc, Nat.add_comm 1 i] using this
          · have := hv (i + 1) u (by simpa using hu); simpa [Nat.add_assoc, Nat.add_comm 1 i] using this
theorem retrep_anti {L L' : List Addr} {H' H : Hp} {v : V} {c : Cn} {r : RetV} {S : List Addr} (hL : ∀ p ∈ L, p ∈ L') (h0 : c.H0 = H) (rr : RetRep e L' H' v c r) : RetRep e L H' v ⟨L, S, H, []⟩ r := by
  cases r with
  | dat d => exact Rep.up (d := d) rr (fz_anti hL)
  | lst xs =>
    obtain ⟨p, vs, q, n, hp, rs⟩ := rr
    refine ⟨p, vs, q, by rw [← h0]; exact n, hp, rs.up (fz_anti fun a m => ?_)⟩
    rcases List.mem_cons.mp m with rfl | m
    · exact List.mem_cons_self
    · exact List.mem_cons_of_mem _ (hL a m)
variable {P : Program} {w : World} {K : PySem.W.Frag} {mg : Str → Option Value} {base : Heap}
/-- the body meets the promise -/
theorem body_M {cls : String → Addr} {N : List Str} {n kk : Nat} {vs : List V} {H : Hp} {Q : VK} {E : XK} {t : TS} {s : State → Out} {m : List A → MRes} (hn : N.length = n) (hps : kk ≤ n) (hmm : m = runM n kk s) (h2 : Sts ⟨K, cls⟩ E t s) (h : spM ⟨K, cls⟩ m vs H Q E) :
    t { nx := fun _ H' => Q .non H', rt := Q } (L2.start N vs) H := by
  subst hn hmm
  obtain ⟨L, S, as, dm, sub, hc, r, hq, hx, hb⟩ := h
  have hl : as.length = kk := by
    unfold runM at hb
    split at hb
    · assumption
    · exact absurd rfl hb
  have hvl : vs.length = kk := by rw [r.len, hl]
  have R := inM_rel (N := N) dm sub hc r (by omega)
  rw [hvl] at R
  refine h2 _ _ _ _ _ _ _ R ?_
  unfold runM at hq hx hb
  simp only [if_pos hl] at hq hx hb
  cases hs : s (inM N.length kk as) with
  | nxt β =>
    rw [hs] at hq hb
    dsimp only at hq hb
    cases hba : backA as β with
    | none => rw [hba] at hb; exact absurd rfl hb
    | some as' =>
      rw [hba] at hq
      intro L' S' σ' H' _ R'
      have ar := back_rep R' R'.l0 R'.md sub as β as' vs 0 (fun i => by rw [Nat.zero_add]) (fun i v hv => by rw [Nat.zero_add]; exact start_get hv) hba r
      exact hq _ as' rfl _ H' R'.md ar rfl
  | ret rv β =>
    rw [hs] at hq hb
    dsimp only at hq hb
    cases hba : backA as β with
    | none => rw [hba] at hb; exact absurd rfl hb
    | some as' =>
      rw [hba] at hq
      intro v L' S' σ' H' R' rr
      have ar := back_rep R' R'.l0 R'.md sub as β as' vs 0 (fun i => by rw [Nat.zero_add]) (fun i v hv => by rw [Nat.zero_add]; exact start_get hv) hba r
      exact hq _ as' rfl v H' R'.md ar (retrep_anti R'.l0 rfl rr)
  | exc x =>
    rw [hs] at hx
    intro cls' dd H' md xr fr
    exact hx x rfl cls' dd H' md xr fr
  | brk β => rw [hs] at hb; exact absurd rfl hb
  | cnt β => rw [hs] at hb; exact absurd rfl hb
  | bad => rw [hs] at hb; exact absurd rfl hb
theorem spM_len {cls : String → Addr} {n kk : Nat} {vs : List V} {H : Hp} {Q : VK} {E : XK} {s : State → Out} {m : List A → MRes} (hmm : m = runM n kk s) (h : spM ⟨K, cls⟩ m vs H Q E) : vs.length = kk := by
  subst hmm
  obtain ⟨L, S, as, dm, sub, hc, r, hq, hx, hb⟩ := h
  rw [r.len]
  unfold runM at hb
  split at hb
  · assumption
  · exact absurd rfl hb
theorem spM_E {cls : String → Addr} {m : List A → MRes} {vs : List V} {H : Hp} {Q : VK} {E : XK} (hno : ∀ as x, m as ≠ .exc x) (h : spM ⟨K, cls⟩ m vs H Q E) : spM ⟨K, cls⟩ m vs H Q E0 := by
  obtain ⟨L, S, as, dm, sub, hc, r, hq, hx, hb⟩ := h
  exact ⟨L, S, as, dm, sub, hc, r, hq, fun x hm => absurd hm (hno as x), hb⟩
theorem fn_M {cls : String → Addr} {x qual : Str} {st : Stmt} {f : Addr} {fd : FuncData} {N ps : List Str} {k : Nat} (s : State → Out) (F : Fun K x qual st f fd) (S : FnScope N ps (defScope st)) {n kk : Nat} (hn : N.length = n) (hkk : ps.length = kk) (hps : kk ≤ n) {m : List A → MRes} (hmm : m = runM n kk s)
    (hbody : ∀ (cdv : Value) (A : Around) (outer : List Env) (s0 : Shared) (H : Hp) (E : XK), Room k (A.deeper (envOfC qual (defScope st) s0.heap.objs.size f cdv)) →
      ∃ t, PSs (cxOf CX0 P w K mg base N qual (defScope st) f cdv A outer s0 H E).nox (defBody st) t ∧ Sts ⟨K, cls⟩ E t s) : FnOk P w K mg base CX0 (k + 1) f fd ps (spM ⟨K, cls⟩ m) := by
  refine F.ok S (fun vs H Q E h => by rw [spM_len hmm h, hkk]) (fun cdv A outer s0 H vs Q E hr h => ?_)
  obtain ⟨t, h1, h2⟩ := hbody cdv A outer s0 H E hr
  exact ⟨t, h1, body_M hn hps hmm h2 h⟩

/-! ### a call that changes an own object -/
def toAs : List Arg → State → Option (List A)
  | [], _ => some []
  | .dat d :: r, α => (toAs r α).map (.dat d :: ·)
  | .slot i :: r, α => (match ctOf α[i]? with | some ct => (toAs r α).map (.inn ct :: ·) | none => none)
def putBack : List Arg → List A → State → State
  | .slot i :: r, .inn ct :: as, α => putBack r as (putC α i ct)
  | _ :: r, _ :: as, α => putBack r as α
  | _, _, α => α
def slots : List Arg → List Nat
  | [] => []
  | .slot i :: r => i :: slots r
  | .dat _ :: r => slots r
def rCallM (m : List A → MRes) (sr : State → Res (List Arg)) : State → Res D := fun α => match sr α with
  | .ok as α1 => (match slots as with
    | [i] => (match toAs as α1 with
      | some bs => (match m bs with
        | .ok (.dat d) bs' => (match bs'.find? (fun b => match b with | .inn _ => true | _ => false) with | some (.inn ct) => .ok d (putC α1 i ct) | _ => .bad)
        | .exc x => .exc x
        | _ => .bad)
      | none => .bad)
    | _ => .bad)
  | .exc x => .exc x
  | .bad => .bad
theorem toAs_rep {c : Cn} {L S : List Addr} {σ : L2.St} {H : Hp} {α : State} (R : Rel e c L S σ H α) {T : List Addr} : ∀ {as : List Arg} {vs : List V} {bs : List A}, (∀ i ∈ slots as, ∀ p, σ[i]? = some (some (V.ref p)) → p ∈ T) → toAs as α = some bs → ArgsRep e L σ H as vs → AsRep e L T H bs vs ∧ innCount bs = (slots as).length
  | [], _, _, _, h, r => by cases h; exact ⟨r, rfl⟩
  | .dat d :: as, _, _, ht, h, ⟨v, w, q, r1, r2⟩ => by
    unfold toAs at h
    cases hs : toAs as α with
    | none => rw [hs] at h; cases h
    | some bs =>
      rw [hs] at h; cases h; subst q
      obtain ⟨h1, h2⟩ := toAs_rep (as := as) R ht hs r2
      exact ⟨⟨v, w, rfl, r1, h1⟩, h2⟩
  | .slot i :: as, _, _, ht, h, ⟨v, w, q, r1, r2⟩ => by
    unfold toAs at h
    split at h
    · rename_i ct hct
      cases hs : toAs as α with
      | none => rw [hs] at h; cases h
      | some bs =>
        rw [hs] at h; cases h; subst q
        obtain ⟨h1, h2⟩ := toAs_rep (as := as) R (fun j hj => ht j (List.mem_cons_of_mem _ hj)) hs r2
        obtain ⟨p, o, k1, m, ho, rc⟩ := R.at hct
        have k2 : σ[i]? = some (some v) := r1
        rw [k1] at k2; cases k2
        exact ⟨⟨_, w, rfl, ⟨p, o, rfl, ht i List.mem_cons_self p k1, ho, rc⟩, h1⟩, by simp [innCount, slots, h2]⟩
    · cases h
theorem find_inn {L S : List Addr} {H : Hp} : ∀ {bs : List A} {vs : List V} {ct : Ct}, AsRep e L S H bs vs → bs.find? (fun b => match b with | .inn _ => true | _ => false) = some (.inn ct) → ∃ p o, p ∈ S ∧ H p = some o ∧ RepC e (fz L H) ct o
  | [], _, _, _, h => by cases h
  | .dat d :: bs, _, _, ⟨v, w, q, r1, r2⟩, h => find_inn r2 (by simpa using h)
  | .inn c :: bs, _, _, ⟨v, w, q, r1, r2⟩, h => by
    simp at h
    subst h
    obtain ⟨p, o, _, m, ho, rc⟩ := r1
    exact ⟨p, o, m, ho, rc⟩
  | .own c :: bs, _, _, ⟨v, w, q, r1, r2⟩, h => r1.elim
theorem slots_own {c : Cn} {L S : List Addr} {σ : L2.St} {H : Hp} {α : State} (R : Rel e c L S σ H α) : ∀ {as : List Arg} {bs : List A}, toAs as α = some bs → ∀ i ∈ slots as, ∃ ct, ctOf α[i]? = some ct
  | [], _, _, i, m => nomatch m
  | .dat d :: as, _, h, i, m => by
    unfold toAs at h
    cases hs : toAs as α with
    | none => rw [hs] at h; cases h
    | some bs => exact slots_own R hs i m
  | .slot j :: as, _, h, i, m => by
    unfold toAs at h
    split at h
    · rename_i ct hct
      cases hs : toAs as α with
      | none => rw [hs] at h; cases h
      | some bs =>
        rcases List.mem_cons.mp m with rfl | m
        · exact ⟨ct, hct⟩
        · exact slots_own R hs i m
    · cases h
theorem ee_callM {m : List A → MRes} {tr : TA} {sr : State → Res (List Arg)} (h : EvaE e E tr sr) : Eve e E (tCall (spM e m) [] E tr) (rCallM m sr) := fun c L S σ H α R Q k kx nb => by
  unfold rCallM at k kx nb
  refine h c L S σ H α R _ (fun as α1 hs vs H1 m1 R1 r1 => ?_) (fun x hx => kx x (by rw [hx])) (fun hb => nb (by rw [hb]))
  rw [hs] at k kx nb
  dsimp only at k kx nb
  split at nb
  · rename_i i hi
    simp only [hi] at k kx
    split at nb
    · rename_i bs hbs
      simp only [hbs] at k kx
      obtain ⟨ct, hct⟩ := slots_own R1 hbs i (by rw [hi]; exact List.mem_cons_self)
      obtain ⟨p, o, hp, mS, ho, rc⟩ := R1.at hct
      obtain ⟨ar, hcount⟩ := toAs_rep (T := [p]) R1 (fun j hj q hq => by
        rw [hi] at hj
        have : j = i := by simpa using hj
        subst this
        rw [hp] at hq; cases hq; simp) hbs r1
      rw [hi] at hcount
      show spM e m (vs ++ []) H1 Q E
      rw [List.append_nil]
      refine ⟨L, [p], bs, R1.dm, (fun q hq => by rw [show q = p by simpa using hq]; exact R1.sub _ mS), by rw [hcount]; exact Nat.le_refl _, ar, fun r as' hm v H' md ar' rr => ?_, fun x hm cls' dd H' md xr fr => ?_, fun hb => nb (by rw [hb])⟩
      · rw [hm] at k nb
        cases r with
        | lst xs => exact absurd rfl nb
        | dat d =>
          dsimp only at k nb
          split at nb
          · rename_i ct' hf
            simp only [hf] at k
            obtain ⟨p', o', mp, ho', rc'⟩ := find_inn ar' hf
            have : p' = p := by simpa using mp
            subst this
            obtain ⟨R2, m2⟩ := R1.mutM hct hp md ho' rc'
            exact k d _ rfl v H' (m1.trans m2) R2 rr
          · exact absurd rfl nb
      · rw [hm] at kx
        refine kx x rfl cls' dd H' ?_ ⟨xr.1, xr.2.elim .inl fun ⟨q, gs, a1, a2, a3⟩ => .inr ⟨q, gs, a1, a2, RepF.mono (fz_anti R1.l0) _ _ a3⟩⟩ (fun p hp => R1.h0 (fr p hp))
        refine ⟨fun a u q n nh => ?_, fun h => md.i (R1.md.i h)⟩
        refine md.k a u (R1.md.k a u q n nh) (fun z => ?_) nh
        have : a = p := by simpa using z
        subst this
        rcases R1.s1 a mS with z | z
        · exact n z
        · rw [q] at z; cases z
    · exact absurd rfl nb
  · exact absurd rfl nb

/-! ### comprehensions whose element has side effects -/
theorem Rel.unwipe {c : Cn} {L S : List Addr} {σ : L2.St} {H : Hp} {α : State} {vs : List Nat} (r : Rel e c L S (L2.wipe σ vs) H α) : Rel e c L S σ H α where
  slot := fun i a q => by
    obtain ⟨v, h1, h2⟩ := r.slot i a q
    exact ⟨v, (wipe_some h1).1, h2⟩
  sep := fun i j p hi hj si sj => by
    have un : ∀ i : Nat, isOwn α[i]? = true → ∀ p : Addr, σ[i]? = some (some (V.ref p)) → (L2.wipe σ vs)[i]? = some (some (V.ref p)) := fun i hi p hp => by
      cases ha : α[i]? with
      | none => rw [ha] at hi; simp [isOwn] at hi
      | some x =>
        cases x with
        | none => rw [ha] at hi; simp [isOwn] at hi
        | some a =>
          obtain ⟨v, h1, _⟩ := r.slot i a ha
          have := (wipe_some h1).1
          rw [hp] at this
          rw [h1, this]
    exact r.sep i j p hi hj (un i hi p si) (un j hj p sj)
  inv := r.inv
  h1 := r.h1
  nh := r.nh
  dom := r.dom
  sub := r.sub
  l0 := r.l0
  l1 := r.l1
  s1 := r.s1
  md := r.md
  s0 := r.s0
  d0 := r.d0
  len := by rw [← r.len, wipe_length]
theorem Rel.mutL {c : Cn} {L S : List Addr} {σ : L2.St} {H : Hp} {α : State} {D0 : Addr} {o o' : HO} (r : Rel e c L S σ H α) (nS : D0 ∉ S) (mL : D0 ∈ L) (h0 : H D0 = some o) (n0 : c.H0 D0 = none) (pl : Pl o := by trivial) : Rel e c L S σ (upd H D0 o') α := by
  have iv : Hd.inv (upd H D0 o') := Hd.chg r.inv (r.nh D0 mL) h0 pl
  have fzs : Same (fz L H) (fz L (upd H D0 o')) := fz_mut fun a u z n _ => by rw [upd_ne (fun z' => n (by rw [z']; exact mL))]; exact z
  refine ⟨fun i a q => ?_, r.sep, iv, r.h1, r.nh, fun p m z => ?_, r.sub, r.l0, r.l1, r.s1, ⟨fun a u q n nh => ?_, fun _ => iv⟩, r.s0, r.d0, r.len⟩
  · obtain ⟨v, h1, h2⟩ := r.slot i a q
    refine ⟨v, h1, ?_⟩
    cases a with
    | dat d => exact Rep.up (d := d) h2 fzs
    | adr _ => exact h2
    | own ct => obtain ⟨p', o2, q', m, n', ho', rc⟩ := h2; exact ⟨p', o2, q', m, n', by rw [upd_ne (fun z => nS (by rw [← z]; exact m))]; exact ho', rc.up fzs⟩
    | inn ct => obtain ⟨p', o2, q', m, n', ho', rc⟩ := h2; exact ⟨p', o2, q', m, n', by rw [upd_ne (fun z => nS (by rw [← z]; exact m))]; exact ho', rc.up fzs⟩
  · by_cases hp : p = D0
    · rw [hp, upd_same] at z; cases z
    · rw [upd_ne hp] at z; exact r.dom p m z
  · rw [upd_ne (ne_of_none q n0)]; exact r.md.k a u q n nh
def lcE (gt : D → State → Option State) (se : State → Res D) (vs : List Nat) : List D → State → Res (List D)
  | [], α => .ok [] α
  | x :: xs, α => match gt x α with
    | none => .bad
    | some β => match se β with
      | .ok d β' => (match lcE gt se vs xs (wipeA vs β') with | .ok ds γ => .ok (d :: ds) γ | .exc x => .exc x | .bad => .bad)
      | _ => .bad
theorem lcE_cons {gt : D → State → Option State} {se : State → Res D} {vs : List Nat} {x : D} {xs : List D} {α : State} : lcE gt se vs (x :: xs) α = match gt x α with
    | none => .bad
    | some β => match se β with
      | .ok d β' => (match lcE gt se vs xs (wipeA vs β') with | .ok ds γ => .ok (d :: ds) γ | .exc x => .exc x | .bad => .bad)
      | _ => .bad := rfl
def rLc (vs : List Nat) (sx : State → Option (List D)) (gt : D → State → Option State) (se : State → Res D) : State → Res (List D) := fun α => match sx α with
  | some xs => if xs.length ≤ 100000 then lcE gt se vs xs (wipeA vs α) else .bad
  | none => .bad
theorem ele_lc {wi : TI} {g : TG} {vs js : List Nat} {sx : State → Option (List D)} {gt : D → State → Option State} {se : State → Res D} (hi : Evi e wi sx) (hg : Etg e g gt js) (hj : ∀ j ∈ js, j ∈ vs) (he : Eve e E te se) :
    EvlE e E (tLc wi g tYes te vs) (rLc vs sx gt se) := fun c L S σ H α R Q k kx nb => by
  unfold rLc at k kx nb
  cases hx : sx α with
  | none => rw [hx] at nb; exact absurd rfl nb
  | some xs =>
    rw [hx] at k kx nb
    dsimp only at k kx nb
    split at nb
    · rename_i hz
      rw [if_pos hz] at k kx
      refine hi c L S σ H α xs R hx _ fun J H1 e1 wk => ?_
      intro D0 hD
      have hn : H D0 = none := none_back R.inv e1 hD
      have R1 := R.up e1
      have hDS : D0 ∉ S := fun m => R1.dom D0 (R1.sub D0 m) hD
      -- the outcome of what is left, from a state
      refine ⟨fun i m H' => m = xs.length - i ∧ i ≤ xs.length ∧ Mod S H1 H' ∧ ∃ acc ds αi, H' D0 = some (.lst acc) ∧ acc.length ≤ i ∧ Reps e (fz (D0 :: L) H') ds acc ∧ Rel e c (D0 :: L) S (L2.wipe σ vs) H' αi ∧ Same (fz (D0 :: L) (upd H1 D0 (.lst []))) (fz (D0 :: L) H') ∧
          lcE gt se vs (xs.drop i) αi ≠ .bad ∧ (∀ x, lcE gt se vs (xs.drop i) αi ≠ .exc x) ∧ (∀ rest γ, lcE gt se vs (xs.drop i) αi = .ok rest γ → lcE gt se vs xs (wipeA vs α) = .ok (ds ++ rest) γ),
        ⟨xs.length, by simp, Nat.zero_le _, .of (same_upd hD), [], [], wipeA vs α, upd_same, Nat.le_refl _, Reps.nil, (R1.more (same_upd hD) hD upd_same).wipe vs, Same.refl _, nb, ?_, fun rest γ h => h⟩, ?_⟩
      · -- no exception can leave a comprehension here
        have noexc : ∀ (ys : List D) (a : State) (x : Exn), lcE gt se vs ys a ≠ .exc x := by
          intro ys
          induction ys with
          | nil => intro a x h; cases h
          | cons y ys ih =>
            intro a x h
            unfold lcE at h
            split at h
            · cases h
            · split at h
              · split at h
                · cases h
                · rename_i hh; exact ih _ _ hh
                · cases h
              · cases h
        exact fun x => noexc _ _ x
      rintro i m H2 ⟨rfl, hi2, s2, acc, ds, αi, h2, hal, hr, R2, f2, hnb, hnx, hout⟩
      have w2' : Same (fz L H1) (fz (D0 :: L) H2) := (fz_cons (same_upd hD) hD).trans f2
      obtain ⟨w1, w2, w3⟩ := wk (D0 :: L) H2 w2' R2.dm i
      by_cases hlt : i < xs.length
      · rw [List.drop_eq_getElem_cons hlt] at hnb hnx hout
        simp only [lcE_cons] at hnb hnx hout
        cases hgt : gt xs[i] αi with
        | none => rw [hgt] at hnb; exact absurd rfl hnb
        | some β =>
          rw [hgt] at hnb hnx hout
          dsimp only at hnb hnx hout
          refine .inr ⟨w1 hlt, fun H' => Mod S H1 H' ∧ ∃ acc ds αi, H' D0 = some (.lst acc) ∧ acc.length ≤ i + 1 ∧ Reps e (fz (D0 :: L) H') ds acc ∧ Rel e c (D0 :: L) S (L2.wipe σ vs) H' αi ∧ Same (fz (D0 :: L) (upd H1 D0 (.lst []))) (fz (D0 :: L) H') ∧
              lcE gt se vs (xs.drop (i + 1)) αi ≠ .bad ∧ (∀ x, lcE gt se vs (xs.drop (i + 1)) αi ≠ .exc x) ∧ (∀ rest γ, lcE gt se vs (xs.drop (i + 1)) αi = .ok rest γ → lcE gt se vs xs (wipeA vs α) = .ok (ds ++ rest) γ),
            fun H' ⟨h', h''⟩ => ⟨xs.length - (i + 1), by omega, rfl, hlt, h', h''⟩, fun v H3 y => ?_⟩
          obtain ⟨e3, r3⟩ := w3 xs[i] v H3 (List.getElem?_eq_getElem hlt) y
          refine hg c _ S _ H3 _ xs[i] v β (R2.up e3) r3 hgt _ fun σ4 hl4 hj4 R4 => ⟨?_, ?_⟩
          · rw [wipe_ext hl4 fun j hn => hj4 j fun m => hn (hj j m), wipe_idem]
          · show te σ4 H3 _
            refine he c _ S σ4 H3 β R4 _ (fun d β' hse v5 H5 m5 R5 r5 => ?_) (fun x hse => ?_) (fun hse => ?_)
            · rw [hse] at hnb hnx hout
              dsimp only at hnb hnx hout
              have nD : ¬ Hd.hid D0 := (fresh_nL R1.dm hD).2
              have h5 : H5 D0 = some (.lst acc) := m5.k _ _ (e3.k _ _ h2 nD) hDS nD
              have fzs : Same (fz (D0 :: L) H5) (fz (D0 :: L) (upd H5 D0 (.lst (acc ++ [v5])))) := fz_mut fun a o z n _ => by
                rw [upd_ne (fun z' => n (by rw [z']; exact List.mem_cons_self))]; exact z
              have f35 : Same (fz (D0 :: L) H2) (fz (D0 :: L) H5) := (fz_same e3).trans (fz_mod m5 R4.sub)
              have wq : L2.wipe σ4 vs = L2.wipe σ vs := by rw [wipe_ext hl4 fun j hn => hj4 j fun m => hn (hj j m), wipe_idem]
              have R6 : Rel e c (D0 :: L) S (L2.wipe σ vs) (upd H5 D0 (.lst (acc ++ [v5]))) (wipeA vs β') := by
                have q := R5.wipe vs
                rw [wq] at q
                exact q.mutL hDS (List.mem_cons_self) h5 (R1.h0 hD)
              refine ⟨acc, h5, sz_lt (by omega), ⟨fun a o z n nh => ?_, fun h => Hd.chg (m5.i (e3.i (s2.i h))) nD h5 trivial⟩, acc ++ [v5], ds ++ [d], wipeA vs β', upd_same, by simp; omega, ((hr.up f35).append (Reps.cons r5 Reps.nil)).up fzs, R6, f2.trans (f35.trans fzs), ?_, ?_, ?_⟩
              · rw [upd_ne (ne_of_none z hD)]
                exact m5.k _ _ (e3.k _ _ (s2.k _ _ z n nh) nh) n nh
              · intro hb; rw [hb] at hnb; exact hnb rfl
              · intro x hb; rw [hb] at hnx; exact hnx x rfl
              · intro rest γ hb
                rw [hb] at hout
                have := hout (d :: rest) γ rfl
                rw [this, List.append_assoc]; rfl
            · rw [hse] at hnb; exact absurd rfl hnb
            · rw [hse] at hnb; exact absurd rfl hnb
      · have e2 : i = xs.length := by omega
        subst e2
        rw [List.drop_length] at hout
        have ho := hout [] αi rfl
        rw [List.append_nil] at ho
        refine .inl ⟨w2 (Nat.le_refl _), k ds αi ho D0 acc H2 ?_ hn R2.unwipe h2 hr⟩
        exact ⟨fun a o z n nh => s2.k a o (e1.k _ _ z nh) n nh, fun h => s2.i (e1.i h)⟩
    · exact absurd rfl nb
end
end Ab
end
section
set_option maxRecDepth 100000
set_option maxHeartbeats 1000000
namespace Ab
open PySem L2 PyProof.Rows PySem.Spec
open Builtin Builtin.SmallTypes
variable [Hd]
set_option maxHeartbeats 2000000 in
theorem meets_enum1B {v : Value} {o : Obj} {H : Heap → Prop} (B : Begins v o H) :
    Meets (Builtin.«enumerate.__new__» ⟨[.type "enumerate", v], []⟩) (fun _ R s => H s.heap ∧
      R (.ok (.ret (.ref (s.heap.push o).objs.size))) { s with heap := (s.heap.push o).push { cls := .type "enumerate", data := .fields #[.none, .bool false, .ref s.heap.objs.size, rawInt 0, .none, .none] } }) :=
  .of_wp fun prog w A R s h => by
    obtain ⟨hp, g, d, tk, os⟩ := s; obtain ⟨h1, h⟩ := h
    have hsub := sub_enumerate
    have q1 : ∀ {A' : Around} {E : Value → Shared → Prop} {Q : Value → Shared → Prop}, Q (.ref hp.objs.size) ⟨hp.push o, g, d, tk, os⟩ → wpAny (model prog w) A' (pyIter v) Q E ⟨hp, g, d, tk, os⟩ :=
      fun q => B.iter prog w _ _ ⟨hp, g, d, tk, os⟩ _ h1 q
    wp_walk using q1
    refine wpAny_stack_any fun st => wpAny_pure ?_
    split
    · rename_i c _ _ _ _ _
      cases (c == Value.type "enumerate")
      · wp_walk using q1
        exact ⟨_, rfl, h⟩
      · wp_walk using q1
        exact ⟨_, rfl, h⟩
    · wp_walk using q1
      exact ⟨_, rfl, h⟩
section
variable {prog : Program} {w : World} {A : Around} {E : Value → Shared → Prop} {s : Shared}
theorem enum1_begins {v : Value} {o : Obj} {H : Heap → Prop} {Q : Value → Shared → Prop} (B : Begins v o H) (h1 : H s.heap)
    (h : ∀ h', IsEnum h' (s.heap.objs.size + 1) s.heap.objs.size 0 .none → h'.get? s.heap.objs.size = some o → h'.objs.size = s.heap.objs.size + 2 →
      (∀ b o, s.heap.get? b = some o → h'.get? b = some o) → Q (.ref (s.heap.objs.size + 1)) { s with heap := h' }) :
    wpAny (model prog w) A (call (.type "enumerate") [v]) Q E s := by
  refine callType_new F.called_enumerate (by decide) (F.typeCall_enumerate_1 _) (F.newCall_enumerate_1 _) (fun obj => F.args_object_init_2 obj _) F.entry_enumerate_new
    (meets_enum1B B) ⟨h1, ?_⟩
  have hz : (s.heap.push o).objs.size = s.heap.objs.size + 1 := Heap.size_push ..
  show _ ∧ _
  rw [hz]
  have he : IsEnum ((s.heap.push o).push { cls := .type "enumerate", data := .fields #[.none, .bool false, .ref s.heap.objs.size, rawInt 0, .none, .none] }) (s.heap.objs.size + 1) s.heap.objs.size 0 .none := by
    have := Heap.get?_push_size (s.heap.push o) (o := { cls := .type "enumerate", data := .fields #[.none, .bool false, .ref s.heap.objs.size, rawInt 0, .none, .none] }) rfl
    rw [hz] at this; exact this
  refine ⟨⟨_, he, rfl⟩, h _ he (Heap.get?_push_of_some _ (Heap.get?_push_size _ B.free)) (by rw [Heap.size_push, hz]) fun b o x => Heap.get?_push_of_some _ (Heap.get?_push_of_some _ x)⟩
end
def IteT (K : PySem.W.Frag) (a : Addr) : It :=
  ⟨fun i H => ∃ (xs : List V) (x : V), SqT K H a xs ∧ xs[i]? = some x, fun i H v H' => ∃ T x, v = .ref T ∧ H T = none ∧ H' = upd H T (.tup [.int (i : Nat), x]) ∧ ∀ xs, SqT K H a xs → xs[i]? = some x, fun i H => ∃ xs : List V, SqT K H a xs ∧ xs.length ≤ i⟩
theorem turn_enumT {P : Program} {w : World} {K : PySem.W.Frag} {elts : List Expr} {kk : Nat} {tpos : Pos} (a e it : Addr) :
    Turn P w K (.Tuple elts kk tpos) (IteT K a) [e, it] e (fun i h => (∃ old, IsEnum h e it ((i : Nat) : Int) old) ∧ h.IsTupleIter it a i ∧ e ≠ it) where
  mem := by simp
  obj := fun i h st b hb => by
    obtain ⟨⟨old, he⟩, ⟨o, ho, hc, hd⟩, _⟩ := st
    have e' : b = e ∨ b = it := by simpa using hb
    rcases e' with z | z
    · rw [z]; exact ⟨_, he, fun v q => nomatch q⟩
    · rw [z]; exact ⟨o, ho, fun v q => by rw [hd] at q; cases q⟩
  keep := fun i h h' st k => let ⟨⟨old, he⟩, hi, hne⟩ := st; ⟨⟨old, k e (by simp) _ he⟩, hi.at fun o q => k it (by simp) o q, hne⟩
  item := by
    intro X hP hw hK hc i pins s σ H E I hf st hg
    subst hP hw hK
    obtain ⟨⟨old, he⟩, hit, hne⟩ := st
    obtain ⟨xs, x, hq, hx⟩ := hg
    obtain ⟨its, rv, p, hz⟩ := I.tuple hq
    obtain ⟨u, hu, ru⟩ := rv.get hx
    have hel : e < s.heap.objs.size := Heap.lt_size he
    have hil : it < s.heap.objs.size := by obtain ⟨_, q, _⟩ := hit; exact Heap.lt_size q
    have hat : a ≠ it := by
      rintro rfl
      obtain ⟨o, ho, hc2, hd⟩ := hit
      obtain ⟨o2, ho2, hc3, _⟩ := p
      rw [ho] at ho2; cases ho2
      rw [hc2] at hc3; exact absurd hc3 (by simp)
    have hae : e ∉ [it, a] := by
      intro m
      rcases List.mem_cons.mp m with z | m
      · exact hne z
      · have z : e = a := by simpa using m
        subst z
        obtain ⟨o2, ho2, hc3, _⟩ := p
        have he2 : s.heap.get? e = _ := he
        rw [ho2] at he2; cases he2; exact absurd hc3 (by simp)
    have hlt : i < its.length := (List.getElem?_eq_some_iff.mp hu).1
    have D := Draws.tuple (prog := X.prog) (w := X.w) (A := X.A.in1) (I.ok.hd hc) it a hat its.toArray
    refine wpAny_pyNext_enum_itemD D he ⟨hit, p⟩ (by simpa using hlt) hne hae fun x' h' tk hx' ho hst hT hsz hk => ?_
    have hxu : x' = u := by
      have h1 : its[i]? = some x' := by simpa using hx'
      rw [hu] at h1
      exact (Option.some.inj h1).symm
    subst hxu
    refine ⟨_, rfl, wpAny_letOwnedTupleGo_enum (s := { s with heap := h', toks := tk + 1 }) ho fun h'' he' sb => ?_⟩
    have hT2 : h''.get? s.heap.objs.size = some { cls := .type "tuple", data := .seq #[.int i tk, x'] } := (sb.2 _ (Nat.ne_of_gt hel)).trans hT
    have new : ObjOk X.prog X.w (upd H s.heap.objs.size (.tup [.int (i : Nat), x])) h'' s.heap.objs.size (.tup [.int (i : Nat), x]) :=
      ⟨by show 2 ≤ sizeLine; decide, [.int i tk, x'], .cons ⟨_, rfl⟩ (.cons ru .nil), ⟨_, hT2, rfl, _, rfl⟩⟩
    have I1 : Inv X pins σ (upd H s.heap.objs.size (.tup [.int (i : Nat), x])) { s with heap := h'', toks := tk + 1 } :=
      I.turnedNew (ch := [e, it]) (fun b ob hb q => (sb.2 b (fun z => hb (by simp [z]))).trans (hk b ob (fun z => hb (by simp [z])) (fun z => hb (by simp [z])) q)) hf (Nat.le_refl _) new
    refine ⟨.ref s.heap.objs.size, _, I1, rfl, ⟨_, x, rfl, I.hok.fresh (Nat.le_refl _), rfl, fun ys hy => by rw [I.tuple_inj hy hq]; exact hx⟩, ⟨⟨x', ?_⟩, hst.1.at fun o q => (sb.2 it (Ne.symm hne)).trans q, hne⟩, fun b hb => ?_⟩
    · have e1 : ((i + 1 : Nat) : Int) = (i : Int) + 1 := by omega
      rw [e1]; exact he'
    · have hb' : b < s.heap.objs.size := by
        have e' : b = e ∨ b = it := by simpa using hb
        rcases e' with z | z
        · rw [z]; exact hel
        · rw [z]; exact hil
      rw [upd_ne (Nat.ne_of_lt hb')]
      exact (hf b hb).1
  done := by
    intro X hP hw hK hc i pins s σ H E I hf st hg
    subst hP hw hK
    obtain ⟨⟨old, he⟩, hit, hne⟩ := st
    obtain ⟨xs, hq, hx⟩ := hg
    obtain ⟨its, rv, p, hz⟩ := I.tuple hq
    obtain ⟨f0, f1, f2, f3, f4, f5⟩ := hf it (by simp)
    have hl := rv.length
    have hat : a ≠ it := by
      rintro rfl
      obtain ⟨o, ho, hc2, hd⟩ := hit
      obtain ⟨o2, ho2, hc3, _⟩ := p
      rw [ho] at ho2; cases ho2
      rw [hc2] at hc3; exact absurd hc3 (by simp)
    have D : Draws X.prog X.w X.A.in1 it [it, a] i (fun i v => its.toArray[i]? = some v) (fun j h => j = i ∧ h.IsTuple a its.toArray ∧ h.IsTupleIter it a j) :=
      { live := fun _ _ st => let ⟨o, ho, _⟩ := st.2.2; ⟨o, ho⟩
        frame := fun _ _ _ st hk => ⟨st.1, st.2.1.at fun o e => hk a (by simp) o e, st.2.2.at fun o e => hk it (by simp) o e⟩
        item := fun j s Q E hj st hQ => absurd st.1 (Nat.ne_of_lt hj)
        done := fun s Q E st hE => wpAny_nextOf_tuple_end (I.ok.hd hc) st.2.2 st.2.1 (by simp; omega) hE }
    exact wpAny_pyNext_enum_endD D he ⟨rfl, p, hit⟩ fun h' eb => ⟨rfl, I.turned (t' := s.toks) (fun b o hb q => eb b o hb q) f0 f1 f3 f4 f5⟩
  self := fun A i s Q E st h => let ⟨⟨_, he⟩, _⟩ := st; wpAny_pyIter_enum he h
def iEnumT (K : PySem.W.Frag) (ta : TA) : TI := fun σ H R => ta σ H fun vs H1 => ∃ a xs, vs = [.ref a] ∧ SqT K H1 a xs ∧ R (IteT K a) H1
theorem pi_enumT {X : Cx} {e : Expr} {ta : TA} {p pos tpos : Pos} {elts : List Expr} {kk : Nat} (hg : Gl X "enumerate") (hm : X.mg "enumerate" = none) (ha : PA X [e] ta) (hs : starEach [e] X.env = [(false, eval e X.env)] := by rfl) :
    PI X (.Tuple elts kk tpos) (.Call (.Name "enumerate" p) [e] [] pos) (iEnumT X.K ta) := by
  refine ⟨fun pins s σ H R I h => ?_⟩
  refine Call_ (ld_blt I hg hm boot_enumerate (PyProof.Rows.callWith_type1 (thn (ha.run pos pins s σ H _ I h) fun us s1 ⟨vs, H1, I1, r1, q1⟩ => ?_) hs rfl))
  obtain ⟨a, xs, ex, hq, q⟩ := q1
  subst ex
  cases r1 with
  | cons r rr =>
    cases rr
    cases r
    obtain ⟨its, rv, p', hz⟩ := I1.tuple hq
    refine enum1_begins (begins_tuple a its.toArray) (show s1.heap.IsTuple a its.toArray from p') fun h' he hit hsz hk => wpAny_pyIter_enum he ?_
    have I2 : Inv X pins σ H1 { s1 with heap := h' } := I1.kept (t' := s1.toks) hk
    refine ⟨s1.heap.objs.size + 1, [s1.heap.objs.size + 1, s1.heap.objs.size], _, _, H1, rfl, I2, turn_enumT a (s1.heap.objs.size + 1) s1.heap.objs.size, ⟨⟨.none, he⟩, ⟨_, hit, rfl, rfl⟩, Nat.succ_ne_self _⟩, fun b hb => ?_, q⟩
    have e' : b = s1.heap.objs.size + 1 ∨ b = s1.heap.objs.size := by simpa using hb
    have hle : s1.heap.objs.size ≤ b := by
      rcases e' with z | z
      · rw [z]; exact Nat.le_add_right _ _
      · rw [z]; exact Nat.le_refl _
    exact I1.fpOk hle (I1.hok.fresh hle)
section
variable {e : En} {te : TE}
def xEnumT (s : State → Option D) : State → Option (List D) := fun α => match s α with | some (.tup xs) => some (enumL 0 xs) | _ => none
theorem ei_enumT {s : State → Option D} (h : Evp e te s) : Evi e (iEnumT e.K (tCons te tNil)) (xEnumT s) := fun c L S σ H α xs R q W k => by
  unfold xEnumT at q
  split at q
  · rename_i ys hs
    cases q
    refine h c L S σ H α _ R hs _ fun v H' e1 ⟨a, vs, e2, r1, r2⟩ => ?_
    subst e2
    refine ⟨a, vs, rfl, same_t fz_le r1, k _ H' e1 fun L2 H2 s2 dm i => ?_⟩
    have t2 : SqT e.K H2 a vs := same_t fz_le (same_t s2 r1)
    rw [enumL_len]
    refine ⟨fun hi => ⟨vs, vs[i]'(by rw [r2.len]; exact hi), t2, List.getElem?_eq_getElem _⟩, fun hi => ⟨vs, t2, by rw [r2.len]; exact hi⟩, fun x v H3 hx ⟨T, y, e3, n, e4, yy⟩ => ?_⟩
    subst e3 e4
    obtain ⟨d, h1, h2⟩ := enumL_get _ _ _ _ hx
    obtain ⟨v', h3, h4⟩ := r2.get h1
    have h5 := yy vs t2
    have h6 : v' = y := Option.some.inj (h3.symm.trans h5)
    subst h6
    have s3 : Sm H2 (upd H2 T (.tup [.int (i : Nat), v'])) := same_upd n
    refine ⟨s3, ?_⟩
    subst h2
    refine ⟨T, _, rfl, .inl (.inl (fz_new (fresh_nL dm n) upd_same)), Reps.cons ?_ (Reps.cons (h4.up (s2.trans (fz_same s3))) Reps.nil)⟩
    show V.int _ = V.int _
    rw [Int.zero_add]
  · cases q
end
end Ab
end
section
set_option maxRecDepth 100000
set_option maxHeartbeats 1000000
namespace Ab
open PySem L2 PyProof.Rows PySem.Spec
variable [Hd]
/-- a tuple of flat things at the module's top -/
def isTup (ds : List D) (o : Obj) : Prop := ∃ (its : Array Value) (n : Nat), o.cls = .type "tuple" ∧ o.data = .seq its n ∧ its.size ≤ sizeLine ∧ Vals (ds.map dv) its.toList ∧ ds.all flat = true ∧ o.dict = none
theorem reps_dv {e : En} {F : Hp} : ∀ {ds : List D}, ds.all flat = true → Reps e F ds (ds.map dv)
  | [], _ => Reps.nil
  | d :: ds, h => by
    simp only [List.all_cons, Bool.and_eq_true] at h
    exact Reps.cons (rep_of_flat h.1) (reps_dv h.2)
theorem top_tup {K : PySem.W.Frag} {cls : String → Addr} {q : Addr} {o : Obj} {ds : List D} (h : K.lookup q = some o) (r : isTup ds o) : ∀ F, Rep ⟨K, cls⟩ F (.tup ds) (.ref q) := fun F => by
  obtain ⟨its, n, h1, h2, h3, h4, h5, _⟩ := r
  exact ⟨q, _, rfl, .inr ⟨o, its, n, h, h1, h2, h3, h4⟩, reps_dv h5⟩
theorem top_ty {K : PySem.W.Frag} {q : Addr} {o : Obj} {ds : List D} (h : K.lookup q = some o) (r : isTup ds o) : ∀ H, tyV K "tuple" (.ref q) H := fun H => by
  obtain ⟨its, n, h1, h2, h3, h4, h5, h6⟩ := r
  exact .inr (.inl ⟨rfl, o, h, h1, h6⟩)
/-! ### the rules with the written part told by itself (within a comprehension's block) -/
section
variable {X : Cx} {K : PySem.W.Frag}
theorem ixl (h : X.K = K) : IxR X (rIxL K) := h ▸ ix_list
theorem ixt (h : X.K = K) : IxR X (rIxT K) := h ▸ ix_tup
theorem sll (h : X.K = K) : SlR X (rSlL K) := h ▸ sl_list
theorem sla (h : X.K = K) : SlR X (rSlA K) := h ▸ sl_tupA
theorem in_q (h : X.K = K) : OpR X (compareOp .In) (rIn K false) := h ▸ op_in_seq
theorem nin_q (h : X.K = K) : OpR X (compareOp .NotIn) (rIn K true) := h ▸ op_notIn_seq
theorem eq_q (h : X.K = K) (hu : X.A.units + 200 < cLine) : OpR X (compareOp .Eq) (rEqQ K) := h ▸ op_eqQ hu
theorem ne_q (h : X.K = K) (hu : X.A.units + 200 < cLine) : OpR X (compareOp .NotEq) (rNeQ K) := h ▸ op_neQ hu
theorem cat_q (h : X.K = K) : OpR X (binaryOp .Add) (rCatQ K) := h ▸ op_catQ
theorem cat_a (h : X.K = K) : OpR X (binaryOp .Add) (rCatA K) := h ▸ op_catA
theorem isi_q (h : X.K = K) : CallR X (.builtin "isinstance") (rIsi K) := h ▸ call_isi
theorem len_q (h : X.K = K) : CallR X (.builtin "len") (fun xs H Q => ∃ p ys, xs = [.ref p] ∧ (SqL K H p ys ∨ SqT K H p ys) ∧ Q (.int ys.length) H) := h ▸ call_len_seq
theorem list_q (h : X.K = K) : CallR X (.type "list") (fun xs H Q => ∃ p ys, xs = [.ref p] ∧ (SqL K H p ys ∨ SqT K H p ys) ∧ ∀ l, H l = none → Q (.ref l) (upd H l (.lst ys))) := h ▸ call_list_of
theorem tuple_q (h : X.K = K) : CallR X (.type "tuple") (fun xs H Q => ∃ p ys, xs = [.ref p] ∧ ((SqL K H p ys ∧ ∀ l, H l = none → Q (.ref l) (upd H l (.tup ys))) ∨ (SqT K H p ys ∧ Q (.ref p) H))) := h ▸ call_tuple_of
theorem sum_q (h : X.K = K) (hc : X.calm = true) : CallR X (.builtin "sum") (rSum K) := h ▸ cr_sum hc
theorem pil (h : X.K = K) {tg l : Expr} {tl : TE} (hl : PE X l tl) : PI X tg l (iList K tl) := h ▸ pi_list hl
theorem pit (h : X.K = K) {tg l : Expr} {tl : TE} (hl : PE X l tl) : PI X tg l (iTup K tl) := h ▸ pi_tup hl
theorem pienum (h : X.K = K) {e : Expr} {ta : TA} {p pos tpos : Pos} {elts : List Expr} {kk : Nat} (hg : Gl X "enumerate") (hm : X.mg "enumerate" = none) (ha : PA X [e] ta) (hs : starEach [e] X.env = [(false, eval e X.env)] := by rfl) :
    PI X (.Tuple elts kk tpos) (.Call (.Name "enumerate" p) [e] [] pos) (iEnum K ta) := h ▸ pi_enum hg hm ha hs
theorem pienumT (h : X.K = K) {e : Expr} {ta : TA} {p pos tpos : Pos} {elts : List Expr} {kk : Nat} (hg : Gl X "enumerate") (hm : X.mg "enumerate" = none) (ha : PA X [e] ta) (hs : starEach [e] X.env = [(false, eval e X.env)] := by rfl) :
    PI X (.Tuple elts kk tpos) (.Call (.Name "enumerate" p) [e] [] pos) (iEnumT K ta) := h ▸ pi_enumT hg hm ha hs
theorem pe_pop (h : X.K = K) {o : Expr} {to : TE} {apos cpos : Pos} (ho : PE X o to) (hbase : attributeBase o "pop" X.env (eval o X.env) = eval o X.env := by rfl) (hline : (apos.endLine == cpos.line) = true := by rfl) :
    PE X (.Call (.Attribute o "pop" apos) [] [] cpos) (tBM0 K "list" rPop to) := h ▸ pe_bm0 PySem.F.plainAttrs_list PySem.F.slot_list_pop PySem.F.type_list_pop mt_pop ho hbase hline
theorem pe_tuprev (h : X.K = K) {e : Expr} {te : TE} {p p2 pos pos2 : Pos} (hc : X.calm = true) (hg : Gl X "tuple") (hm : X.mg "tuple" = none) (hg2 : Gl X "reversed") (hm2 : X.mg "reversed" = none) (he : PE X e te)
    (q : PE X (.Call (.Name "tuple" p) [.Call (.Name "reversed" p2) [e] [] pos2] [] pos) (RT.tTupRev X.K te)) : PE X (.Call (.Name "tuple" p) [.Call (.Name "reversed" p2) [e] [] pos2] [] pos) (RT.tTupRev K te) := h ▸ q
end
end Ab
end
section
set_option maxRecDepth 100000
set_option maxHeartbeats 1000000
namespace Ab
open PySem L2 PyProof.Rows PySem.Spec
variable [Hd]
section
variable {α β : State} {i j : Nat} {d : D} {sa sb s s' : State → Option D} {f : D → D → Option D} {sq sq2 sr : State → Option (List D)} {st su : State → Option Bool}
@[simp] theorem a_xVar : xVar i α = (match α[i]? with | some (some (.dat d)) => some d | _ => none) := (rfl)
@[simp] theorem a_xC : xC d α = some d := (rfl)
@[simp] theorem a_x2 : x2 f sa sb α = bnd (sa α) fun a => bnd (sb α) fun b => f a b := (rfl)
@[simp] theorem a_x1 {g : D → Option D} : x1 g sa α = bnd (sa α) g := (rfl)
@[simp] theorem a_asB : asB s α = (match s α with | some (.bl b) => some b | _ => none) := (rfl)
@[simp] theorem a_tbNot : tbNot st α = (st α).map (!·) := (rfl)
@[simp] theorem a_tbAnd : tbAnd st su α = (match st α with | some true => su α | o => o) := (rfl)
@[simp] theorem a_tbOr : tbOr st su α = (match st α with | some false => su α | o => o) := (rfl)
@[simp] theorem a_xIf : xIf st sa sb α = (match st α with | some true => sa α | some false => sb α | none => none) := (rfl)
@[simp] theorem a_xB : xB st α = (st α).map .bl := (rfl)
@[simp] theorem a_aNil : aNil α = some [] := (rfl)
@[simp] theorem a_aCons : aCons s sr α = bnd (s α) fun d => bnd (sr α) fun ds => some (d :: ds) := (rfl)
@[simp] theorem a_xTup : xTup sr α = bnd (sr α) fun ds => if ds.length ≤ 100000 then some (.tup ds) else none := (rfl)
@[simp] theorem a_xL : xL sr α = (sr α).map .lst := (rfl)
@[simp] theorem a_qL : qL s α = (match s α with | some (.lst xs) => some xs | _ => none) := (rfl)
@[simp] theorem a_qT : qT s α = (match s α with | some (.tup xs) => some xs | _ => none) := (rfl)
@[simp] theorem a_qO : qO i α = (match ctOf α[i]? with | some (.lst xs) => some xs | _ => none) := (rfl)
@[simp] theorem a_xCall {m : List D → Option D} : xCall m sr α = bnd (sr α) m := (rfl)
@[simp] theorem a_xLen : xLen sq α = (match sq α with | some xs => some (.int xs.length) | none => none) := (rfl)
@[simp] theorem a_xIx : xIx sq sb α = bnd (sq α) fun xs => match sb α with | some (.int i) => atI xs i | _ => none := (rfl)
@[simp] theorem a_xSlL {sl sh : State → Option (Option Int)} : xSlL sq sl sh α = bnd (sq α) fun xs => bnd (sl α) fun lo => bnd (sh α) fun hi => some (cutD xs lo hi) := (rfl)
@[simp] theorem a_xSlA {sl sh : State → Option (Option Int)} : xSlA sq sl sh α = bnd (sq α) fun xs => bnd (sl α) fun lo => bnd (sh α) fun hi => some (.tup (cutD xs lo hi)) := (rfl)
@[simp] theorem a_oNone : oNone α = some none := (rfl)
@[simp] theorem a_oSome : oSome s α = (match s α with | some (.int i) => some (some i) | _ => none) := (rfl)
@[simp] theorem a_xTupL : xTupL sq α = (match sq α with | some xs => some (.tup xs) | none => none) := (rfl)
@[simp] theorem a_xSum : xSum sq α = bnd (sq α) fSum := (rfl)
@[simp] theorem a_xLend : xLend i s α = bnd (lendD i α) fun β => match s β with | some d => if flat d = true then some d else none | none => none := (rfl)
@[simp] theorem a_tLend : tLend i st α = bnd (lendD i α) st := (rfl)
@[simp] theorem a_xChain {g : D → D → Option D} : xChain f g sa sb s α = bnd (sa α) fun a => bnd (sb α) fun b => match f a b with
  | some (.bl true) => (bnd (s α) fun c => match g b c with | some (.bl k) => some (.bl k) | _ => none) | some (.bl false) => some (.bl false) | _ => none := (rfl)
@[simp] theorem a_xTupRev : xTupRev sq α = (match sq α with | some xs => some (.tup xs.reverse) | none => none) := (rfl)
@[simp] theorem a_xEnum : xEnum s α = (match s α with | some (.lst xs) => some (enumL 0 xs) | _ => none) := (rfl)
@[simp] theorem a_xEnumT : xEnumT s α = (match s α with | some (.tup xs) => some (enumL 0 xs) | _ => none) := (rfl)
@[simp] theorem a_xCat : xCat sq sq2 α = bnd (sq α) fun xs => bnd (sq2 α) fun ys => lenOk (xs ++ ys) := (rfl)
@[simp] theorem a_xCatT : xCatT sq sq2 α = bnd (sq α) fun xs => bnd (sq2 α) fun ys => if (xs ++ ys).length ≤ 100000 then some (.tup (xs ++ ys)) else none := (rfl)
@[simp] theorem a_xLc {vs : List Nat} {gt : D → State → Option State} : xLc vs sq gt st s α = bnd (sq α) fun xs => if xs.length ≤ 100000 then lcF gt st s xs (wipeA vs α) else none := (rfl)
@[simp] theorem a_tbYes : tbYes α = some true := (rfl)
theorem rngOk_of {n : Int} (h0 : -1000000 ≤ n) (h1 : n ≤ 1000000) : rngOk n = true := by
  unfold rngOk
  exact decide_eq_true ⟨Int.le_trans (by decide) h0, Int.lt_of_le_of_lt h1 (by decide)⟩
theorem rngOk_nat {n : Nat} (h1 : n ≤ 1000000) : rngOk (n : Int) = true := rngOk_of (by omega) (by omega)
@[simp] theorem rngOk_0 : rngOk 0 = true := rngOk_of (by omega) (by omega)
@[simp] theorem rngOk_1 : rngOk 1 = true := rngOk_of (by omega) (by omega)
@[simp] theorem rngOk_2 : rngOk 2 = true := rngOk_of (by omega) (by omega)
@[simp] theorem a_xRng1 : xRng1 sr α = (match sr α with | some [.int n] => if rngOk n = true then some (rngD 0 n.toNat) else none | _ => none) := (rfl)
@[simp] theorem a_xRng2 : xRng2 sr α = (match sr α with | some [.int a, .int n] => if rngOk a = true ∧ rngOk n = true then some (rngD a (n - a).toNat) else none | _ => none) := (rfl)
@[simp] theorem a_lift : lift s α = (match s α with | some d => .ok d α | none => .bad) := (rfl)
@[simp] theorem a_liftL : liftL sq α = (match sq α with | some d => .ok d α | none => .bad) := (rfl)
@[simp] theorem a_liftB : liftB st α = (match st α with | some d => .ok d α | none => .bad) := (rfl)
section
variable {r : State → Res D} {rl : State → Res (List D)} {rb : State → Res Bool} {u v : State → Out} {ra : State → Res (List Arg)} {gt : D → State → Option State} {gs : List D → State → Option State}
@[simp] theorem a_sSeq : sSeq u v α = (match u α with | .nxt β => v β | o => o) := (rfl)
@[simp] theorem a_sNext : sNext α = .nxt α := (rfl)
@[simp] theorem a_sBrk : sBrk α = .brk α := (rfl)
@[simp] theorem a_sCnt : sCnt α = .cnt α := (rfl)
@[simp] theorem a_sSet : sSet i r α = (match r α with | .ok d α' => .nxt (α'.set i (some (.dat d))) | .exc x => .exc x | .bad => .bad) := (rfl)
@[simp] theorem a_sSetL : sSetL i rl α = (match rl α with | .ok xs α' => .nxt (α'.set i (some (.own (.lst xs)))) | .exc x => .exc x | .bad => .bad) := (rfl)
@[simp] theorem a_sIf : sIf rb u v α = (match rb α with | .ok true α' => u α' | .ok false α' => v α' | .exc x => .exc x | .bad => .bad) := (rfl)
@[simp] theorem a_sDrop : sDrop r α = (match r α with | .ok _ α' => .nxt α' | .exc x => .exc x | .bad => .bad) := (rfl)
@[simp] theorem a_sRet : sRet r α = (match r α with | .ok d α' => .ret (.dat d) α' | .exc x => .exc x | .bad => .bad) := (rfl)
@[simp] theorem a_sRetN : sRetN α = .ret (.dat .non) α := (rfl)
@[simp] theorem a_sRetL : sRetL rl α = (match rl α with | .ok xs α' => .ret (.lst xs) α' | .exc x => .exc x | .bad => .bad) := (rfl)
@[simp] theorem a_sRetO : sRetO i α = (match α[i]? with | some (some (.own (.lst xs))) => .ret (.lst xs) α | _ => .bad) := (rfl)
@[simp] theorem a_sFrz : sFrz i u α = u (frzD i α) := (rfl)
@[simp] theorem a_gN {x : D} : gN i x α = some (α.set i (some (.dat x))) := (rfl)
@[simp] theorem a_gsN : gsN [] α = some α := (rfl)
@[simp] theorem a_gsC {x : D} {xs : List D} : gsC gt gs (x :: xs) α = bnd (gt x α) (gs xs) := (rfl)
@[simp] theorem a_gT {n : Nat} {xs : List D} : gT n gs (.tup xs) α = if xs.length = n then gs xs α else none := (rfl)
@[simp] theorem a_sFor {sx : State → Option (List D)} : sFor sx gt u α = (match sx α with | some xs => loopF gt u xs α | none => .bad) := (rfl)
@[simp] theorem a_sApp : sApp i r α = if isL α[i]? = true then (match r α with
  | .ok d α' => (match ctOf α'[i]? with | some (.lst xs) => if xs.length < 100000 then .nxt (putC α' i (.lst (xs ++ [d]))) else .bad | _ => .bad)
  | .exc x => .exc x | .bad => .bad) else .bad := (rfl)
@[simp] theorem a_xPop : xPop i α = (match ctOf α[i]? with | some (.lst xs) => (match xs.getLast? with | some d => .ok d (putC α i (.lst xs.dropLast)) | none => .bad) | _ => .bad) := (rfl)
@[simp] theorem a_sSetI : sSetI i r s α = (match r α with
  | .ok d α' => (match s α', ctOf α'[i]? with | some (.int z), some (.lst xs) => (match ixN xs.length z with | some j => .nxt (putC α' i (.lst (xs.set j d))) | none => .bad) | _, _ => .bad)
  | .exc x => .exc x | .bad => .bad) := (rfl)
@[simp] theorem a_anil : anil α = .ok [] α := (rfl)
@[simp] theorem a_acons : acons r ra α = (match r α with
  | .ok d α1 => (match ra α1 with | .ok as α2 => .ok (.dat d :: as) α2 | .exc x => .exc x | .bad => .bad)
  | .exc x => .exc x | .bad => .bad) := (rfl)
@[simp] theorem a_aslot : aslot i ra α = if (ctOf α[i]?).isSome = true then (match ra α with | .ok as α2 => .ok (.slot i :: as) α2 | .exc x => .exc x | .bad => .bad) else .bad := (rfl)
@[simp] theorem a_rCall {m : List D → Option D} : rCall m ra α = (match ra α with
  | .ok as α1 => (match bnd (datas as) m with | some d => .ok d α1 | none => .bad)
  | .exc x => .exc x | .bad => .bad) := (rfl)
@[simp] theorem a_rTup : rTup ra α = (match ra α with
  | .ok as α1 => (match datas as with | some ds => if ds.length ≤ 100000 then .ok (.tup ds) α1 else .bad | none => .bad)
  | .exc x => .exc x | .bad => .bad) := (rfl)
@[simp] theorem a_datN : datas [] = some [] := (rfl)
@[simp] theorem a_datC {d : D} {as : List Arg} : datas (.dat d :: as) = (datas as).map (d :: ·) := (rfl)
@[simp] theorem a_rCallM {m : List A → MRes} : rCallM m ra α = (match ra α with
  | .ok as α1 => (match slots as with
    | [i] => (match toAs as α1 with
      | some bs => (match m bs with
        | .ok (.dat d) bs' => (match bs'.find? (fun b => match b with | .inn _ => true | _ => false) with | some (.inn ct) => .ok d (putC α1 i ct) | _ => .bad)
        | .exc x => .exc x
        | _ => .bad)
      | none => .bad)
    | _ => .bad)
  | .exc x => .exc x
  | .bad => .bad) := (rfl)
@[simp] theorem a_slN : slots [] = [] := (rfl)
@[simp] theorem a_slS {as : List Arg} : slots (.slot i :: as) = i :: slots as := (rfl)
@[simp] theorem a_slD {d : D} {as : List Arg} : slots (.dat d :: as) = slots as := (rfl)
@[simp] theorem a_toN : toAs [] α = some [] := (rfl)
@[simp] theorem a_toD {d : D} {as : List Arg} : toAs (.dat d :: as) α = (toAs as α).map (.dat d :: ·) := (rfl)
@[simp] theorem a_toS {as : List Arg} : toAs (.slot i :: as) α = (match ctOf α[i]? with | some ct => (toAs as α).map (.inn ct :: ·) | none => none) := (rfl)
@[simp] theorem a_rLc {vs : List Nat} : rLc vs sq gt r α = (match sq α with
  | some xs => if xs.length ≤ 100000 then lcE gt r vs xs (wipeA vs α) else .bad
  | none => .bad) := (rfl)
end
@[simp] theorem a_ctD : ctOf (some (some (.dat d))) = none := (rfl)
@[simp] theorem a_ctO {c : Ct} : ctOf (some (some (.own c))) = some c := (rfl)
@[simp] theorem a_ctI {c : Ct} : ctOf (some (some (.inn c))) = some c := (rfl)
@[simp] theorem a_isLO {xs : List D} : isL (some (some (.own (.lst xs)))) = true := (rfl)
@[simp] theorem a_isLI {xs : List D} : isL (some (some (.inn (.lst xs)))) = true := (rfl)
@[simp] theorem a_wN : wipeA [] α = α := (rfl)
@[simp] theorem a_wC {v : Nat} {vs : List Nat} : wipeA (v :: vs) α = (wipeA vs α).set v none := (rfl)
@[simp] theorem a_add {i j : Int} : ii (fun i j => some (.int (i + j))) (.int i) (.int j) = some (.int (i + j)) := (rfl)
@[simp] theorem a_ii {g : Int → Int → Option D} {i j : Int} : ii g (.int i) (.int j) = g i j := (rfl)
@[simp] theorem a_eqI {i j : Int} : fEq (.int i) (.int j) = some (.bl (decide (i = j))) := by
  simp [fEq, flat, scal, dv]
@[simp] theorem a_neI {i j : Int} : fNe (.int i) (.int j) = some (.bl (!decide (i = j))) := by
  simp [fNe, flat, scal, dv]
@[simp] theorem a_eqS {i j : Str} : fEq (.str i) (.str j) = some (.bl (decide (i = j))) := by
  simp [fEq, flat, scal, dv]
@[simp] theorem a_neS {i j : Str} : fNe (.str i) (.str j) = some (.bl (!decide (i = j))) := by
  simp [fNe, flat, scal, dv]
@[simp] theorem a_eqB {i j : Bool} : fEq (.bl i) (.bl j) = some (.bl (decide (i = j))) := by
  simp [fEq, flat, scal, dv]
@[simp] theorem a_neB {i j : Bool} : fNe (.bl i) (.bl j) = some (.bl (!decide (i = j))) := by
  simp [fNe, flat, scal, dv]
@[simp] theorem a_min2 {i j : Int} : fMin2 [.int i, .int j] = some (.int (if j < i then j else i)) := (rfl)
@[simp] theorem a_max2 {i j : Int} : fMax2 [.int i, .int j] = some (.int (if j > i then j else i)) := (rfl)
@[simp] theorem a_neg {i : Int} : fNeg (.int i) = some (.int (-i)) := (rfl)
@[simp] theorem a_lenOk {β : Type} {xs : List β} : lenOk xs = if xs.length ≤ 100000 then some xs else none := (rfl)
theorem atI_zero {β : Type} {x : β} {xs : List β} : atI (x :: xs) 0 = some x := by
  unfold atI ixN
  rw [if_pos (by decide), if_pos (by simp only [List.length_cons]; omega)]; rfl
theorem atI_nat' {β : Type} {xs : List β} {i : Nat} (h : i < xs.length) : atI xs (i : Int) = some xs[i] := by
  unfold atI ixN
  rw [if_pos (by omega), if_pos (by omega)]
  show xs[((i : Nat) : Int).toNat]? = _
  rw [Int.toNat_natCast, List.getElem?_eq_getElem h]
@[simp] theorem atI0 {β : Type} {x : β} {xs : List β} : atI (x :: xs) 0 = some x := atI_zero
@[simp] theorem atI1 {β : Type} {x y : β} {xs : List β} : atI (x :: y :: xs) 1 = some y := by
  unfold atI ixN
  rw [if_pos (by decide), if_pos (by simp only [List.length_cons]; omega)]; rfl
@[simp] theorem atI2 {β : Type} {x y z : β} {xs : List β} : atI (x :: y :: z :: xs) 2 = some z := by
  unfold atI ixN
  rw [if_pos (by decide), if_pos (by simp only [List.length_cons]; omega)]; rfl
theorem cutD_from {xs : List D} {k : Nat} : cutD xs (some (k : Int)) none = xs.drop k := by
  unfold cutD
  rw [HT.sIx_nat, HT.sIx_none]
  rw [List.take_of_length_le (by rw [List.length_drop]; omega)]
  by_cases h : k ≤ xs.length
  · rw [Nat.min_eq_left h]
  · rw [Nat.min_eq_right (by omega), List.drop_of_length_le (Nat.le_refl _), List.drop_of_length_le (by omega)]
theorem cutD_to {xs : List D} {k : Nat} : cutD xs none (some (k : Int)) = xs.take k := by
  unfold cutD
  rw [HT.sIx_nat, HT.sIx_none]
  rw [List.drop_zero, Nat.sub_zero]
  by_cases h : k ≤ xs.length
  · rw [Nat.min_eq_left h]
  · rw [Nat.min_eq_right (by omega), List.take_of_length_le (Nat.le_refl _), List.take_of_length_le (by omega)]
theorem cutD_mid {xs : List D} {i j : Nat} (h : i ≤ j) : cutD xs (some (i : Int)) (some (j : Int)) = (xs.drop i).take (j - i) := by
  unfold cutD
  rw [HT.sIx_nat, HT.sIx_nat]
  by_cases h1 : i ≤ xs.length
  · rw [Nat.min_eq_left h1]
    by_cases h2 : j ≤ xs.length
    · rw [Nat.min_eq_left h2]
    · rw [Nat.min_eq_right (by omega), List.take_of_length_le (by rw [List.length_drop]; omega), List.take_of_length_le (by rw [List.length_drop]; omega)]
  · rw [Nat.min_eq_right (show xs.length ≤ i by omega), Nat.min_eq_right (show xs.length ≤ j by omega), List.drop_of_length_le (Nat.le_refl _), List.drop_of_length_le (show xs.length ≤ i by omega)]; simp
@[simp] theorem cutD1 {xs : List D} : cutD xs (some 1) none = xs.drop 1 := cutD_from (k := 1)
/-! ### == -/
mutual
theorem eqv_refl : ∀ d : D, PyData.eqv (py d) (py d) = true
  | .non => rfl
  | .bl b => by show (b == b) = true; simp
  | .int b => by show (b == b) = true; simp
  | .str b => by show (b == b) = true; simp
  | .tup xs => by show PyData.eqvAll (pys xs) (pys xs) = true; exact eqvs_refl xs
  | .lst xs => by show PyData.eqvAll (pys xs) (pys xs) = true; exact eqvs_refl xs
  | .ins _ _ => rfl
  | .ty _ => rfl
  | .cls _ => rfl
  | .dic _ => rfl
theorem eqvs_refl : ∀ ds : List D, PyData.eqvAll (pys ds) (pys ds) = true
  | [] => rfl
  | d :: ds => by
    show (PyData.eqv (py d) (py d) && PyData.eqvAll (pys ds) (pys ds)) = true
    rw [eqv_refl d, eqvs_refl ds]; rfl
end
/-! data without truths: == tells it apart -/
mutual
def noBl : D → Bool
  | .bl _ => false | .ins _ _ => false | .ty _ => false | .cls _ => false | .dic _ => false
  | .tup xs => noBls xs | .lst xs => noBls xs
  | _ => true
def noBls : List D → Bool
  | [] => true | d :: ds => noBl d && noBls ds
end
mutual
theorem eqv_eq : ∀ (a b : D), noBl a = true → noBl b = true → PyData.eqv (py a) (py b) = true → a = b
  | .non, b, _, hb, h => by cases b <;> first | rfl | (simp [noBl] at hb; done) | (simp [py, PyData.eqv] at h; done)
  | .int i, b, _, hb, h => by cases b <;> first | (simp [noBl] at hb; done) | (simp [py, PyData.eqv] at h; done) | (simp [py, PyData.eqv] at h; rw [h])
  | .str i, b, _, hb, h => by cases b <;> first | (simp [noBl] at hb; done) | (simp [py, PyData.eqv] at h; done) | (simp [py, PyData.eqv] at h; rw [h])
  | .tup xs, b, ha, hb, h => by
    cases b with
    | tup ys => rw [eqvs_eq xs ys (by simpa [noBl] using ha) (by simpa [noBl] using hb) (by simpa [py, PyData.eqv] using h)]
    | _ => first | (simp [noBl] at hb; done) | (simp [py, PyData.eqv] at h; done)
  | .lst xs, b, ha, hb, h => by
    cases b with
    | lst ys => rw [eqvs_eq xs ys (by simpa [noBl] using ha) (by simpa [noBl] using hb) (by simpa [py, PyData.eqv] using h)]
    | _ => first | (simp [noBl] at hb; done) | (simp [py, PyData.eqv] at h; done)
  | .bl _, _, ha, _, _ => by simp [noBl] at ha
  | .ins _ _, _, ha, _, _ => by simp [noBl] at ha
  | .ty _, _, ha, _, _ => by simp [noBl] at ha
  | .cls _, _, ha, _, _ => by simp [noBl] at ha
  | .dic _, _, ha, _, _ => by simp [noBl] at ha
theorem eqvs_eq : ∀ (a b : List D), noBls a = true → noBls b = true → PyData.eqvAll (pys a) (pys b) = true → a = b
  | [], [], _, _, _ => rfl
  | [], _ :: _, _, _, h => by simp [pys, PyData.eqvAll] at h
  | _ :: _, [], _, _, h => by simp [pys, PyData.eqvAll] at h
  | a :: as, b :: bs, ha, hb, h => by
    simp only [noBls, Bool.and_eq_true] at ha hb
    simp only [pys, PyData.eqvAll, Bool.and_eq_true] at h
    rw [eqv_eq a b ha.1 hb.1 h.1, eqvs_eq as bs ha.2 hb.2 h.2]
end
end
end Ab
end
section
set_option maxRecDepth 100000
set_option maxHeartbeats 1000000
namespace Ab
open PySem L2 PyProof.Rows PySem.Spec
variable [Hd]
theorem loop_cons' {gt : D → State → Option State} {bl : State → Out} {x : D} {xs : List D} {α α' β : State} (h1 : gt x α = some α') (h2 : bl α' = .nxt β) : loopF gt bl (x :: xs) α = loopF gt bl xs β := by
  conv => lhs; unfold loopF
  simp [h1, h2]
/-- a loop that goes through to its end; P i: what stands when i turns are done -/
theorem loop_all {gt : D → State → Option State} {bl : State → Out} (P : Nat → State → Prop) : ∀ (xs : List D) (i : Nat) (α : State), P i α → (∀ (j : Nat) (x : D) (β : State), xs[j]? = some x → P (i + j) β → ∃ γ δ, gt x β = some γ ∧ bl γ = .nxt δ ∧ P (i + j + 1) δ) → ∃ δ, loopF gt bl xs α = .nxt δ ∧ P (i + xs.length) δ
  | [], i, α, h, _ => ⟨α, rfl, h⟩
  | x :: xs, i, α, h, hs => by
    obtain ⟨γ, δ, h1, h2, h3⟩ := hs 0 x α rfl h
    obtain ⟨ε, h4, h5⟩ := loop_all P xs (i + 1) δ h3 fun j y β hj hp => by
      have := hs (j + 1) y β (by simpa using hj) (by rw [show i + (j + 1) = i + 1 + j by omega]; exact hp)
      obtain ⟨γ, δ, a, b, c⟩ := this
      exact ⟨γ, δ, a, b, by rw [show i + 1 + j + 1 = i + (j + 1) + 1 by omega]; exact c⟩
    exact ⟨ε, (loop_cons' h1 h2).trans h4, by rw [show i + (x :: xs).length = i + 1 + xs.length by simp; omega]; exact h5⟩
/-- the same over a mapped list -/
theorem loop_map {ι : Type} {gt : D → State → Option State} {bl : State → Out} (E : ι → D) (P : Nat → State → Prop) (xs : List ι) (α : State) (h0 : P 0 α) (hs : ∀ (j : Nat) (hj : j < xs.length) (β : State), P j β → ∃ γ δ, gt (E xs[j]) β = some γ ∧ bl γ = .nxt δ ∧ P (j + 1) δ) : ∃ δ, loopF gt bl (xs.map E) α = .nxt δ ∧ P xs.length δ := by
  have := loop_all (gt := gt) (bl := bl) P (xs.map E) 0 α h0 fun j x β hj hp => by
    rw [List.getElem?_map] at hj
    by_cases hl : j < xs.length
    · rw [List.getElem?_eq_getElem hl] at hj
      cases hj
      rw [Nat.zero_add] at hp ⊢
      exact hs j hl β hp
    · rw [List.getElem?_eq_none (by omega)] at hj; cases hj
  simpa using this
/-- range(n) -/
theorem loop_rng {gt : D → State → Option State} {bl : State → Out} (lo : Int) (n : Nat) (P : Nat → State → Prop) (α : State) (h0 : P 0 α) (hs : ∀ (j : Nat), j < n → ∀ (β : State), P j β → ∃ γ δ, gt (.int (lo + (j : Int))) β = some γ ∧ bl γ = .nxt δ ∧ P (j + 1) δ) : ∃ δ, loopF gt bl (rngD lo n) α = .nxt δ ∧ P n δ := by
  have := loop_map (gt := gt) (bl := bl) (fun (k : Nat) => D.int (lo + (k : Int))) P (List.range n) α h0 fun j hj β hp => by
    rw [List.getElem_range]
    exact hs j (by simpa using hj) β hp
  simpa [rngD] using this
theorem lcF_maps {gt : D → State → Option State} {st : State → Option Bool} {se : State → Option D} {α : State} {ι : Type} {E F : ι → D} : ∀ {xs : List ι}, (∀ x ∈ xs, ∃ β, gt (E x) α = some β ∧ st β = some true ∧ se β = some (F x)) → lcF gt st se (xs.map E) α = some (xs.map F)
  | [], _ => rfl
  | x :: xs, h => by
    obtain ⟨β, h1, h0, h2⟩ := h x List.mem_cons_self
    show lcF gt st se (E x :: xs.map E) α = _
    unfold lcF
    rw [h1]
    simp [h0, h2, lcF_maps (xs := xs) fun y m => h y (List.mem_cons_of_mem _ m)]
theorem lcF_filter {gt : D → State → Option State} {st : State → Option Bool} {se : State → Option D} {α : State} {ι : Type} {E F : ι → D} {p : ι → Bool} : ∀ {xs : List ι}, (∀ x ∈ xs, ∃ β, gt (E x) α = some β ∧ st β = some (p x) ∧ (p x = true → se β = some (F x))) → lcF gt st se (xs.map E) α = some ((xs.filter p).map F)
  | [], _ => rfl
  | x :: xs, h => by
    obtain ⟨β, h1, h2, h3⟩ := h x List.mem_cons_self
    show lcF gt st se (E x :: xs.map E) α = _
    unfold lcF
    have ih := lcF_filter (xs := xs) fun y m => h y (List.mem_cons_of_mem _ m)
    rw [h1]
    cases hp : p x
    · rw [hp] at h2
      simp [h2, ih, hp]
    · rw [hp] at h2
      simp [h2, ih, hp, h3 hp]
/-! lists of whole numbers given by a function -/
def df (f : Nat → Int) (n : Nat) : List D := (List.range n).map fun i => .int (f i)
@[simp] theorem df_len {f : Nat → Int} {n : Nat} : (df f n).length = n := by simp [df]
theorem df_get {f : Nat → Int} {n i : Nat} (h : i < n) : (df f n)[i]? = some (.int (f i)) := by
  unfold df; rw [List.getElem?_map, List.getElem?_eq_getElem (by simpa using h)]; simp
theorem df_at {f : Nat → Int} {n j : Nat} {i : Int} (hj : i = j) (h : j < n) : atI (df f n) i = some (.int (f j)) := by
  subst hj
  rw [atI_nat' (by simpa using h)]
  have := df_get (f := f) h
  rw [List.getElem?_eq_getElem (by simpa using h)] at this
  exact this
theorem df_ext {f g : Nat → Int} {n : Nat} (h : ∀ i, i < n → f i = g i) : df f n = df g n := List.map_congr_left fun i hi => by rw [h i (List.mem_range.mp hi)]
theorem df_set {f : Nat → Int} {n i : Nat} {v : Int} : (df f n).set i (.int v) = df (fun x => if x = i then v else f x) n := by
  apply List.ext_getElem?
  intro j
  rw [List.getElem?_set]
  by_cases h : j < n
  · rw [df_get h, df_get h]
    by_cases e : i = j
    · subst e; rw [if_pos rfl, if_pos (by simpa using h), if_pos rfl]
    · rw [if_neg e, if_neg fun z => e z.symm]
  · rw [List.getElem?_eq_none (by simpa using h), List.getElem?_eq_none (by simpa using h)]
    split
    · rw [if_neg (by simpa using (by omega : ¬ i < n))]
    · rfl
theorem df_snoc {f : Nat → Int} {n : Nat} : df f n ++ [.int (f n)] = df f (n + 1) := by
  unfold df; rw [List.range_succ, List.map_append]; rfl
theorem df_ints {f : Nat → Int} {n : Nat} : df f n = ((List.range n).map f).map .int := by
  unfold df; rw [List.map_map]; rfl
theorem ints_df (ns : List Int) : ns.map D.int = df (fun i => ns.getD i 0) ns.length := by
  apply List.ext_getElem?
  intro j
  by_cases h : j < ns.length
  · rw [df_get h, List.getElem?_map, List.getElem?_eq_getElem h, List.getD_eq_getElem?_getD, List.getElem?_eq_getElem h]; rfl
  · rw [List.getElem?_eq_none (by simpa using h), List.getElem?_eq_none (by simpa using h)]
theorem fSum_intsL (ns : List Int) : fSum (ns.map .int) = some (.int ns.sum) := by
  unfold fSum; rw [dints_of]; rfl
theorem ixN_nat {n i : Nat} (h : i < n) : ixN n (i : Int) = some i := by
  unfold ixN
  rw [if_pos (by omega), if_pos (by omega)]
  rfl
theorem toNat_sub' (a b : Nat) : ((a : Int) - (b : Int)).toNat = a - b := by omega
end Ab
end
section
set_option maxRecDepth 100000
set_option maxHeartbeats 1000000
namespace Ab
open PySem L2 PyProof.Rows PySem.Spec
variable [Hd]
section
variable {e : En} {te : TE} {s : State → Option D}
/-! ### a field of an object that stands still -/
def xFld (c : String) (f : Str) (s : State → Option D) : State → Option D := fun α => match s α with | some (.ins c' fs) => if c' = c then fs.lookup f else none | _ => none
theorem repF_lookup {F : Hp} {f : Str} {d : D} : ∀ {fs : List (Str × D)} {gs : List (Str × V)}, RepF e F fs gs → fs.lookup f = some d → ∃ v, gs.lookup f = some v ∧ Rep e F d v
  | [], _, _, h => by cases h
  | (x, y) :: fs, _, ⟨v, r, q, r1, r2⟩, h => by
    subst q
    rw [List.lookup_cons] at h ⊢
    cases hx : f == x with
    | true => rw [hx] at h; cases h; exact ⟨v, rfl, r1⟩
    | false => rw [hx] at h; exact repF_lookup r2 h
theorem ev_fld {c : String} {f : Str} (hc : Cls e.K (e.cls c)) (hn : NoAttr e.K (e.cls c) f) (h : Evp e te s) : Evp e (tFld e.K te f) (xFld c f s) := fun cn L S σ H α d R q Q k => by
  unfold xFld at q
  split at q
  · rename_i c' fs hs
    split at q
    · rename_i hcc
      subst hcc
      refine h cn L S σ H α _ R hs _ fun v H1 e1 r1 => ?_
      obtain ⟨a, dx, gs, rfl, h2, h3⟩ := r1
      obtain ⟨v, h4, h5⟩ := repF_lookup h3 q
      exact ⟨a, _, dx, gs, v, rfl, fz_le _ _ h2, hc, hn, h4, k v H1 e1 h5⟩
    · cases q
  · cases q
theorem pe_fldK {X : Cx} {K : PySem.W.Frag} (hK : X.K = K) {o : Expr} {f : Str} {pos : Pos} {ta : TE} (he : PE X o ta) (hb : attributeBase o f X.env (eval o X.env) = eval o X.env := by rfl) : PE X (.Attribute o f pos) (tFld K ta f) := hK ▸ pe_fld he hb
/-! ### wide products -/
instance (i j : Int) : Decidable (CMulW i j) := by unfold CMulW; infer_instance
instance (i j : Int) : Decidable (CDivW i j) := by unfold CDivW; infer_instance
abbrev fMulW : D → D → Option D := ii fun i j => if CMulW i j then some (.int (i * j)) else none
abbrev fDivW : D → D → Option D := ii fun i j => if CDivW i j then some (.int (i / j)) else none
theorem rv_mulW : RvD e (rI CMulW fun i j => .int (i * j)) fMulW := rv_I fun _ _ _ => rfl
theorem rv_divW : RvD e (rI CDivW fun i j => .int (i / j)) fDivW := rv_I fun _ _ _ => rfl
@[simp] theorem a_xFld {c : String} {f : Str} {α : State} : xFld c f s α = (match s α with | some (.ins c' fs) => if c' = c then fs.lookup f else none | _ => none) := (rfl)
end
end Ab
end
section
set_option maxRecDepth 100000
set_option maxHeartbeats 1000000
namespace Ab
open PySem L2 PyProof.Rows PySem.Spec
variable [Hd]
/-- a method with its promise -/
structure CalM (P : Program) (w : World) (K : PySem.W.Frag) (mg : Str → Option Value) (base : Heap) (C : Addr) (m : Str) (ps : List Str) (k : Nat) (sp : Sp) : Prop where
  ex : ∃ f fd, FnOk P w K mg base CX0 k f fd ps sp ∧ Meth K C m f ∧ Binds K fd ps []
section
variable {P : Program} {w : World} {K : PySem.W.Frag} {mg : Str → Option Value} {base : Heap} {C : Addr} {m : Str} {ps : List Str} {k j : Nat} {sp : Sp}
theorem CalM.mono (M : CalM P w K mg base C m ps k sp) (h : k ≤ j) : CalM P w K mg base C m ps j sp := by
  obtain ⟨f, fd, G, r⟩ := M.ex
  exact ⟨f, fd, G.mono h, r⟩
theorem CalM.vacuous {f : Addr} {fd : FuncData} (hm : Meth K C m f) (hb : Binds K fd ps []) (no : ∀ vs H Q E, ¬ sp vs H Q E) : CalM P w K mg base C m ps k sp :=
  ⟨f, fd, ⟨fun vs H Q E h => absurd h (no vs H Q E), fun A outer s H args us vs Q E _ _ _ _ h => absurd h (no vs H Q E)⟩, hm, hb⟩
end
/-- a class that is called: with the promise of its __init__ -/
structure CalI (P : Program) (w : World) (K : PySem.W.Frag) (mg : Str → Option Value) (base : Heap) (x : Str) (C : Addr) (ps : List Str) (k : Nat) (sp : Sp) : Prop where
  ex : ∃ f fd, FnOk P w K mg base CX0 k f fd ps sp ∧ Mk K C f ∧ Binds K fd ps [] ∧ mg x = some (.ref C)
/-- the methods of one name by the classes -/
def tMethV (tbl : List (Addr × Sp)) (mn : Str) (ta : TE) (t : TA) : TE := fun σ H Q => ∃ p ∈ tbl, tMeth p.1 mn p.2 [] E0 ta t σ H Q
section
variable {X : Cx} {C : Addr} {mn x : Str} {ps : List Str} {k j : Nat} {sp : Sp} {ta : TE} {o e : Expr} {es : List Expr} {t : TA} {apos pos p : Pos}
theorem pe_calm {pl : Sem Bool} (he : PE X o ta) (c : Cls X.K C) (M : CalM X.prog X.w X.K X.mg X.base C mn ps k sp) (hr : Room j X.A) (hkj : k ≤ j) (ha : PA X (e :: es) t)
    (hst : starEach (e :: es) X.env = (false, eval e X.env) :: starEach es X.env := by rfl) (hpl : (backTo pos (starEach es X.env)).any (·.1) = false := by rfl)
    (ht : eval (.Call (.Attribute o mn apos) (e :: es) [] pos) X.env = (do
      let ov ← eval o X.env
      standAt apos.atName
      let (f, first) ← holding [ov] (getMethod ov mn pl)
      callWith pos f first (backTo pos (starEach (e :: es) X.env)) (backToKw pos (keywordEach [] X.env))) := by rfl) : PE X (.Call (.Attribute o mn apos) (e :: es) [] pos) (tMeth C mn sp [] E0 ta t) := by
  obtain ⟨f, fd, G, hm, hb⟩ := M.ex
  exact pe_meth (pl := pl) he c hm G (hr.mono hkj) hb .nil pass0 ha hst hpl ht
theorem pe_calm0 {pl : Sem Bool} (he : PE X o ta) (c : Cls X.K C) (M : CalM X.prog X.w X.K X.mg X.base C mn ps k sp) (hr : Room j X.A) (hkj : k ≤ j)
    (ht : eval (.Call (.Attribute o mn apos) [] [] pos) X.env = (do
      let ov ← eval o X.env
      standAt apos.atName
      let (f, first) ← holding [ov] (getMethod ov mn pl)
      callWith pos f first (backTo pos (starEach [] X.env)) (backToKw pos (keywordEach [] X.env))) := by rfl) : PE X (.Call (.Attribute o mn apos) [] [] pos) (tMeth C mn sp [] E0 ta tNil) := by
  obtain ⟨f, fd, G, hm, hb⟩ := M.ex
  exact pe_meth0 (pl := pl) he c hm G (hr.mono hkj) hb .nil pass0 ht
theorem pe_methV {tbl : List (Addr × Sp)} {e0 : Expr} (h : ∀ p ∈ tbl, PE X e0 (tMeth p.1 mn p.2 [] E0 ta t)) : PE X e0 (tMethV tbl mn ta t) := by
  refine ⟨fun pins s σ H Q I ⟨p, hp, q⟩ => ?_⟩
  exact (h p hp).run pins s σ H Q I q
theorem pe_cali (M : CalI X.prog X.w X.K X.mg X.base x C ps k sp) (hr : Room j X.A) (hkj : k + 1 ≤ j) (hg : Gl X x) (ha : PA X (e :: es) t) (hdb : (x == ("__debug__" : Str)) = false := by decide) (he : starEach (e :: es) X.env = (false, eval e X.env) :: starEach es X.env := by rfl) (hpl : (backTo pos (starEach es X.env)).any (·.1) = false := by rfl) :
    PE X (.Call (.Name x p) (e :: es) [] pos) (tMake C sp [] E0 t) := by
  obtain ⟨f, fd, G, M, hb, hm⟩ := M.ex
  exact pe_make M G (hr.mono hkj) hg hm hb .nil pass0 ha hdb he hpl
theorem pe_cali0 (M : CalI X.prog X.w X.K X.mg X.base x C ps k sp) (hr : Room j X.A) (hkj : k + 1 ≤ j) (hg : Gl X x) (hdb : (x == ("__debug__" : Str)) = false := by decide) : PE X (.Call (.Name x p) [] [] pos) (tMake C sp [] E0 tNil) := by
  obtain ⟨f, fd, G, M, hb, hm⟩ := M.ex
  exact pe_make0 M G (hr.mono hkj) hg hm hb .nil pass0 hdb
end
section
variable {e : En} {E : XK} {te to ta tb : TE} {tr : TA} {s so : State → Option D} {sr : State → Option (List D)}
/-! ### methods of objects that stand still -/
def xMeth (tbl : List (String × (List D → Option D))) (mn : Str) (so : State → Option D) (sr : State → Option (List D)) : State → Option D := fun α => bnd (so α) fun o => match o with
  | .ins c fs => (match fs.lookup mn with | none => bnd (tbl.lookup c) fun m => bnd (sr α) fun ds => m (o :: ds) | some _ => none)
  | _ => none
theorem repF_none {F : Hp} {f : Str} : ∀ {fs : List (Str × D)} {gs : List (Str × V)}, RepF e F fs gs → fs.lookup f = none → gs.lookup f = none
  | [], _, r, _ => by cases r; rfl
  | (x, y) :: fs, _, ⟨v, r, q, r1, r2⟩, h => by
    subst q
    rw [List.lookup_cons] at h ⊢
    cases hx : f == x with
    | true => rw [hx] at h; cases h
    | false => rw [hx] at h; exact repF_none r2 h
theorem mem_of_lookup {β : Type} {c : String} {m : β} : ∀ {tbl : List (String × β)}, tbl.lookup c = some m → (c, m) ∈ tbl
  | [], h => by cases h
  | (x, y) :: r, h => by
    rw [List.lookup_cons] at h
    cases hx : c == x with
    | true => rw [hx] at h; cases h; rw [beq_iff_eq.mp hx]; exact List.mem_cons_self
    | false => rw [hx] at h; exact List.mem_cons_of_mem _ (mem_of_lookup h)
def tblT (e : En) (tbl : List (String × (List D → Option D))) : List (Addr × Sp) := tbl.map fun p => (e.cls p.1, spP e p.2)
theorem ev_meth {tbl : List (String × (List D → Option D))} {mn : Str} (ho : Evp e to so) (hr : Eva e tr sr) : Evp e (tMethV (tblT e tbl) mn to tr) (xMeth tbl mn so sr) := fun c L S σ H α d R h Q q => by
  obtain ⟨o, h1, h⟩ := bnd_some h
  split at h
  · rename_i cn fs
    split at h
    · rename_i hn
      obtain ⟨m, h2, h⟩ := bnd_some h
      obtain ⟨ds, h3, h⟩ := bnd_some h
      refine ⟨(e.cls cn, spP e m), List.mem_map.mpr ⟨_, mem_of_lookup h2, rfl⟩, ?_⟩
      refine ho c L S σ H α _ R h1 _ fun v H1 e1 r1 => ?_
      obtain ⟨a, dx, gs, rfl, r2, r3⟩ := id r1
      refine ⟨a, dx, gs, rfl, fz_le _ _ r2, repF_none r3 hn, ?_⟩
      refine hr c L S σ H1 α ds (R.up e1) h3 _ fun vs H2 e2 r4 => ?_
      refine ⟨L, .ins cn fs :: ds, d, dom_up (e1.trans e2) R.dm, by rw [List.append_nil]; exact Reps.cons (Rep.up r1 (fz_same e2)) r4, h, fun v H3 e3 r5 => q v H3 ((e1.trans e2).trans e3) r5⟩
    · cases h
  · cases h
/-! ### a new object -/
def Evb (e : En) (te : TE) (s : State → Option (String × List (Str × D))) : Prop := ∀ c L S σ H α x, Rel e c L S σ H α → s α = some x → ∀ Q : VK, (∀ p dx gs H', Sm H H' → H p = none → H' p = some (.ins (e.cls x.1) dx gs) → RepF e (fz (p :: L) H') x.2 gs → Q (.ref p) H') → te σ H Q
def xMake (c : String) (m : List A → MRes) (sr : State → Option (List D)) : State → Option (String × List (Str × D)) := fun α => bnd (sr α) fun ds => match m (.inn (.obj c []) :: ds.map .dat) with
  | .ok (.dat .non) (.inn (.obj c' fs) :: _) => if c' = c then some (c, fs) else none
  | _ => none
theorem asrep_dats {L S : List Addr} {H : Hp} : ∀ {ds : List D} {vs : List V}, Reps e (fz L H) ds vs → AsRep e L S H (ds.map A.dat) vs
  | [], _, r => r
  | d :: ds, _, ⟨v, w, q, r1, r2⟩ => ⟨v, w, q, r1, asrep_dats r2⟩
theorem count_dats : ∀ ds : List D, innCount (ds.map A.dat) = 0
  | [] => rfl
  | d :: ds => count_dats ds
theorem eb_make {c : String} {m : List A → MRes} (hr : Eva e tr sr) : Evb e (tMake (e.cls c) (spM e m) [] E tr) (xMake c m sr) := fun cn L S σ H α x R h Q q => by
  obtain ⟨ds, h1, h⟩ := bnd_some h
  refine hr cn L S σ H α ds R h1 _ fun vs H1 e1 r1 => fun p dx hp hdx hne => ?_
  have R1 := R.up e1
  have hpL : p ∉ L := (fresh_nL R1.dm hp).1
  have hdL : dx ∉ L := (fresh_nL R1.dm hdx).1
  have sN : Sm H1 (upd (upd H1 dx (.own p)) p (.ins (e.cls c) dx [])) := .of fun b o z => by rw [upd_ne (ne_of_none z hp), upd_ne (ne_of_none z hdx)]; exact z
  refine ⟨p :: L, [p], .inn (.obj c [])   :: ds.map .dat, R1.dm.new sN hp upd_same, fun b hb => by simp at hb; subst hb; simp, by simp only [innCount, count_dats]; omega, ⟨.ref p, vs ++ [], rfl, ⟨p, _, rfl, by simp, upd_same, ⟨dx, [], rfl, rfl⟩⟩, by rw [List.append_nil]; exact asrep_dats (r1.up (fz_cons sN hp))⟩, ?_, ?_, ?_⟩
  · intro r as' hm v H' md ar rr
    rw [hm] at h
    split at h
    · rename_i c' fs rest heq
      split at h
      · rename_i hcc
        cases h
        cases heq
        obtain ⟨v0, w0, q0, ⟨p0, o0, q1, m0, ho, rc⟩, _⟩ := ar
        cases q0
        cases q1
        obtain ⟨dx', gs, rfl, rF⟩ := rc
        have hpH : H p = none := none_back R.inv e1 hp
        exact ⟨rr, q p dx' gs H' ((e1.trans sN).thenM md hpH) hpH (by rw [ho, hcc]) rF⟩
      · cases h
    · cases h
  · intro x' hm
    rw [hm] at h
    cases h
  · intro hm
    rw [hm] at h
    cases h
def xIns (s : State → Option (String × List (Str × D))) : State → Option D := fun α => (s α).map fun x => .ins x.1 x.2
theorem eb_x {s : State → Option (String × List (Str × D))} (h : Evb e te s) : Evp e te (xIns s) := fun c L S σ H α d R q Q k => by
  unfold xIns at q
  cases hs : s α with
  | none => rw [hs] at q; cases q
  | some x =>
    rw [hs] at q; cases q
    refine h c L S σ H α x R hs _ fun p dx gs H' e1 n hp r => k _ H' e1 ⟨p, dx, gs, rfl, fz_new (fresh_nL R.dm n) hp, RepF.mono (fz_anti fun a m => List.mem_cons_of_mem _ m) _ _ r⟩
/-- x = C(..), the object x's own -/
def sSetB (i : Nat) (s : State → Option (String × List (Str × D))) : State → Out := fun α => match s α with | some x => .nxt (α.set i (some (.own (.obj x.1 x.2)))) | none => .bad
theorem st_setB {i : Nat} {s : State → Option (String × List (Str × D))} (h : Evb e te s) : Sts e E (tAsg te (gName i)) (sSetB i s) := fun c L S σ H α D R k => by
  unfold sSetB at k
  cases hs : s α with
  | none => rw [hs] at k; exact k.elim
  | some x =>
    rw [hs] at k
    refine h c L S σ H α x R hs _ fun p dx gs H' e1 n hp r => ?_
    exact k (p :: L) (p :: S) _ H' (fz_cons e1 n) (R.setO e1 n hp ⟨dx, gs, rfl, r⟩)
/-! ### an own object's fields -/
def xFldO (i : Nat) (c : String) (f : Str) : State → Option D := fun α => match ctOf α[i]? with | some (.obj c' fs) => if c' = c then fs.lookup f else none | _ => none
theorem ev_fldO (i : Nat) {c : String} {f : Str} (hc : Cls e.K (e.cls c)) (hn : NoAttr e.K (e.cls c) f) : Evp e (tFld e.K (tVar i) f) (xFldO i c f) := fun cn L S σ H α d R h Q q => by
  unfold xFldO at h
  split at h
  · rename_i c' fs hs
    split at h
    · rename_i hcc
      subst hcc
      obtain ⟨p, o, h1, _, h3, dx, gs, rfl, h4⟩ := R.at hs
      obtain ⟨v, h5, h6⟩ := repF_lookup h4 h
      exact ⟨_, h1, p, _, dx, gs, v, rfl, h3, hc, hn, h5, q v H (Sm.refl H) h6⟩
    · cases h
  · cases h
def putD (f : Str) (d : D) : List (Str × D) → List (Str × D)
  | [] => [(f, d)]
  | (g, x) :: r => if g = f then (g, d) :: r else (g, x) :: putD f d r
theorem repF_put {F : Hp} {f : Str} {d : D} {v : V} (r : Rep e F d v) : ∀ {fs : List (Str × D)} {gs : List (Str × V)}, RepF e F fs gs → RepF e F (putD f d fs) (putF f v gs)
  | [], _, q => by cases q; exact ⟨v, [], rfl, r, rfl⟩
  | (x, y) :: fs, _, ⟨u, w, q, r1, r2⟩ => by
    subst q
    unfold putD putF
    by_cases h : x = f
    · rw [if_pos h, if_pos h]; exact ⟨v, w, rfl, r, r2⟩
    · rw [if_neg h, if_neg h]; exact ⟨u, _, rfl, r1, repF_put r r2⟩
theorem repF_len {F : Hp} : ∀ {fs : List (Str × D)} {gs : List (Str × V)}, RepF e F fs gs → gs.length = fs.length
  | [], _, r => by cases r; rfl
  | (x, y) :: fs, _, ⟨u, w, q, r1, r2⟩ => by subst q; simp [repF_len r2]
/-- x.f = e, x's own object -/
def sFldO (i : Nat) (c : String) (f : Str) (s : State → Res D) : State → Out := fun α => match s α with
  | .ok d α' => (match ctOf α'[i]? with | some (.obj c' fs) => if c' = c ∧ fs.length < 1000 then .nxt (putC α' i (.obj c (putD f d fs))) else .bad | _ => .bad)
  | .exc x => .exc x | .bad => .bad
theorem st_fldO {i : Nat} {c : String} {f : Str} {s : State → Res D} (hc : Cls e.K (e.cls c)) (hn : NoAttr e.K (e.cls c) f) (h : Eve e E te s) : Sts e E (sFld e.K (tVar i) te f) (sFldO i c f s) := fun cn L S σ H α D R k => by
  unfold sFldO at k
  refine h cn L S σ H α R _ (fun d α' hs v H' m R' rv => ?_) (fun x hx => by rw [hx] at k; exact k) (fun hb => by rw [hb] at k; exact k)
  rw [hs] at k
  dsimp only at k
  split at k
  · rename_i c' fs hx
    split at k
    · rename_i hcc
      obtain ⟨hcc, hl⟩ := hcc
      subst hcc
      obtain ⟨p, o, h1, mS, ho, dx, gs, rfl, rF⟩ := R'.at hx
      refine ⟨_, h1, p, _, dx, gs, rfl, ho, hc, hn, by rw [repF_len rF]; exact hl, ?_⟩
      obtain ⟨R2, m2⟩ := R'.mut hx h1 (o := .ins (e.cls c') dx (putF f v gs)) (ct' := .obj c' (putD f d fs)) ⟨dx, _, rfl, repF_put rv rF⟩
      exact k L S σ _ ((fz_mod m R.sub).trans (fz_mod m2 R'.sub)) R2
    · exact k.elim
  · exact k.elim
/-- the same for an object of one of several classes -/
def xFldOV (i : Nat) (cs : List String) (f : Str) : State → Option D := fun α => match ctOf α[i]? with | some (.obj c' fs) => if c' ∈ cs then fs.lookup f else none | _ => none
theorem ev_fldOV (i : Nat) {cs : List String} {f : Str} (hc : ∀ c ∈ cs, Cls e.K (e.cls c) ∧ NoAttr e.K (e.cls c) f) : Evp e (tFld e.K (tVar i) f) (xFldOV i cs f) := fun cn L S σ H α d R h Q q => by
  unfold xFldOV at h
  split at h
  · rename_i c' fs hs
    split at h
    · rename_i hcc
      obtain ⟨p, o, h1, _, h3, dx, gs, rfl, h4⟩ := R.at hs
      obtain ⟨v, h5, h6⟩ := repF_lookup h4 h
      exact ⟨_, h1, p, _, dx, gs, v, rfl, h3, (hc _ hcc).1, (hc _ hcc).2, h5, q v H (Sm.refl H) h6⟩
    · cases h
  · cases h
def sFldOV (i : Nat) (cs : List String) (f : Str) (s : State → Res D) : State → Out := fun α => match s α with
  | .ok d α' => (match ctOf α'[i]? with | some (.obj c' fs) => if c' ∈ cs ∧ fs.length < 1000 then .nxt (putC α' i (.obj c' (putD f d fs))) else .bad | _ => .bad)
  | .exc x => .exc x | .bad => .bad
theorem st_fldOV {i : Nat} {cs : List String} {f : Str} {s : State → Res D} (hc : ∀ c ∈ cs, Cls e.K (e.cls c) ∧ NoAttr e.K (e.cls c) f) (h : Eve e E te s) : Sts e E (sFld e.K (tVar i) te f) (sFldOV i cs f s) := fun cn L S σ H α D R k => by
  unfold sFldOV at k
  refine h cn L S σ H α R _ (fun d α' hs v H' m R' rv => ?_) (fun x hx => by rw [hx] at k; exact k) (fun hb => by rw [hb] at k; exact k)
  rw [hs] at k
  dsimp only at k
  split at k
  · rename_i c' fs hx
    split at k
    · rename_i hcc
      obtain ⟨hcc, hl⟩ := hcc
      obtain ⟨p, o, h1, mS, ho, dx, gs, rfl, rF⟩ := R'.at hx
      refine ⟨_, h1, p, _, dx, gs, rfl, ho, (hc _ hcc).1, (hc _ hcc).2, by rw [repF_len rF]; exact hl, ?_⟩
      obtain ⟨R2, m2⟩ := R'.mut hx h1 (o := .ins (e.cls c') dx (putF f v gs)) (ct' := .obj c' (putD f d fs)) ⟨dx, _, rfl, repF_put rv rF⟩
      exact k L S σ _ ((fz_mod m R.sub).trans (fz_mod m2 R'.sub)) R2
    · exact k.elim
  · exact k.elim
/-- the same where the value is a new list, which becomes data -/
theorem pe_ps_fldK {X : Cx} {K : PySem.W.Frag} (hK : X.K = K) {o value : Expr} {f : Str} {pos pos' : Pos} {to tv : TE} (ho : PE X o to) (hv : PE X value tv) (hs : swapsWith value (some (.Attribute o f pos')) pos.line X.env = pure false := by rfl) : PS X (.Assign [.Attribute o f pos'] value pos) (sFld K to tv f) := hK ▸ ps_fld ho hv hs
/-! ### a method of an own object, that may change it -/
def rMethM (i : Nat) (c : String) (mn : Str) (m : List A → MRes) (sr : State → Res (List Arg)) : State → Res D := fun α => match ctOf α[i]? with
  | some (.obj c' fs) => if c' = c ∧ fs.lookup mn = none then rCallM m (aslot i sr) α else .bad
  | _ => .bad
theorem ee_methM {i : Nat} {c : String} {mn : Str} {m : List A → MRes} {sr : State → Res (List Arg)} (h : EvaE e E tr sr) : Eve e E (tMeth (e.cls c) mn (spM e m) [] E (tVar i) tr) (rMethM i c mn m sr) := fun cn L S σ H α R Q k kx nb => by
  unfold rMethM at k kx nb
  split at nb
  · rename_i c' fs hs
    split at nb
    · rename_i hcc
      simp only [hs, if_pos hcc] at k kx
      obtain ⟨hcc, hnone⟩ := hcc
      subst hcc
      obtain ⟨p, o, h1, mS, ho, dx, gs, rfl, rF⟩ := R.at hs
      have hmain := ee_callM (m := m) (eae_slot i h) cn L S σ H α R Q k kx nb
      obtain ⟨v, hv, hmain⟩ := hmain
      rw [h1] at hv
      cases hv
      exact ⟨_, h1, p, dx, gs, rfl, ho, repF_none rF hnone, hmain⟩
    · exact absurd rfl nb
  · exact absurd rfl nb
/-! ### the same where nothing is let out -/
def noExcM (m : List A → MRes) : List A → MRes := fun as => match m as with | .exc _ => .bad | o => o
theorem spM_noExc {m : List A → MRes} {vs : List V} {H : Hp} {Q : VK} {E E' : XK} (h : spM e (noExcM m) vs H Q E) : spM e m vs H Q E' := by
  obtain ⟨L, S, as, dm, sub, hc, r, hq, hx, hb⟩ := h
  unfold noExcM at hq hx hb
  refine ⟨L, S, as, dm, sub, hc, r, fun r' as' hm => hq r' as' (by rw [hm]), fun x hm => ?_, fun hm => hb (by rw [hm])⟩
  rw [hm] at hb
  exact absurd rfl hb
def stepM (m : List A → MRes) (as : List Arg) (α1 : State) : Res D := match slots as with
    | [i] => (match toAs as α1 with
      | some bs => (match m bs with
        | .ok (.dat d) bs' => (match bs'.find? (fun b => match b with | .inn _ => true | _ => false) with | some (.inn ct) => .ok d (putC α1 i ct) | _ => .bad)
        | .exc x => .exc x
        | _ => .bad)
      | none => .bad)
    | _ => .bad
theorem callM_step {m : List A → MRes} {c : Cn} {L S : List Addr} {σ : L2.St} {H1 : Hp} {α1 : State} {as : List Arg} {vs : List V} {Q : VK} (R1 : Rel e c L S σ H1 α1) (r1 : ArgsRep e L σ H1 as vs)
    (k : ∀ d α', stepM m as α1 = .ok d α' → ∀ v H', Mod S H1 H' → Rel e c L S σ H' α' → Rep e (fz L H') d v → Q v H') (kx : ∀ x, stepM m as α1 = .exc x → XOk e c E x) (nb : stepM m as α1 ≠ .bad) : spM e m vs H1 Q E := by
  unfold stepM at k kx nb
  split at nb
  · rename_i i hi
    simp only [hi] at k kx
    split at nb
    · rename_i bs hbs
      simp only [hbs] at k kx
      obtain ⟨ct, hct⟩ := slots_own R1 hbs i (by rw [hi]; exact List.mem_cons_self)
      obtain ⟨p, o, hp, mS, ho, rc⟩ := R1.at hct
      obtain ⟨ar, hcount⟩ := toAs_rep (T := [p]) R1 (fun j hj q hq => by
        rw [hi] at hj
        have : j = i := by simpa using hj
        subst this
        rw [hp] at hq; cases hq; simp) hbs r1
      rw [hi] at hcount
      refine ⟨L, [p], bs, R1.dm, (fun q hq => by rw [show q = p by simpa using hq]; exact R1.sub _ mS), by rw [hcount]; exact Nat.le_refl _, ar, fun r as' hm v H' md ar' rr => ?_, fun x hm cls' dd H' md xr fr => ?_, fun hb => nb (by rw [hb])⟩
      · rw [hm] at k nb
        cases r with
        | lst xs => exact absurd rfl nb
        | dat d =>
          dsimp only at k nb
          split at nb
          · rename_i ct' hf
            simp only [hf] at k
            obtain ⟨p', o', mp, ho', rc'⟩ := find_inn ar' hf
            have : p' = p := by simpa using mp
            subst this
            obtain ⟨R2, m2⟩ := R1.mutM hct hp md ho' rc'
            exact k d _ rfl v H' m2 R2 rr
          · exact absurd rfl nb
      · rw [hm] at kx
        refine kx x rfl cls' dd H' ?_ ⟨xr.1, xr.2.elim .inl fun ⟨q, gs, a1, a2, a3⟩ => .inr ⟨q, gs, a1, a2, RepF.mono (fz_anti R1.l0) _ _ a3⟩⟩ (fun p hp => R1.h0 (fr p hp))
        refine ⟨fun a u q n nh => ?_, fun h => md.i (R1.md.i h)⟩
        refine md.k a u (R1.md.k a u q n nh) (fun z => ?_) nh
        have : a = p := by simpa using z
        subst this
        rcases R1.s1 a mS with z | z
        · exact n z
        · rw [q] at z; cases z
    · exact absurd rfl nb
  · exact absurd rfl nb
theorem rCallM_step {m : List A → MRes} {sr : State → Res (List Arg)} {α : State} : rCallM m sr α = (match sr α with | .ok as α1 => stepM m as α1 | .exc x => .exc x | .bad => .bad) := rfl
theorem ee_callM0 {m : List A → MRes} {sr : State → Res (List Arg)} (h : EvaE e E tr sr) : Eve e E (tCall (spM e m) [] E0 tr) (rCallM (noExcM m) sr) := fun c L S σ H α R Q k kx nb => by
  simp only [rCallM_step] at k kx nb
  refine h c L S σ H α R _ (fun as α1 hs vs H1 m1 R1 r1 => ?_) (fun x hx => kx x (by rw [hx])) (fun hb => nb (by rw [hb]))
  rw [hs] at k kx nb
  dsimp only at k kx nb
  show spM e m (vs ++ []) H1 Q E0
  rw [List.append_nil]
  exact spM_noExc (E := E) (callM_step R1 r1 (fun d α' hd v H' md R' rv => k d α' hd v H' (m1.trans md) R' rv) kx nb)
theorem ee_methM0 {i : Nat} {c : String} {mn : Str} {m : List A → MRes} {sr : State → Res (List Arg)} (h : EvaE e E tr sr) : Eve e E (tMeth (e.cls c) mn (spM e m) [] E0 (tVar i) tr) (rMethM i c mn (noExcM m) sr) := fun cn L S σ H α R Q k kx nb => by
  unfold rMethM at k kx nb
  split at nb
  · rename_i c' fs hs
    split at nb
    · rename_i hcc
      simp only [hs, if_pos hcc] at k kx
      obtain ⟨hcc, hnone⟩ := hcc
      subst hcc
      obtain ⟨p, o, h1, mS, ho, dx, gs, rfl, rF⟩ := R.at hs
      simp only [rCallM_step] at k kx nb
      refine ⟨_, h1, p, dx, gs, rfl, ho, repF_none rF hnone, ?_⟩
      have hmain := eae_slot i h cn L S σ H α R (fun vs H1 => spM e m vs H1 Q E0) (fun as α1 hs vs H1 m1 R1 r1 => by
        rw [hs] at k kx nb
        dsimp only at k kx nb
        exact spM_noExc (E := E) (callM_step R1 r1 (fun d α' hd v H' md R' rv => k d α' hd v H' (m1.trans md) R' rv) kx nb)) (fun x hx => kx x (by rw [hx])) (fun hb => nb (by rw [hb]))
      obtain ⟨v, hv, hmain⟩ := hmain
      rw [h1] at hv
      cases hv
      show tr σ H fun vs H2 => spM e m (V.ref p :: (vs ++ [])) H2 Q E0
      simpa using hmain
    · exact absurd rfl nb
  · exact absurd rfl nb
theorem no_M {m : List A → MRes} (h : ∀ as, m as = .bad) : ∀ vs H Q E, ¬ spM e m vs H Q E := fun vs H Q E ⟨_, _, as, _, _, _, _, _, _, hb⟩ => hb (h as)
/-- a field of one of several classes -/
def xFldV (cs : List String) (f : Str) (s : State → Option D) : State → Option D := fun α => match s α with | some (.ins c' fs) => if c' ∈ cs then fs.lookup f else none | _ => none
theorem ev_fldV {cs : List String} {f : Str} (hc : ∀ c ∈ cs, Cls e.K (e.cls c) ∧ NoAttr e.K (e.cls c) f) (h : Evp e te s) : Evp e (tFld e.K te f) (xFldV cs f s) := fun cn L S σ H α d R q Q k => by
  unfold xFldV at q
  split at q
  · rename_i c' fs hs
    split at q
    · rename_i hcc
      refine h cn L S σ H α _ R hs _ fun v H1 e1 r1 => ?_
      obtain ⟨a, dx, gs, rfl, h2, h3⟩ := r1
      obtain ⟨v, h4, h5⟩ := repF_lookup h3 q
      exact ⟨a, _, dx, gs, v, rfl, fz_le _ _ h2, (hc _ hcc).1, (hc _ hcc).2, h4, k v H1 e1 h5⟩
    · cases q
  · cases q
theorem isiT_q {X : Cx} {K : PySem.W.Frag} (h : X.K = K) : CallR X (.builtin "isinstance") (rIsiT K) := h ▸ call_isiT
@[simp] theorem a_xFldV {cs : List String} {f : Str} {α : State} : xFldV cs f s α = (match s α with | some (.ins c' fs) => if c' ∈ cs then fs.lookup f else none | _ => none) := (rfl)
/-! ### isinstance of own classes -/
structure InsK (K : PySem.W.Frag) (C : Addr) : Prop where
  cl : Cls K C
  ha : PySem.W.findIn K (.ref C) "__class__" = some (some (.builtin "object.__class__"))
  hm : PySem.W.mroIn K C (.type "object") = some true
structure InsB (K : PySem.W.Frag) : Prop where
  hn : PySem.W.specialIn K (.builtin "object.__class__") "__get__" = some (some (.builtin "getset_descriptor.__get__"))
  htk : PySem.W.takesIn K (.builtin "object.__class__") = some true
def fIsC (c0 : String) (tbl : List (String × Bool)) : List D → Option D := fun ds => match ds with | [.ins c fs, .cls c1] => if c1 = c0 then (tbl.lookup c).map .bl else none | _ => none
theorem rc_isC {c0 : String} {tbl : List (String × Bool)} (B : InsB e.K) (h : ∀ p ∈ tbl, InsK e.K (e.cls p.1) ∧ PySem.W.kitOne e.K (.ref (e.cls p.1)) (.ref (e.cls c0)) = some p.2) : RcD e (rIsi e.K) (fIsC c0 tbl) := fun L H ds vs d dm r q Q k => by
  unfold fIsC at q
  split at q
  · rename_i c fs c1
    split at q
    · rename_i hcc
      subst hcc
      cases hl : tbl.lookup c with
      | none => rw [hl] at q; cases q
      | some b =>
        rw [hl] at q; cases q
        obtain ⟨v, w, rfl, r1, v2, w2, rfl, r2, rfl⟩ := r
        obtain ⟨a, dx, gs, rfl, h1, h2⟩ := r1
        cases r2
        obtain ⟨I, hk⟩ := h _ (mem_of_lookup hl)
        exact ⟨.ref a, .ref _, .ref _, .ref _, b, rfl, .own _, .base (.ins (fz_le _ _ h1) I.cl I.ha B.hn B.htk I.hm), hk, k _ H (Sm.refl H) rfl⟩
    · cases q
  · cases q
theorem ev_cls {c : String} : Evp e (tC (.ref (e.cls c))) (xC (.cls c)) := ev_c fun _ => rfl
/-- isinstance(x, (C, ..)) -/
def xIsT (cs : List String) (tbl : List (String × Bool)) (s : State → Option D) : State → Option D := fun α => match s α with | some (.ins c fs) => (tbl.lookup c).map .bl | _ => none
theorem ev_isT {cs : List String} {tbl : List (String × Bool)} (hc : cs.length ≤ 1000) (B : InsB e.K) (h : ∀ p ∈ tbl, InsK e.K (e.cls p.1) ∧ PySem.W.kitAny e.K (.ref (e.cls p.1)) (cs.map fun c => .ref (e.cls c)) = some p.2) (hs : Evp e te s) {tcs : TA} (ht : Eva e tcs (fun _ => some (cs.map .cls))) :
    Evp e (tCB (rIsiT e.K) (tCons te (tCons (tTup tcs) tNil))) (xIsT cs tbl s) := fun cn L S σ H α d R q Q k => by
  unfold xIsT at q
  split at q
  · rename_i c fs hx
    cases hl : tbl.lookup c with
    | none => rw [hl] at q; cases q
    | some b =>
      rw [hl] at q; cases q
      refine hs cn L S σ H α _ R hx _ fun v H1 e1 r1 => ?_
      refine ht cn L S σ H1 α _ (R.up e1) rfl _ fun vs H2 e2 r2 => ⟨by rw [r2.len, List.length_map]; exact Nat.le_trans hc (by decide), fun p hp => ?_⟩
      have s2 : Sm H2 (upd H2 p (.tup vs)) := same_upd hp
      obtain ⟨a, dx, gs, rfl, h1, h2⟩ := r1
      obtain ⟨I, hk⟩ := h _ (mem_of_lookup hl)
      have hpr : ∀ (cs : List String) (vs : List V), Reps e (fz L H2) (cs.map .cls) vs → Paired ClsV vs (cs.map fun c => .ref (e.cls c)) := by
        intro cs
        induction cs with
        | nil => intro vs r; cases r; exact .nil
        | cons c cs ih =>
          intro vs r
          obtain ⟨v, w, rfl, r3, r4⟩ := r
          cases r3
          exact .cons (.own _) (ih w r4)
      exact ⟨.ref a, p, vs, .ref _, _, b, rfl, upd_same, hpr cs vs r2, .base (.ins (s2.k _ _ (e2.k _ _ (fz_le _ _ h1) (fz_nh h1).2) (fz_nh h1).2) I.cl I.ha B.hn B.htk I.hm), hk, k _ _ ((e1.trans e2).trans s2) rfl⟩
  · cases q
/-- a statement that is never reached -/
def sBad : State → Out := fun _ => .bad
theorem ps_bad {X : Cx} {st : Stmt} : PS X st (fun _ _ _ => False) := ⟨fun _ _ _ _ _ _ h => h.elim⟩
theorem st_bad : Sts e E (fun _ _ _ => False) sBad := fun c L S σ H α D R k => k
end
section
variable {α : State} {i : Nat} {so : State → Option D} {sr : State → Option (List D)} {s : State → Option (String × List (Str × D))} {r : State → Res D} {ra : State → Res (List Arg)}
@[simp] theorem a_xMeth {tbl : List (String × (List D → Option D))} {mn : Str} : xMeth tbl mn so sr α = bnd (so α) fun o => match o with
  | .ins c fs => (match fs.lookup mn with | none => bnd (tbl.lookup c) fun m => bnd (sr α) fun ds => m (o :: ds) | some _ => none)
  | _ => none := (rfl)
@[simp] theorem a_xMake {c : String} {m : List A → MRes} : xMake c m sr α = bnd (sr α) fun ds => match m (.inn (.obj c []) :: ds.map .dat) with
  | .ok (.dat .non) (.inn (.obj c' fs) :: _) => if c' = c then some (c, fs) else none
  | _ => none := (rfl)
@[simp] theorem a_xIns : xIns s α = (s α).map fun x => .ins x.1 x.2 := (rfl)
@[simp] theorem a_sSetB : sSetB i s α = (match s α with | some x => .nxt (α.set i (some (.own (.obj x.1 x.2)))) | none => .bad) := (rfl)
@[simp] theorem a_xFldO {c : String} {f : Str} : xFldO i c f α = (match ctOf α[i]? with | some (.obj c' fs) => if c' = c then fs.lookup f else none | _ => none) := (rfl)
@[simp] theorem a_sFldO {c : String} {f : Str} : sFldO i c f r α = (match r α with
  | .ok d α' => (match ctOf α'[i]? with | some (.obj c' fs) => if c' = c ∧ fs.length < 1000 then .nxt (putC α' i (.obj c (putD f d fs))) else .bad | _ => .bad)
  | .exc x => .exc x | .bad => .bad) := (rfl)
@[simp] theorem a_xFldOV {cs : List String} {f : Str} : xFldOV i cs f α = (match ctOf α[i]? with | some (.obj c' fs) => if c' ∈ cs then fs.lookup f else none | _ => none) := (rfl)
@[simp] theorem a_sFldOV {cs : List String} {f : Str} : sFldOV i cs f r α = (match r α with
  | .ok d α' => (match ctOf α'[i]? with | some (.obj c' fs) => if c' ∈ cs ∧ fs.length < 1000 then .nxt (putC α' i (.obj c' (putD f d fs))) else .bad | _ => .bad)
  | .exc x => .exc x | .bad => .bad) := (rfl)
@[simp] theorem a_rMethM {c : String} {mn : Str} {m : List A → MRes} : rMethM i c mn m ra α = (match ctOf α[i]? with
  | some (.obj c' fs) => if c' = c ∧ fs.lookup mn = none then rCallM m (aslot i ra) α else .bad
  | _ => .bad) := (rfl)
@[simp] theorem a_xIsT {cs : List String} {tbl : List (String × Bool)} : xIsT cs tbl so α = (match so α with | some (.ins c fs) => (tbl.lookup c).map .bl | _ => none) := (rfl)
@[simp] theorem a_sBad : sBad α = .bad := (rfl)
end
theorem runM_ret {n k : Nat} {s : State → Out} {as as' : List A} {r : RetV} {β : State} (hk : as.length = k) (h : s (inM n k as) = .ret r β) (hb : backA as β = some as') : runM n k s as = .ok r as' := by
  unfold runM; rw [if_pos hk, h]; dsimp only; rw [hb]
theorem runM_nxt {n k : Nat} {s : State → Out} {as as' : List A} {β : State} (hk : as.length = k) (h : s (inM n k as) = .nxt β) (hb : backA as β = some as') : runM n k s as = .ok (.dat .non) as' := by
  unfold runM; rw [if_pos hk, h]; dsimp only; rw [hb]
theorem noExc_ok {m : List A → MRes} {as as' : List A} {r : RetV} (h : m as = .ok r as') : noExcM m as = .ok r as' := by unfold noExcM; rw [h]
end Ab
end
section
set_option maxRecDepth 100000
set_option maxHeartbeats 1000000
namespace Ab
open PySem L2 PyProof.Rows PySem.Spec
variable [Hd]
section
variable {e : En} {te : TE} {s : State → Option D} {tl th : TO} {sl sh : State → Option (Option Int)}
/-! ### texts -/
def Str.l (z : Str) : List Nat := z.cps.toList
def fInS (neg : Bool) : D → D → Option D := fun a b => match a, b with
  | .str z, .str y => (match z.cps.toList with | [c] => some (.bl (if neg then !decide (c ∈ y.cps.toList) else decide (c ∈ y.cps.toList))) | _ => none)
  | _, _ => none
theorem one_of {z : Str} {c : Nat} (h : z.cps.toList = [c]) : z = ⟨#[c]⟩ := by
  cases z with
  | mk cps => congr 1; exact Array.toList_inj.mp h
theorem rv_ins : RvD e (fun x y H Q => ∃ (c : Nat) (z : Str), x = .str ⟨#[c]⟩ ∧ y = .str z ∧ Q (.bl (decide (c ∈ z.cps.toList))) H) (fInS false) := fun L H dx dy x y d dm rx ry h Q q => by
  unfold fInS at h
  split at h
  · split at h
    · rename_i hz
      cases h; cases rx; cases ry
      exact ⟨_, _, by rw [one_of hz], rfl, q _ H (Sm.refl H) rfl⟩
    · cases h
  · cases h
theorem rv_nis : RvD e (fun x y H Q => ∃ (c : Nat) (z : Str), x = .str ⟨#[c]⟩ ∧ y = .str z ∧ Q (.bl (!decide (c ∈ z.cps.toList))) H) (fInS true) := fun L H dx dy x y d dm rx ry h Q q => by
  unfold fInS at h
  split at h
  · split at h
    · rename_i hz
      cases h; cases rx; cases ry
      exact ⟨_, _, by rw [one_of hz], rfl, q _ H (Sm.refl H) rfl⟩
    · cases h
  · cases h
def xSlS (s : State → Option D) (sl sh : State → Option (Option Int)) : State → Option D := fun α => bnd (s α) fun d => bnd (sl α) fun lo => bnd (sh α) fun hi => match d with
  | .str z => if z.length ≤ 100000 then some (.str (cutS z lo hi)) else none
  | _ => none
theorem ev_slS (h : Evp e te s) (hl : Evo e tl sl) (hh : Evo e th sh) : Evp e (L2.tSl rSlS te tl th) (xSlS s sl sh) := fun c L S σ H α d R q Q k => by
  obtain ⟨x, h1, q⟩ := bnd_some q
  obtain ⟨lo, h2, q⟩ := bnd_some q
  obtain ⟨hi, h3, q⟩ := bnd_some q
  refine h c L S σ H α x R h1 _ fun v H1 e1 r1 => ?_
  refine hl c L S σ H1 α lo (R.up e1) h2 _ fun H2 e2 => ?_
  refine hh c L S σ H2 α hi (R.up (e1.trans e2)) h3 _ fun H3 e3 => ?_
  split at q
  · split at q
    · rename_i hz
      cases q; cases r1
      exact ⟨_, rfl, sz_of hz, k _ H3 (e1.trans (e2.trans e3)) rfl⟩
    · cases q
  · cases q
def signs (z : Str) : List D := z.cps.toList.map fun c => .str ⟨#[c]⟩
def xSigns (s : State → Option D) : State → Option (List D) := fun α => match s α with | some (.str z) => some (signs z) | _ => none
theorem ei_str (h : Evp e te s) : Evi e (iStr te) (xSigns s) := fun c L S σ H α xs R q W k => by
  unfold xSigns at q
  split at q
  · rename_i z hs
    cases q
    refine h c L S σ H α _ R hs _ fun v H' e1 r => ?_
    cases r
    refine ⟨z, rfl, k _ H' e1 fun L2 H2 s2 _ i => ⟨fun hi => ?_, fun hi => ?_, fun x v H3 hx ⟨e3, c, hc, ev⟩ => ?_⟩⟩
    · show i < z.cps.size
      simpa [signs] using hi
    · show z.cps.size ≤ i
      simpa [signs] using hi
    · subst e3 ev
      refine ⟨Sm.refl _, ?_⟩
      unfold signs at hx
      rw [List.getElem?_map, Array.getElem?_toList, hc] at hx
      cases hx
      rfl
  · cases q
def fUp : D → Option D := fun d => match d with | .str a => if a.length ≤ 100000 then some (.str (Txt.upper a)) else none | _ => none
theorem ev_upper (h : Evp e te s) : Evp e (tM0 (fun x xs H Q => ∃ a, x = .str a ∧ xs = [] ∧ a.length ≤ 5592405 ∧ Q (.str (Txt.upper a)) H) te) (x1 fUp s) := fun c L S σ H α d R q Q k => by
  obtain ⟨a, h1, q⟩ := bnd_some q
  refine h c L S σ H α a R h1 _ fun v H1 e1 r1 => ?_
  unfold fUp at q
  split at q
  · split at q
    · cases q; cases r1
      exact ⟨⟨_, rfl⟩, _, rfl, rfl, Nat.le_trans (by assumption) (by decide), k _ H1 e1 rfl⟩
    · cases q
  · cases q
def fInt1 : List D → Option D := fun ds => match ds with | [.int i] => some (.int i) | [.bl k] => some (.int (if k then 1 else 0)) | _ => none
theorem rc_int1 : RcD e (fun xs H Q => (∃ i, xs = [.int i] ∧ Q (.int i) H) ∨ ∃ k, xs = [.bl k] ∧ Q (.int (if k then 1 else 0)) H) fInt1 := fun L H ds vs d dm r q Q k => by
  unfold fInt1 at q
  split at q
  · cases q
    obtain ⟨v, _, rfl, r1, r2⟩ := r
    cases r1; cases r2
    exact .inl ⟨_, rfl, k _ H (Sm.refl H) rfl⟩
  · cases q
    obtain ⟨v, _, rfl, r1, r2⟩ := r
    cases r1; cases r2
    exact .inr ⟨_, rfl, k _ H (Sm.refl H) rfl⟩
  · cases q
end
theorem pe_gs {X : Cx} {x : Str} {v : V} {pos : Pos} (hg : Gl X x) (h : ∃ u, X.mg x = some u ∧ RelV v u) (hd : (x == ("__debug__" : Str)) = false := by decide) : PE X (.Name x pos) (tC v) := by
  obtain ⟨u, hm, r⟩ := h
  exact pe_glob hg hm r hd
section
variable {s : State → Option D} {sl sh : State → Option (Option Int)} {α : State}
@[simp] theorem a_xSlS : xSlS s sl sh α = bnd (s α) fun d => bnd (sl α) fun lo => bnd (sh α) fun hi => (match d with
  | .str z => if z.length ≤ 100000 then some (.str (cutS z lo hi)) else none
  | _ => none) := (rfl)
@[simp] theorem a_xSigns : xSigns s α = (match s α with | some (.str z) => some (signs z) | _ => none) := (rfl)
@[simp] theorem a_lenS {z : Str} : fLenS [.str z] = if z.length ≤ 100000 then some (.int z.length) else none := (rfl)
@[simp] theorem a_catS {a b : Str} : fCatS (.str a) (.str b) = if a.length + b.length ≤ 100000 then some (.str (a ++ b)) else none := (rfl)
@[simp] theorem a_up {a : Str} : fUp (.str a) = if a.length ≤ 100000 then some (.str (Txt.upper a)) else none := (rfl)
@[simp] theorem a_inS {neg : Bool} {c : Nat} {y : Str} : fInS neg (.str ⟨#[c]⟩) (.str y) = some (.bl (if neg then !decide (c ∈ y.cps.toList) else decide (c ∈ y.cps.toList))) := (rfl)
@[simp] theorem a_int1I {i : Int} : fInt1 [.int i] = some (.int i) := (rfl)
@[simp] theorem a_int1B {i : Bool} : fInt1 [.bl i] = some (.int (if i then 1 else 0)) := (rfl)
@[simp] theorem a_isiBB {b : Bool} : fIsi [.bl b, .ty "bool"] = some (.bl true) := (rfl)
theorem cutS_len (z : Str) (lo hi : Option Int) : (cutS z lo hi).length ≤ z.length := by
  unfold cutS Str.length
  simp
  omega
theorem ixS_at {z : Str} {i : Int} (h : z.length ≤ 100000) (h0 : 0 ≤ i) (h1 : i < (z.length : Int)) : ∃ c, fIxS (.str z) (.int i) = some (.str ⟨#[c]⟩) := by
  obtain ⟨j, rfl⟩ : ∃ j : Nat, i = j := ⟨i.toNat, by omega⟩
  have hl : j < z.cps.toList.length := by simpa [Str.length] using h1
  refine ⟨z.cps.toList[j], ?_⟩
  unfold fIxS
  show (if z.length ≤ 100000 then (atI z.cps.toList (j : Int)).map fun c => D.str ⟨#[c]⟩ else none) = _
  rw [if_pos h, atI_nat' hl]
  rfl
@[simp] theorem len_one {c : Nat} : (⟨#[c]⟩ : Str).length = 1 := rfl
end
end Ab
end
section
set_option maxRecDepth 100000
set_option maxHeartbeats 1000000
namespace Ab
open PySem L2 PyProof.Rows PySem.Spec
variable [Hd]
section
variable {e : En} {te to : TE} {s so : State → Option D} {sq : State → Option (List D)}
/-! ### s.split(t), t.join(xs) -/
def xSplit (so s : State → Option D) : State → Option (List D) := fun α => match so α, s α with
  | some (.str a), some (.str b) => if (b.length == 0) = false ∧ a.length + 2 ≤ 100000 then some ((Txt.split a b).map .str) else none
  | _, _ => none
theorem reps_strs {F : Hp} : ∀ ys : List Str, Reps e F (ys.map D.str) (ys.map V.str)
  | [] => Reps.nil
  | a :: r => Reps.cons rfl (reps_strs r)
theorem el_split (ho : Evp e to so) (h : Evp e te s) : Evl e (tM1 (fun x xs H Q => ∃ a b, x = .str a ∧ xs = [.str b] ∧ (b.length == 0) = false ∧ a.length + 2 ≤ sizeLine ∧ rNewStrs (Txt.split a b) H Q) to te) (xSplit so s) := fun c L S σ H α xs R q Q k => by
  unfold xSplit at q
  split at q
  · rename_i a b h1 h2
    split at q
    · rename_i hc
      cases q
      refine ho c L S σ H α _ R h1 _ fun v H1 e1 r1 => ?_
      cases r1
      refine ⟨⟨_, rfl⟩, h c L S σ H1 α _ (R.up e1) h2 _ fun u H2 e2 r2 => ?_⟩
      cases r2
      refine ⟨a, b, rfl, rfl, hc.1, sz_of hc.2, fun p hp => ?_⟩
      have s4 : Sm H2 (upd H2 p (.lst ((Txt.split a b).map V.str))) := same_upd hp
      have e12 := e1.trans e2
      exact k p _ _ (e12.trans s4) (none_back R.inv e12 hp) upd_same (reps_strs _)
    · cases q
  · cases q
def djstrs : List D → Option (List Str)
  | [] => some []
  | .str i :: r => (djstrs r).map (i :: ·)
  | _ => none
theorem djstrs_of (ns : List Str) : djstrs (ns.map D.str) = some ns := by
  induction ns with
  | nil => rfl
  | cons a r ih => simp [djstrs, ih]
theorem djstrs_eq : ∀ {ds : List D} {ns : List Str}, djstrs ds = some ns → ds = ns.map .str
  | [], _, h => by cases h; rfl
  | .str i :: ds, _, h => by
    cases hs : djstrs ds with
    | none => simp [djstrs, hs] at h
    | some ns => simp [djstrs, hs] at h; subst h; rw [djstrs_eq hs]; rfl
  | .int _ :: _, _, h => by simp [djstrs] at h
  | .non :: _, _, h => by simp [djstrs] at h
  | .bl _ :: _, _, h => by simp [djstrs] at h
  | .tup _ :: _, _, h => by simp [djstrs] at h
  | .lst _ :: _, _, h => by simp [djstrs] at h
  | .ins _ _ :: _, _, h => by simp [djstrs] at h
  | .ty _ :: _, _, h => by simp [djstrs] at h
  | .cls _ :: _, _, h => by simp [djstrs] at h
theorem reps_strs_eq {F : Hp} : ∀ {ys : List Str} {vs : List V}, Reps e F (ys.map D.str) vs → vs = ys.map V.str
  | [], _, r => by cases r; rfl
  | y :: ys, _, ⟨v, w, q, r1, r2⟩ => by subst q; cases r1; rw [reps_strs_eq r2]; rfl
def fJoin (a : Str) (xs : List D) : Option D := bnd (djstrs xs) fun ys => if (ys.map (·.length)).sum + ys.length * a.length ≤ 100000 then some (.str (Txt.join a ys)) else none
def xJoin (so : State → Option D) (sq : State → Option (List D)) : State → Option D := fun α => match so α with | some (.str a) => bnd (sq α) (fJoin a) | _ => none
theorem ev_joinL {K : PySem.W.Frag} (hK : K = e.K) (ho : Evp e to so) (h : EvqL e te sq) : Evp e (tM1 (fun x xs H Q => ∃ a p, ∃ ys : List Str, x = .str a ∧ xs = [.ref p] ∧ (SqL K H p (ys.map V.str) ∨ SqT K H p (ys.map V.str)) ∧
      (ys.map (·.length)).sum + ys.length * a.length ≤ 16777216 ∧ Q (.str (Txt.join a ys)) H) to te) (xJoin so sq) := fun c L S σ H α d R q Q k => by
  subst hK
  unfold xJoin at q
  split at q
  · rename_i a h1
    obtain ⟨xs, h2, q⟩ := bnd_some q
    obtain ⟨ys, h3, q⟩ := bnd_some q
    split at q
    · rename_i hc
      cases q
      refine ho c L S σ H α _ R h1 _ fun v H1 e1 r1 => ?_
      cases r1
      refine ⟨⟨_, rfl⟩, h c L S σ H1 α _ (R.up e1) h2 _ fun p vs H2 e2 r2 r3 => ?_⟩
      rw [djstrs_eq h3] at r3
      rw [reps_strs_eq r3] at r2
      exact ⟨a, p, ys, rfl, rfl, .inl (fz_le.seq r2), Nat.le_trans hc (by decide), k _ H2 (e1.trans e2) rfl⟩
    · cases q
  · cases q
theorem pe_joinK {X : Cx} {K : PySem.W.Frag} (hK : X.K = K) {o e : Expr} {apos pos : Pos} {to te : TE} (ho : PE X o to) (he : PE X e te) (hs : starEach [e] X.env = [(false, eval e X.env)] := by rfl) (hbase : attributeBase o "join" X.env (eval o X.env) = eval o X.env := by rfl) (hline : (apos.endLine == pos.line) = true := by rfl) :
    PE X (.Call (.Attribute o "join" apos) [e] [] pos) (tM1 (fun x xs H Q => ∃ a p, ∃ ys : List Str, x = .str a ∧ xs = [.ref p] ∧ (SqL K H p (ys.map V.str) ∨ SqT K H p (ys.map V.str)) ∧
      (ys.map (·.length)).sum + ys.length * a.length ≤ 16777216 ∧ Q (.str (Txt.join a ys)) H) to te) := hK ▸ pe_join ho he hs hbase hline
/-! ### a written dict of texts -/
def fIxC (kvs : List (Str × D)) : D → Option D := fun d => match d with | .str t => kvs.lookup t | _ => none
theorem ev_ixC {w : World} {q : Addr} {kvs : List (Str × D)} (h : ∀ p ∈ kvs, flat p.2 = true ∧ KDct e.K w q p.1 (dv p.2)) (hs : Evp e te s) : Evp e (tOp (rIxD e.K w) (tC (.ref q)) te) (x1 (fIxC kvs) s) := fun c L S σ H α d R hq Q k => by
  obtain ⟨a, h1, hq⟩ := bnd_some hq
  unfold fIxC at hq
  split at hq
  · rename_i t
    have hm : (t, d) ∈ kvs := by
      have go : ∀ kvs : List (Str × D), kvs.lookup t = some d → (t, d) ∈ kvs := by
        intro kvs
        induction kvs with
        | nil => intro h; cases h
        | cons p r ih =>
          intro h
          obtain ⟨x, y⟩ := p
          rw [List.lookup_cons] at h
          cases hx : t == x with
          | true => rw [hx] at h; cases h; rw [beq_iff_eq.mp hx]; exact List.mem_cons_self
          | false => rw [hx] at h; exact List.mem_cons_of_mem _ (ih h)
      exact go kvs hq
    obtain ⟨f1, f2⟩ := h _ hm
    refine hs c L S σ H α _ R h1 _ fun v H1 e1 r1 => ?_
    cases r1
    exact ⟨q, t, dv d, rfl, rfl, f2, k _ H1 e1 (rep_of_flat f1)⟩
  · cases hq
theorem ixd {X : Cx} {K : PySem.W.Frag} {w : World} (h : X.K = K) (h' : X.w = w) : IxR X (rIxD K w) := h ▸ h' ▸ ix_kdict
/-- a dict of the module's top -/
def isDic (w : World) (o : Obj) : Prop := ∃ (es : Array DictEntry) (n : Nat), o = ⟨.type "dict", none, .dict es n, #[]⟩ ∧ PySem.W.KeysLit w.params es.toList
theorem kdct_mk {K : PySem.W.Frag} {w : World} {a : Addr} {o : Obj} {x : Str} {v : V} {u : Value} (h : K.lookup a = some o) (d : isDic w o) (hn : PySem.W.nsIn K a x = some (some u)) (r : RelV v u) : KDct K w a x v := by
  obtain ⟨es, n, rfl, hk⟩ := d
  exact ⟨es, n, u, h, hk, hn, r⟩
end
section
variable {α : State} {so s : State → Option D} {sq : State → Option (List D)}
@[simp] theorem a_xSplit : xSplit so s α = (match so α, s α with
  | some (.str a), some (.str b) => if (b.length == 0) = false ∧ a.length + 2 ≤ 100000 then some ((Txt.split a b).map .str) else none
  | _, _ => none) := (rfl)
@[simp] theorem a_xJoin : xJoin so sq α = (match so α with | some (.str a) => bnd (sq α) (fJoin a) | _ => none) := (rfl)
@[simp] theorem a_fIxC {kvs : List (Str × D)} {t : Str} : fIxC kvs (.str t) = kvs.lookup t := (rfl)
end
end Ab
end
section
set_option maxRecDepth 100000
set_option maxHeartbeats 1000000
namespace Ab
open PySem L2 PyProof.Rows PySem.Spec
variable [Hd]
/-! ### zip of two tuples -/
def ItzT (K : PySem.W.Frag) (a b : Addr) : It :=
  ⟨fun i H => ∃ (xs ys : List V) (x y : V), SqT K H a xs ∧ SqT K H b ys ∧ xs[i]? = some x ∧ ys[i]? = some y,
    fun i H v H' => ∃ T x y, v = .ref T ∧ H T = none ∧ H' = upd H T (.tup [x, y]) ∧ (∀ xs, SqT K H a xs → xs[i]? = some x) ∧ ∀ ys, SqT K H b ys → ys[i]? = some y,
    fun i H => ∃ xs ys : List V, SqT K H a xs ∧ SqT K H b ys ∧ (xs.length ≤ i ∨ ys.length ≤ i)⟩
theorem turn_zipT {P : Program} {w : World} {K : PySem.W.Frag} {elts : List Expr} {kk : Nat} {tpos : Pos} {a b z TI TO i1 i2 : Addr} (D : ZipApart z TI TO i1 i2 a b) :
    Turn P w K (.Tuple elts kk tpos) (ItzT K a b) [z, TI, TO, i1, i2] z (fun i h => IsZip h z TI TO .none ∧ IsPair h TI (.ref i1) (.ref i2) ∧ (∃ x y, IsPair h TO x y) ∧ h.IsTupleIter i1 a i ∧ h.IsTupleIter i2 b i) where
  mem := by simp
  obj := fun i h st c hc => by
    obtain ⟨hz, hTI, ⟨x, y, hTO⟩, ⟨o1, e1, _, d1⟩, ⟨o2, e2, _, d2⟩⟩ := st
    have e' : c = z ∨ c = TI ∨ c = TO ∨ c = i1 ∨ c = i2 := by simpa using hc
    rcases e' with q | q | q | q | q
    · rw [q]; exact ⟨_, hz, fun v q => nomatch q⟩
    · rw [q]; exact ⟨_, hTI, fun v q => nomatch q⟩
    · rw [q]; exact ⟨_, hTO, fun v q => nomatch q⟩
    · rw [q]; exact ⟨o1, e1, fun v q => by rw [d1] at q; cases q⟩
    · rw [q]; exact ⟨o2, e2, fun v q => by rw [d2] at q; cases q⟩
  keep := fun i h h' st k => by
    obtain ⟨hz, hTI, ⟨x, y, hTO⟩, h1, h2⟩ := st
    exact ⟨k z (by simp) _ hz, k TI (by simp) _ hTI, ⟨x, y, k TO (by simp) _ hTO⟩, h1.at fun o q => k i1 (by simp) o q, h2.at fun o q => k i2 (by simp) o q⟩
  item := by
    intro X hP hw hK hc i pins s σ H E I hf st hg
    subst hP hw hK
    obtain ⟨hz, hTI, ⟨x0, y0, hTO⟩, h1, h2⟩ := st
    obtain ⟨xs, ys, x, y, hqx, hqy, hx, hy⟩ := hg
    obtain ⟨its, rv, p, _⟩ := I.tuple hqx
    obtain ⟨its2, rv2, p2, _⟩ := I.tuple hqy
    obtain ⟨u, hu, ru⟩ := rv.get hx
    obtain ⟨u2, hu2, ru2⟩ := rv2.get hy
    have hzl : z < s.heap.objs.size := Heap.lt_size hz
    refine RZ.pyNext_zipT_item D hz hTI hTO h1 h2 p p2 (x := u) (y := u2) (by simpa using hu) (by simpa using hu2) fun h' z' TO' h1' h2' hT hsz hk => ?_
    refine ⟨_, rfl, wpAny_letOwnedTupleGo_zip (s := { s with heap := h' }) z' fun h'' z'' sb => ?_⟩
    have hT2 : h''.get? s.heap.objs.size = some { cls := .type "tuple", data := .seq #[u, u2] } := (sb.2 _ (Nat.ne_of_gt hzl)).trans hT
    have new : ObjOk X.prog X.w (upd H s.heap.objs.size (.tup [x, y])) h'' s.heap.objs.size (.tup [x, y]) :=
      ⟨by show 2 ≤ sizeLine; decide, [u, u2], .cons ru (.cons ru2 .nil), ⟨_, hT2, rfl, _, rfl⟩⟩
    have I1 : Inv X pins σ (upd H s.heap.objs.size (.tup [x, y])) { s with heap := h'' } :=
      I.turnedNew (t' := s.toks) (ch := [z, TI, TO, i1, i2]) (fun c o hb q => (sb.2 c (fun q' => hb (by simp [q']))).trans (hk c o (fun q' => hb (by simp [q'])) (fun q' => hb (by simp [q'])) (fun q' => hb (by simp [q'])) (fun q' => hb (by simp [q'])) q)) hf (Nat.le_refl _) new
    refine ⟨.ref s.heap.objs.size, _, I1, rfl, ⟨_, x, y, rfl, I.hok.fresh (Nat.le_refl _), rfl, fun l hl => by rw [I.tuple_inj hl hqx]; exact hx, fun l hl => by rw [I.tuple_inj hl hqy]; exact hy⟩, ⟨z'', ?_, ⟨u, u2, ?_⟩, ?_, ?_⟩, fun c hcm => ?_⟩
    · exact (sb.2 _ D.TIz).trans (hk _ _ D.TIz D.TITO D.TIi1 D.TIi2 hTI)
    · exact (sb.2 _ D.TOz).trans TO'
    · exact h1'.at fun o q => (sb.2 _ D.i1z).trans q
    · exact h2'.at fun o q => (sb.2 _ D.i2z).trans q
    · have hlt : c < s.heap.objs.size := by
        have e' : c = z ∨ c = TI ∨ c = TO ∨ c = i1 ∨ c = i2 := by simpa using hcm
        rcases e' with q | q | q | q | q
        · rw [q]; exact hzl
        · rw [q]; exact Heap.lt_size hTI
        · rw [q]; exact Heap.lt_size hTO
        · rw [q]; obtain ⟨_, e1, _⟩ := h1; exact Heap.lt_size e1
        · rw [q]; obtain ⟨_, e2, _⟩ := h2; exact Heap.lt_size e2
      rw [upd_ne (Nat.ne_of_lt hlt)]
      exact (hf c hcm).1
  done := by
    intro X hP hw hK hc i pins s σ H E I hf st hg
    subst hP hw hK
    obtain ⟨hz, hTI, ⟨x0, y0, hTO⟩, h1, h2⟩ := st
    obtain ⟨xs, ys, hqx, hqy, hend⟩ := hg
    obtain ⟨its, rv, p, _⟩ := I.tuple hqx
    obtain ⟨its2, rv2, p2, _⟩ := I.tuple hqy
    have l1 := rv.length
    have l2 := rv2.length
    have he : its.toArray[i]? = none ∨ its2.toArray[i]? = none := by
      rcases hend with q | q
      · exact .inl (by simp; omega)
      · exact .inr (by simp; omega)
    exact RZ.pyNext_zipT_end (I.ok.hd hc) D hz hTI hTO h1 h2 p p2 he fun h' hk => ⟨rfl, I.turnedL (t' := s.toks) (ch := [z, TI, TO, i1, i2]) (fun c o hb q =>
      hk c o (fun q' => hb (by simp [q'])) (fun q' => hb (by simp [q'])) (fun q' => hb (by simp [q'])) (fun q' => hb (by simp [q'])) q) hf⟩
  self := fun A i s Q E st h => wpAny_pyIter_zip st.1 h
def iZipT (K : PySem.W.Frag) (ta : TA) : TI := fun σ H R => ta σ H fun vs H1 => ∃ a b xs ys, vs = [.ref a, .ref b] ∧ SqT K H1 a xs ∧ SqT K H1 b ys ∧ R (ItzT K a b) H1
theorem pi_zipT {X : Cx} {K : PySem.W.Frag} (hK : X.K = K) {e e2 : Expr} {ta : TA} {p pos tpos : Pos} {elts : List Expr} {kk : Nat} (hg : Gl X "zip") (hm : X.mg "zip" = none) (ha : PA X [e, e2] ta)
    (hs : starEach [e, e2] X.env = (false, eval e X.env) :: starEach [e2] X.env := by rfl) (hpl : (backTo pos (starEach [e2] X.env)).any (·.1) = false := by rfl) :
    PI X (.Tuple elts kk tpos) (.Call (.Name "zip" p) [e, e2] [] pos) (iZipT K ta) := by
  subst hK
  refine ⟨fun pins s σ H R I h => ?_⟩
  refine Call_ (ld_blt I hg hm PyProof.Rows.boot_zip (PyProof.Rows.callWith_type1 (thn (ha.run pos pins s σ H _ I h) fun us s1 ⟨vs, H1, I1, r1, q1⟩ => ?_) hs hpl))
  obtain ⟨a, b, xs, ys, ex, hqx, hqy, q⟩ := q1
  subst ex
  cases r1 with
  | cons r rr =>
    cases rr with
    | cons r' rr =>
      cases rr
      cases r
      cases r'
      obtain ⟨its, rv, p1, _⟩ := I1.tuple hqx
      obtain ⟨its2, rv2, p2, _⟩ := I1.tuple hqy
      have la : a < s1.heap.objs.size := by obtain ⟨_, q, _⟩ := p1; exact Heap.lt_size q
      have lb : b < s1.heap.objs.size := by obtain ⟨_, q, _⟩ := p2; exact Heap.lt_size q
      refine RZ.call_zipT p1 p2 fun h' hz hTI hTO h1 h2 hsz hk => wpAny_pyIter_zip hz ?_
      have I2 : Inv X pins σ H1 { s1 with heap := h' } := I1.kept (t' := s1.toks) hk
      refine ⟨s1.heap.objs.size + 4, [s1.heap.objs.size + 4, s1.heap.objs.size + 2, s1.heap.objs.size + 3, s1.heap.objs.size, s1.heap.objs.size + 1], _, _, H1, rfl, I2, turn_zipT (PySem.W.ktu_apart s1.heap.objs.size a b la lb), ⟨hz, hTI, ⟨_, _, hTO⟩, h1, h2⟩, fun c hcm => ?_, q⟩
      have e' : c = s1.heap.objs.size + 4 ∨ c = s1.heap.objs.size + 2 ∨ c = s1.heap.objs.size + 3 ∨ c = s1.heap.objs.size ∨ c = s1.heap.objs.size + 1 := by simpa using hcm
      have hle : s1.heap.objs.size ≤ c := by
        rcases e' with z | z | z | z | z
        · rw [z]; exact Nat.le_add_right _ _
        · rw [z]; exact Nat.le_add_right _ _
        · rw [z]; exact Nat.le_add_right _ _
        · rw [z]; exact Nat.le_refl _
        · rw [z]; exact Nat.le_add_right _ _
      exact I1.fpOk hle (I1.hok.fresh hle)
def zipD : List D → List D → List D
  | x :: xs, y :: ys => .tup [x, y] :: zipD xs ys
  | _, _ => []
theorem zipD_get : ∀ {xs ys : List D} {i : Nat} {d : D}, (zipD xs ys)[i]? = some d → ∃ x y, xs[i]? = some x ∧ ys[i]? = some y ∧ d = .tup [x, y]
  | [], _, _, _, h => by simp [zipD] at h
  | _ :: _, [], _, _, h => by simp [zipD] at h
  | x :: xs, y :: ys, 0, d, h => by simp [zipD] at h; exact ⟨x, y, rfl, rfl, h.symm⟩
  | x :: xs, y :: ys, i + 1, d, h => by
    simp only [zipD, List.getElem?_cons_succ] at h ⊢
    exact zipD_get h
theorem zipD_len : ∀ (xs ys : List D), (zipD xs ys).length = min xs.length ys.length
  | [], _ => by simp [zipD]
  | _ :: _, [] => by simp [zipD]
  | x :: xs, y :: ys => by simp only [zipD, List.length_cons, zipD_len xs ys]; omega
section
variable {e : En} {ta tb : TE} {sa sb : State → Option D}
def xZipT (sa sb : State → Option D) : State → Option (List D) := fun α => match sa α, sb α with | some (.tup xs), some (.tup ys) => some (zipD xs ys) | _, _ => none
theorem ei_zipT (ha : Evp e ta sa) (hb : Evp e tb sb) : Evi e (iZipT e.K (tCons ta (tCons tb tNil))) (xZipT sa sb) := fun c L S σ H α xs R q W k => by
  unfold xZipT at q
  split at q
  · rename_i us ws hu hw
    cases q
    refine ha c L S σ H α _ R hu _ fun v H1 e1 ⟨a, vs, e2, r1, r2⟩ => ?_
    subst e2
    refine hb c L S σ H1 α _ (R.up e1) hw _ fun v' H2 e3 ⟨b, vs2, e4, r3, r4⟩ => ?_
    subst e4
    have r1' := same_t (fz_same (L := L) e3) r1
    have r2' := r2.up (fz_same (L := L) e3)
    refine ⟨a, b, vs, vs2, rfl, same_t fz_le r1', same_t fz_le r3, k _ H2 (e1.trans e3) fun L2 H3 s2 dm i => ?_⟩
    have t1 : SqT e.K H3 a vs := same_t fz_le (same_t s2 r1')
    have t2 : SqT e.K H3 b vs2 := same_t fz_le (same_t s2 r3)
    have l1 := r2.len
    have l2 := r4.len
    rw [zipD_len]
    refine ⟨fun hi => ⟨vs, vs2, vs[i]'(by omega), vs2[i]'(by omega), t1, t2, List.getElem?_eq_getElem _, List.getElem?_eq_getElem _⟩, fun hi => ⟨vs, vs2, t1, t2, by omega⟩, fun x v H4 hx ⟨T, y1, y2, e5, n, e6, yy1, yy2⟩ => ?_⟩
    subst e5 e6
    obtain ⟨d1, d2, g1, g2, g3⟩ := zipD_get hx
    subst g3
    obtain ⟨v1, g4, g5⟩ := r2'.get g1
    obtain ⟨v2, g6, g7⟩ := r4.get g2
    have q1 : v1 = y1 := Option.some.inj (g4.symm.trans (yy1 vs t1))
    have q2 : v2 = y2 := Option.some.inj (g6.symm.trans (yy2 vs2 t2))
    subst q1 q2
    have s3 : Sm H3 (upd H3 T (.tup [v1, v2])) := same_upd n
    exact ⟨s3, T, _, rfl, .inl (.inl (fz_new (fresh_nL dm n) upd_same)), Reps.cons (g5.up (s2.trans (fz_same s3))) (Reps.cons (g7.up (s2.trans (fz_same s3))) Reps.nil)⟩
  · cases q
end
/-! ### all(list of truths) -/
def rAll (K : PySem.W.Frag) : List V → Hp → VK → Prop := fun xs H Q => ∃ (a : Addr) (bs : List Bool), xs = [.ref a] ∧ SqL K H a (bs.map V.bl) ∧ Q (.bl (bs.all id)) H
theorem bools_of : ∀ {bs : List Bool} {us : List Value}, Vals (bs.map V.bl) us → us = bs.map Value.bool
  | [], _, r => by cases r; rfl
  | b :: bs, _, r => by
    cases r with
    | cons r1 r2 => rw [bools_of r2]; cases r1; rfl
theorem range_all' : ∀ (bs : List Bool), ((List.range bs.length).all fun i => (bs[i]?).getD true) = bs.all id
  | bs => by
    rw [Bool.eq_iff_iff, List.all_eq_true, List.all_eq_true]
    constructor
    · intro h b hb
      obtain ⟨i, hi, e⟩ := List.getElem_of_mem hb
      have := h i (List.mem_range.mpr hi)
      rw [List.getElem?_eq_getElem hi, e] at this
      exact this
    · intro h i hi
      have hi := List.mem_range.mp hi
      rw [List.getElem?_eq_getElem hi]
      exact h _ (List.getElem_mem hi)
theorem cr_all {X : Cx} (hc : X.calm = true) : CallR X (.builtin "all") (rAll X.K) := by
  intro pins s σ H vs us Q I r h
  obtain ⟨a, bs, rfl, hs, q⟩ := h
  obtain ⟨its, rv, hl, _⟩ := I.list hs
  rw [Vals.ref1 r]
  have hb := bools_of rv
  have hlt : a < s.heap.objs.size := hl.lt
  refine call_all_walk (wpAny_pyIter_list hl.isList ?_)
  refine ⟨s.heap.objs.size, [s.heap.objs.size, a], [s.heap.objs.size], its.toArray.size, _, _, fun i => (bs[i]?).getD true, rfl, Walks.list (A := X.A.in1) (I.ok.hd hc) _ a (Nat.ne_of_lt hlt) its.toArray,
    ⟨⟨_, Heap.get?_push_size _ rfl, rfl, rfl⟩, hl.isList.push _⟩, fun i v s' Q' E' hP hQ => ?_, fun h' tk hk => ?_⟩
  · have hP' : its[i]? = some v := by simpa using hP
    rw [hb, List.getElem?_map] at hP'
    cases e : bs[i]? with
    | none => rw [e] at hP'; cases hP'
    | some b =>
      rw [e] at hP'
      cases hP'
      simp only [e, Option.getD_some] at hQ
      exact wpAny_truthy_bool hQ
  · have e : ((List.range its.toArray.size).all fun i => (bs[i]?).getD true) = bs.all id := by
      rw [List.size_toArray, hb, List.length_map]; exact range_all' bs
    rw [e]
    exact ⟨.bl _, H, I.kept (t' := tk) (LSm.kept_iter hk), rfl, q⟩
theorem all_q {X : Cx} {K : PySem.W.Frag} (h : X.K = K) (hc : X.calm = true) : CallR X (.builtin "all") (rAll K) := h ▸ cr_all hc
section
variable {e : En} {te : TE} {sq : State → Option (List D)} {ta tb : TE} {s : State → Option D}
def dbls : List D → Option (List Bool)
  | [] => some []
  | .bl b :: ds => (dbls ds).map (b :: ·)
  | _ :: _ => none
theorem dbls_of : ∀ bs : List Bool, dbls (bs.map .bl) = some bs
  | [] => rfl
  | b :: bs => by show (dbls (bs.map .bl)).map (b :: ·) = _; rw [dbls_of bs]; rfl
theorem dbls_rep {F : Hp} : ∀ {ds : List D} {vs : List V} {bs : List Bool}, dbls ds = some bs → Reps e F ds vs → vs = bs.map V.bl
  | [], _, _, h, r => by cases h; cases r; rfl
  | d :: ds, vs, bs, h, r => by
    obtain ⟨v, us, rfl, r1, r2⟩ := r
    cases d with
    | bl b =>
      change (dbls ds).map (b :: ·) = some bs at h
      cases hd : dbls ds with
      | none => rw [hd] at h; cases h
      | some cs => rw [hd] at h; cases h; cases r1; rw [dbls_rep hd r2]; rfl
    | _ => cases h
def xAll (sq : State → Option (List D)) : State → Option D := fun α => bnd (sq α) fun ds => (dbls ds).map fun bs => .bl (bs.all id)
theorem ev_all (h : EvqL e te sq) : Evp e (tCB (rAll e.K) (tCons te tNil)) (xAll sq) := fun c L S σ H α d R q Q k => by
  obtain ⟨ds, h1, q⟩ := bnd_some q
  cases hd : dbls ds with
  | none => rw [hd] at q; cases q
  | some bs =>
    rw [hd] at q; cases q
    refine h c L S σ H α ds R h1 _ fun a vs H1 e1 r1 r2 => ?_
    exact ⟨a, bs, rfl, by rw [← dbls_rep hd r2]; exact fz_le.seq r1, k _ H1 e1 rfl⟩
@[simp] theorem a_xAll {α : State} : xAll sq α = bnd (sq α) fun ds => (dbls ds).map fun bs => .bl (bs.all id) := (rfl)
@[simp] theorem a_xZipT {sa sb : State → Option D} {α : State} : xZipT sa sb α = (match sa α, sb α with | some (.tup xs), some (.tup ys) => some (zipD xs ys) | _, _ => none) := (rfl)
/-! ### t.index(text), l.index(text) -/
def dstrs : List D → Option (List Str)
  | [] => some []
  | .str b :: ds => (dstrs ds).map (b :: ·)
  | _ :: _ => none
theorem dstrs_rep {F : Hp} : ∀ {ds : List D} {vs : List V} {bs : List Str}, dstrs ds = some bs → Reps e F ds vs → vs = bs.map V.str
  | [], _, _, h, r => by cases h; cases r; rfl
  | d :: ds, vs, bs, h, r => by
    obtain ⟨v, us, rfl, r1, r2⟩ := r
    cases d with
    | str b =>
      change (dstrs ds).map (b :: ·) = some bs at h
      cases hd : dstrs ds with
      | none => rw [hd] at h; cases h
      | some cs => rw [hd] at h; cases h; cases r1; rw [dstrs_rep hd r2]; rfl
    | _ => cases h
def ixOf : List Str → Str → Option Nat
  | [], _ => none
  | y :: ys, z => if y = z then some 0 else (ixOf ys z).map (· + 1)
theorem ixOf_spec : ∀ {ys : List Str} {z : Str} {j : Nat}, ixOf ys z = some j → ys[j]? = some z ∧ ∀ m, m < j → ys[m]? ≠ some z
  | [], _, _, h => by cases h
  | y :: ys, z, j, h => by
    unfold ixOf at h
    by_cases hy : y = z
    · rw [if_pos hy] at h; cases h; exact ⟨by rw [hy]; rfl, fun m hm => absurd hm (Nat.not_lt_zero _)⟩
    · rw [if_neg hy] at h
      cases hj : ixOf ys z with
      | none => rw [hj] at h; cases h
      | some i =>
        rw [hj] at h; cases h
        obtain ⟨h1, h2⟩ := ixOf_spec hj
        refine ⟨h1, fun m hm => ?_⟩
        cases m with
        | zero => intro hh; exact hy (Option.some.inj hh)
        | succ m => exact h2 m (Nat.lt_of_succ_lt_succ hm)
def xIdx (sq : State → Option (List D)) (s : State → Option D) : State → Option D := fun α => bnd (sq α) fun ds => match s α with
  | some (.str z) => bnd (dstrs ds) fun zs => (ixOf zs z).map fun (j : Nat) => D.int (j : Int)
  | _ => none
def rIdxT (K : PySem.W.Frag) : V → List V → Hp → VK → Prop := fun x xs H Q => ∃ p, ∃ ys : List Str, ∃ z j, x = .ref p ∧ xs = [.str z] ∧ SqT K H p (ys.map V.str) ∧ ys[j]? = some z ∧ (∀ m, m < j → ys[m]? ≠ some z) ∧ Q (.int (j : Nat)) H
theorem mt_idxT {X : Cx} {K : PySem.W.Frag} (h : X.K = K) : MtR X "tuple.index" (rIdxT K) := h ▸ mt_tup_index
theorem mt_idxL {X : Cx} {K : PySem.W.Frag} (h : X.K = K) : MtR X "list.index" (rIndex K) := h ▸ mt_index
/-- by a tuple of the module's top -/
theorem ev_idxT {a : Addr} {ds : List D} (h1 : ∀ F, Rep e F (.tup ds) (.ref a)) (h2 : ∀ H, tyV e.K "tuple" (.ref a) H) (h : Evp e te s) : Evp e (tBM e.K "tuple" (rIdxT e.K) (tC (.ref a)) (tCons te tNil)) (xIdx (fun _ => some ds) s) := fun c L S σ H α d R q Q k => by
  obtain ⟨ds', hd, q⟩ := bnd_some q
  cases hd
  split at q
  · rename_i z hz
    obtain ⟨zs, h3, q⟩ := bnd_some q
    cases hj : ixOf zs z with
    | none => rw [hj] at q; cases q
    | some j =>
      rw [hj] at q; cases q
      refine ⟨h2 H, ?_⟩
      refine h c L S σ H α _ R hz _ fun v H1 e1 r1 => ?_
      cases r1
      obtain ⟨a', vs, ea, r2, r3⟩ := h1 H1
      cases ea
      have := dstrs_rep h3 r3
      subst this
      obtain ⟨g1, g2⟩ := ixOf_spec hj
      exact ⟨a, zs, z, j, rfl, rfl, r2, g1, g2, k _ H1 e1 rfl⟩
  · cases q
theorem eqV_str {a b : Str} : eqV (.str a) (.str b) = (a == b) := by rfl
theorem ev_idxL (h : EvqL e te sq) (hs : Evp e ta s) : Evp e (tBM e.K "list" (rIndex e.K) te (tCons ta tNil)) (xIdx sq s) := fun c L S σ H α d R q Q k => by
  obtain ⟨ds, h1, q⟩ := bnd_some q
  split at q
  · rename_i z hz
    obtain ⟨zs, h2, q⟩ := bnd_some q
    cases hj : ixOf zs z with
    | none => rw [hj] at q; cases q
    | some j =>
      rw [hj] at q; cases q
      refine h c L S σ H α ds R h1 _ fun a vs H1 e1 r1 r2 => ?_
      have := dstrs_rep h2 r2
      subst this
      refine ⟨.inl ⟨rfl, _, fz_le.seq r1⟩, ?_⟩
      refine hs c L S σ H1 α _ (R.up e1) hz _ fun v H2 e2 r3 => ?_
      cases r3
      obtain ⟨g1, g2⟩ := ixOf_spec hj
      refine ⟨a, zs.map V.str, .str z, j, .str z, rfl, rfl, fz_le.seq ((fz_same e2).seq r1), rfl, by simp [flatV], by rw [List.getElem?_map, g1]; rfl, by rw [eqV_str]; simp, fun m z' hm hz' => ?_, k _ H2 (e1.trans e2) rfl⟩
      rw [List.getElem?_map] at hz'
      cases hy : zs[m]? with
      | none => rw [hy] at hz'; cases hz'
      | some y =>
        rw [hy] at hz'; cases hz'
        rw [eqV_str]
        exact beq_eq_false_iff_ne.mpr fun hh => g2 m hm (by rw [hy, hh])
  · cases q
@[simp] theorem a_xIdx {α : State} : xIdx sq s α = bnd (sq α) fun ds => (match s α with
  | some (.str z) => bnd (dstrs ds) fun zs => (ixOf zs z).map fun (j : Nat) => D.int (j : Int)
  | _ => none) := by unfold xIdx; rfl
end
theorem pgt {X : Cx} {K : PySem.W.Frag} (hK : X.K = K) {es : List Expr} {k : Nat} {t : TGs} {n : Nat} {pos : Pos} (hc : X.calm = true) (h : PGs X es t)
    (hn : (assignEach es X.env).length = n := by rfl) (hst : (assignEach es X.env).findIdx? (·.1) = none := by rfl) : PG X (.Tuple es k pos) (gTup K n t) := hK ▸ pg_tup hc h hn hst
end Ab
end
section
set_option maxRecDepth 100000
set_option maxHeartbeats 1000000
namespace Ab
open PySem L2 PyProof.Rows PySem.Spec
variable [Hd]
theorem toNat_inj' : ∀ {a b : List Char}, a.map Char.toNat = b.map Char.toNat → a = b
  | [], [], _ => rfl
  | [], _ :: _, h => by cases h
  | _ :: _, [], h => by cases h
  | x :: a, y :: b, h => by
    simp only [List.map_cons, List.cons.injEq] at h
    have h1 : x = y := Char.ext (UInt32.toNat_inj.mp h.1)
    rw [h1, toNat_inj' h.2]
@[simp] theorem ofS_inj {a b : String} : (Str.ofString a = Str.ofString b) ↔ a = b := by
  constructor
  · intro h
    rw [Str.ofString_eq_toList, Str.ofString_eq_toList] at h
    have h1 : (a.toList.map Char.toNat).toArray = (b.toList.map Char.toNat).toArray := congrArg Str.cps h
    have h2 := congrArg Array.toList h1
    exact String.toList_inj.mp (toNat_inj' (by simpa using h2))
  · rintro rfl; rfl
@[simp] theorem ofS_beq {a b : String} : (Str.ofString a == Str.ofString b) = decide (a = b) := by
  by_cases h : a = b
  · subst h; simp
  · rw [decide_eq_false h]
    exact beq_eq_false_iff_ne.mpr fun z => h (ofS_inj.mp z)
/-- figures -/
inductive Mn where
  | row | bag | choice | ring
  deriving DecidableEq
def Mn.w : Mn → Str
  | .row => "row" | .bag => "bag" | .choice => "choice" | .ring => "ring"
inductive Fig where
  | nothing | bead (c : Str) | left (f : Fig) | right (f : Fig) | pair (f g : Fig) | many (k : Mn) (ps : List Fig)
mutual
def enc : Fig → D
  | .nothing => .tup [.str "nothing"]
  | .bead c => .tup [.str "bead", .str c]
  | .left f => .tup [.str "left", enc f]
  | .right f => .tup [.str "right", enc f]
  | .pair f g => .tup [.str "pair", enc f, enc g]
  | .many k ps => .tup [.str k.w, .tup (encs ps)]
def encs : List Fig → List D
  | [] => [] | f :: fs => enc f :: encs fs
end
theorem encs_map : ∀ fs : List Fig, encs fs = fs.map enc
  | [] => rfl
  | f :: fs => by rw [encs, encs_map fs]; rfl
@[simp] theorem encs_len (fs : List Fig) : (encs fs).length = fs.length := by rw [encs_map, List.length_map]
theorem encs_app (a b : List Fig) : encs (a ++ b) = encs a ++ encs b := by simp [encs_map]
def Fig.parts : Fig → List Fig
  | .nothing => [] | .bead _ => [] | .left f => [f] | .right f => [f] | .pair f g => [f, g] | .many _ ps => ps
mutual
def hgt : Fig → Nat
  | .nothing => 1 | .bead _ => 1 | .left f => hgt f + 1 | .right f => hgt f + 1
  | .pair f g => max (hgt f) (hgt g) + 1 | .many _ ps => hgts ps + 1
def hgts : List Fig → Nat
  | [] => 0 | f :: fs => max (hgt f) (hgts fs)
end
theorem hgts_le {n : Nat} : ∀ {fs : List Fig}, (∀ f ∈ fs, hgt f ≤ n) → hgts fs ≤ n
  | [], _ => Nat.zero_le _
  | f :: fs, h => by
    have h1 := h f List.mem_cons_self
    have h2 := hgts_le (fs := fs) fun g m => h g (List.mem_cons_of_mem _ m)
    simp only [hgts]; omega
theorem hgts_mem {f : Fig} : ∀ {fs : List Fig}, f ∈ fs → hgt f ≤ hgts fs
  | [], h => nomatch h
  | g :: fs, h => by
    simp only [hgts]
    rcases List.mem_cons.mp h with rfl | h
    · omega
    · have := hgts_mem h; omega
theorem hgt_parts {f g : Fig} (h : g ∈ f.parts) : hgt g < hgt f := by
  cases f with
  | nothing => cases h
  | bead c => cases h
  | left f => simp [Fig.parts] at h; subst h; simp [hgt]
  | right f => simp [Fig.parts] at h; subst h; simp [hgt]
  | pair a b => simp [Fig.parts] at h; rcases h with rfl | rfl <;> simp only [hgt] <;> omega
  | many k ps => have := hgts_mem (fs := ps) h; simp only [hgt]; omega
/-! the colours are plain texts -/
mutual
def cok : Fig → Bool
  | .nothing => true | .bead c => PyData.strOk c | .left f => cok f | .right f => cok f
  | .pair f g => cok f && cok g | .many _ ps => coks ps
def coks : List Fig → Bool
  | [] => true | f :: fs => cok f && coks fs
end
theorem coks_iff : ∀ {fs : List Fig}, coks fs = true ↔ ∀ f ∈ fs, cok f = true
  | [] => by simp [coks]
  | f :: fs => by simp [coks, coks_iff (fs := fs)]
theorem strOk_lit {s : Str} (h : s.cps.all (· < 128) = true) : PyData.strOk s = true := by
  unfold PyData.strOk
  rw [Array.all_eq_true'] at *
  intro x hx
  have := h x hx
  simp at this ⊢
  omega
mutual
theorem plain_enc : ∀ f : Fig, cok f = true → plainD (enc f) = true
  | .nothing, _ => by simp [enc, plainD, plainDs]; decide +kernel
  | .bead c, h => by simp [enc, plainD, plainDs]; exact ⟨by decide +kernel, h⟩
  | .left f, h => by simp [enc, plainD, plainDs]; exact ⟨by decide +kernel, plain_enc f h⟩
  | .right f, h => by simp [enc, plainD, plainDs]; exact ⟨by decide +kernel, plain_enc f h⟩
  | .pair f g, h => by
    simp only [cok, Bool.and_eq_true] at h
    simp [enc, plainD, plainDs]; exact ⟨by decide +kernel, plain_enc f h.1, plain_enc g h.2⟩
  | .many k ps, h => by
    simp [enc, plainD, plainDs]; exact ⟨by cases k <;> decide +kernel, plains_enc ps h⟩
theorem plains_enc : ∀ fs : List Fig, coks fs = true → plainDs (encs fs) = true
  | [], _ => rfl
  | f :: fs, h => by
    simp only [coks, Bool.and_eq_true] at h
    simp only [encs, plainDs, plain_enc f h.1, plains_enc fs h.2]; rfl
end
mutual
theorem dep_enc : ∀ f : Fig, depD (enc f) ≤ 2 * hgt f
  | .nothing => by simp [enc, depD, depDs, hgt]
  | .bead c => by simp [enc, depD, depDs, hgt]
  | .left f => by have := dep_enc f; simp only [enc, depD, depDs, hgt]; omega
  | .right f => by have := dep_enc f; simp only [enc, depD, depDs, hgt]; omega
  | .pair f g => by have := dep_enc f; have := dep_enc g; simp only [enc, depD, depDs, hgt]; omega
  | .many k ps => by have := deps_enc ps; simp only [enc, depD, depDs, hgt]; omega
theorem deps_enc : ∀ fs : List Fig, depDs (encs fs) ≤ 2 * hgts fs
  | [] => by simp [encs, depDs]
  | f :: fs => by have := dep_enc f; have := deps_enc fs; simp only [encs, depDs, hgts]; omega
end
theorem eqOk_enc {a b : Fig} (ha : cok a = true) (hb : cok b = true) (h : hgt a ≤ 95) : eqOk (enc a) (enc b) = true := by
  unfold eqOk
  have := dep_enc a
  simp only [plain_enc a ha, plain_enc b hb, Bool.and_eq_true, decide_eq_true_eq]
  exact ⟨⟨trivial, trivial⟩, by omega⟩
theorem fNeQ_refl {a : Fig} (ha : cok a = true) (h : hgt a ≤ 95) : fNeQ (enc a) (enc a) = some (.bl false) := by
  unfold fNeQ; rw [if_pos (eqOk_enc ha ha h)]; unfold eqv; rw [eqv_refl]; rfl
theorem fEqQ_refl {a : Fig} (ha : cok a = true) (h : hgt a ≤ 95) : fEqQ (enc a) (enc a) = some (.bl true) := by
  unfold fEqQ; rw [if_pos (eqOk_enc ha ha h)]; unfold eqv; rw [eqv_refl]
end Ab
namespace Ab
open PySem L2 PyProof.Rows PySem.Spec
theorem atI_encs {ps : List Fig} {k : Int} (h0 : 0 ≤ k) (h1 : k < (ps.length : Int)) : atI (encs ps) k = some (enc (ps[k.toNat]'(by omega))) := by
  unfold atI ixN
  rw [if_pos h0, encs_len, if_pos h1]
  show (encs ps)[k.toNat]? = _
  rw [encs_map, List.getElem?_map, List.getElem?_eq_getElem (by omega)]
  rfl
/-- the part at a path -/
def Fig.at_ : Fig → List Int → Option Fig
  | f, [] => some f
  | f, k :: ks => if h : 0 ≤ k ∧ k < (f.parts.length : Int) then (f.parts[k.toNat]'(by omega)).at_ ks else none
theorem at_cons (f : Fig) (k : Int) (ks : List Int) : f.at_ (k :: ks) = if h : 0 ≤ k ∧ k < (f.parts.length : Int) then (f.parts[k.toNat]'(by omega)).at_ ks else none := rfl
theorem at_app : ∀ (p q : List Int) (f : Fig), f.at_ (p ++ q) = (f.at_ p).bind fun g => g.at_ q
  | [], q, f => by simp [Fig.at_]
  | k :: p, q, f => by
    show Fig.at_ f (k :: (p ++ q)) = _
    rw [at_cons, at_cons]
    by_cases h : 0 ≤ k ∧ k < (f.parts.length : Int)
    · rw [dif_pos h, dif_pos h]; exact at_app p q _
    · rw [dif_neg h, dif_neg h]; rfl
end Ab
namespace Ab
open PySem L2 PyProof.Rows PySem.Spec
mutual
def cnt : Fig → Nat
  | .nothing => 1 | .bead _ => 1 | .left f => cnt f + 1 | .right f => cnt f + 1
  | .pair f g => cnt f + cnt g + 1 | .many _ ps => cnts ps + 1
def cnts : List Fig → Nat
  | [] => 0 | f :: fs => cnt f + cnts fs
end
theorem cnt_pos : ∀ f : Fig, 1 ≤ cnt f
  | .nothing => Nat.le_refl _ | .bead _ => Nat.le_refl _ | .left f => by simp [cnt] | .right f => by simp [cnt]
  | .pair f g => by simp [cnt] | .many _ ps => by simp [cnt]
mutual
theorem hgt_cnt : ∀ f : Fig, hgt f ≤ cnt f
  | .nothing => Nat.le_refl _ | .bead _ => Nat.le_refl _
  | .left f => by have := hgt_cnt f; simp only [hgt, cnt]; omega
  | .right f => by have := hgt_cnt f; simp only [hgt, cnt]; omega
  | .pair f g => by have := hgt_cnt f; have := hgt_cnt g; simp only [hgt, cnt]; omega
  | .many _ ps => by have := hgts_cnts ps; simp only [hgt, cnt]; omega
theorem hgts_cnts : ∀ fs : List Fig, hgts fs ≤ cnts fs
  | [] => Nat.le_refl _
  | f :: fs => by have := hgt_cnt f; have := hgts_cnts fs; simp only [hgts, cnts]; omega
end
theorem cnts_len : ∀ fs : List Fig, fs.length ≤ cnts fs
  | [] => Nat.le_refl _
  | f :: fs => by have := cnt_pos f; have := cnts_len fs; simp only [cnts, List.length_cons]; omega
theorem cnts_app : ∀ (a b : List Fig), cnts (a ++ b) = cnts a + cnts b
  | [], b => by simp [cnts]
  | f :: fs, b => by simp only [List.cons_append, cnts, cnts_app fs b]; omega
theorem cnts_mem {f : Fig} : ∀ {fs : List Fig}, f ∈ fs → cnt f ≤ cnts fs
  | [], h => nomatch h
  | g :: fs, h => by
    simp only [cnts]
    rcases List.mem_cons.mp h with rfl | h
    · omega
    · have := cnts_mem h; omega
theorem cnt_parts (f : Fig) : cnt f = cnts f.parts + 1 := by
  cases f <;> simp [cnt, cnts, Fig.parts]
theorem cnts_sum : ∀ fs : List Fig, ((fs.map fun f => (cnt f : Int)).sum) = (cnts fs : Int)
  | [] => rfl
  | f :: fs => by simp only [List.map_cons, List.sum_cons, cnts_sum fs, cnts]; omega
theorem cnts_take_drop (fs : List Fig) (k : Nat) : cnts (fs.take k) + cnts (fs.drop k) = cnts fs := by
  rw [← cnts_app, List.take_append_drop]
theorem lcF_map {gt : D → State → Option State} {se : State → Option D} {α : State} {F : D → D} : ∀ {xs : List D}, (∀ x ∈ xs, ∃ β, gt x α = some β ∧ se β = some (F x)) → lcF gt tbYes se xs α = some (xs.map F)
  | [], _ => rfl
  | x :: xs, h => by
    obtain ⟨β, h1, h2⟩ := h x List.mem_cons_self
    unfold lcF
    rw [h1]
    simp [h2, lcF_map (xs := xs) fun y m => h y (List.mem_cons_of_mem _ m)]
theorem lcF_list {gt : D → State → Option State} {se : State → Option D} {α : State} {ι : Type} {E F : ι → D} : ∀ {xs : List ι}, (∀ x ∈ xs, ∃ β, gt (E x) α = some β ∧ se β = some (F x)) → lcF gt tbYes se (xs.map E) α = some (xs.map F)
  | [], _ => rfl
  | x :: xs, h => by
    obtain ⟨β, h1, h2⟩ := h x List.mem_cons_self
    show lcF gt tbYes se (E x :: xs.map E) α = _
    unfold lcF
    rw [h1]
    simp [h2, lcF_list (xs := xs) fun y m => h y (List.mem_cons_of_mem _ m)]
theorem fSum_ints (ns : List Int) : fSum (ns.map .int) = some (.int ns.sum) := by
  unfold fSum; rw [dints_of]; rfl
theorem cok_parts {f g : Fig} (h : cok f = true) (m : g ∈ f.parts) : cok g = true := by
  cases f with
  | nothing => cases m
  | bead c => cases m
  | left f => simp [Fig.parts] at m; subst m; exact h
  | right f => simp [Fig.parts] at m; subst m; exact h
  | pair a b =>
    simp only [cok, Bool.and_eq_true] at h
    simp [Fig.parts] at m; rcases m with rfl | rfl
    · exact h.1
    · exact h.2
  | many k ps => exact coks_iff.mp h g m
end Ab
namespace Ab
open PySem L2 PyProof.Rows PySem.Spec
@[simp] theorem fSum0 : fSum [] = some (.int 0) := rfl
@[simp] theorem fSum1 {i : Int} : fSum [.int i] = some (.int i) := by have := fSum_ints [i]; simpa using this
@[simp] theorem fSum2 {i j : Int} : fSum [.int i, .int j] = some (.int (i + j)) := by have := fSum_ints [i, j]; simpa using this
theorem ret_int {i j : Int} {α : State} (h : i = j) : ∃ β, Out.ret (.dat (.int i)) α = .ret (.dat (.int j)) β := ⟨α, by rw [h]⟩
end Ab
namespace Ab
open PySem L2 PyProof.Rows PySem.Spec
@[simp] theorem fSum_comp {ι : Type} {xs : List ι} {g : ι → Int} : fSum (xs.map (D.int ∘ g)) = some (.int (xs.map g).sum) := by
  rw [← List.map_map]; exact fSum_ints _
end Ab
namespace Ab
open PySem L2 PyProof.Rows PySem.Spec
theorem coks_app {a b : List Fig} : coks (a ++ b) = true ↔ coks a = true ∧ coks b = true := by
  rw [coks_iff, coks_iff, coks_iff]
  constructor
  · exact fun h => ⟨fun f m => h f (List.mem_append_left _ m), fun f m => h f (List.mem_append_right _ m)⟩
  · rintro ⟨h1, h2⟩ f m
    rcases List.mem_append.mp m with m | m
    · exact h1 f m
    · exact h2 f m
theorem concat_of {β : Type} {xs : List β} (h : xs ≠ []) : ∃ ys y, xs = ys ++ [y] := ⟨xs.dropLast, xs.getLast h, (List.dropLast_concat_getLast h).symm⟩
@[simp] theorem encs_nil : encs [] = [] := rfl
@[simp] theorem encs_cons {f : Fig} {fs : List Fig} : encs (f :: fs) = enc f :: encs fs := rfl
end Ab
end
section
set_option maxRecDepth 100000
set_option maxHeartbeats 1000000
namespace Ab
open PySem L2 PyProof.Rows PySem.Spec
variable [Hd]
/-! ### C() where the class has no __init__ -/
/-- what such a class must have -/
structure Mk0 (K : PySem.W.Frag) (C : Addr) : Prop where
  makes : PySem.W.makesIn K C = true
  init : PySem.W.findIn K (.ref C) "__init__" = some (some (.builtin "object.__init__"))
  top : PySem.W.mroIn K C (.type "object") = some true
  kp : PySem.W.keepIn K (.ref C) = true
def tMake0 (C : Addr) : TE := fun σ H Q => ∀ x dx, H x = none → H dx = none → dx ≠ x → Q (.ref x) (upd (upd H dx (.own x)) x (.ins C dx []))
section
variable {X : Cx} {C : Addr} {x : Str} {p pos : Pos}
theorem pe_new0 (M : Mk0 X.K C) (hg : Gl X x) (hm : X.mg x = some (.ref C)) (hdb : (x == ("__debug__" : Str)) = false := by decide) : PE X (.Call (.Name x p) [] [] pos) (tMake0 C) := by
  refine ⟨fun pins s σ H Q I h => ?_⟩
  refine wpAny_Call_Name_kw (ld_glob I hg hm ?_ hdb)
  refine PySem.W.callWith_K0 I.kIn M.kp ?_
  have I2 := Inv.made (C := C) I
  have hq := h (s.heap.objs.size + 1) s.heap.objs.size (I.hok.fresh (Nat.le_succ _)) (I.hok.fresh (Nat.le_refl _)) (Nat.ne_of_lt (Nat.lt_succ_self _))
  refine wpAny_call (make_map0 I.kIn M.makes M.init (fun self => PySem.W.Looks.of_pure (PySem.W.oi_bind self)) ?_)
  have Y := PySem.W.makes_of (M := model X.prog X.w) I.kIn M.makes
  obtain ⟨hh, g, d, tk, os⟩ := s
  have hx : ((hh.push PySem.W.emptyDict).push (PySem.W.instObj C hh.objs.size)).get? (hh.objs.size + 1) = some (PySem.W.instObj C hh.objs.size) := by heap_get
  have t1 : PySem.W.Looks (model X.prog X.w) ((hh.push PySem.W.emptyDict).push (PySem.W.instObj C hh.objs.size)) (typeOf (.ref (hh.objs.size + 1))) (.ref C) := (PySem.W.Looks.ld hx).andThen .now
  have t2 : PySem.W.Looks (model X.prog X.w) ((hh.push PySem.W.emptyDict).push (PySem.W.instObj C hh.objs.size)) (isInstance (.ref (hh.objs.size + 1)) (.type "object")) true := t1.andThen (Y.top.keeps fun b o e => Heap.get?_push_of_some _ (Heap.get?_push_of_some _ e))
  refine codeAny_call_builtin PySem.W.oi_plain PySem.W.entry_oi (@PySem.W.check_slot (model X.prog X.w) _ _ _ "object.__init__" "object" "__init__" (.ref (hh.objs.size + 1)) [] [] _ PySem.W.oi_kind PySem.W.oi_split t2 (PySem.W.oi_args (.ref (hh.objs.size + 1))) ?_)
  rw [PySem.W.oi_run]
  exact wpAny_pure (And.intro rfl ⟨V.ref (hh.objs.size + 1), _, I2, rfl, hq⟩)
end
section
variable {e : En} {c : String}
def xNew0 (c : String) : State → Option (String × List (Str × D)) := fun _ => some (c, [])
theorem eb_new0 : Evb e (tMake0 (e.cls c)) (xNew0 c) := fun cn L S σ H α x R h Q q => by
  cases h
  intro p dx hp hdx hne
  have sN : Sm H (upd (upd H dx (.own p)) p (.ins (e.cls c) dx [])) := .of fun b o z => by rw [upd_ne (ne_of_none z hp), upd_ne (ne_of_none z hdx)]; exact z
  exact q p dx [] _ sN hp upd_same rfl
@[simp] theorem a_xNew0 {α : State} : xNew0 c α = some (c, []) := (rfl)
end
end Ab
end
section
set_option maxRecDepth 100000
set_option maxHeartbeats 1000000
namespace Ab
open PySem L2 PyProof.Rows PySem.Spec
variable [Hd]
section
variable {e : En} {E : XK} {te to ta tb : TE} {tr : TA}
/-! ### operators with side effects -/
def r2 (f : D → D → Option D) (sa sb : State → Res D) : State → Res D := fun α => match sa α with
  | .ok a α1 => (match sb α1 with
    | .ok b α2 => (match f a b with | some d => .ok d α2 | none => .bad)
    | .exc x => .exc x | .bad => .bad)
  | .exc x => .exc x | .bad => .bad
theorem ee_op {r : R2} {f : D → D → Option D} {sa sb : State → Res D} (hr : RvD e r f) (ha : Eve e E ta sa) (hb : Eve e E tb sb) : Eve e E (tOp r ta tb) (r2 f sa sb) := fun c L S σ H α R Q k kx nb => by
  unfold r2 at k kx nb
  refine ha c L S σ H α R _ (fun a α1 hs v H1 m1 R1 r1 => ?_) (fun x hx => kx x (by rw [hx])) (fun hb => nb (by rw [hb]))
  rw [hs] at k kx nb
  dsimp only at k kx nb
  refine hb c L S σ H1 α1 R1 _ (fun b α2 hs2 u H2 m2 R2 r2 => ?_) (fun x hx => kx x (by rw [hx])) (fun hb => nb (by rw [hb]))
  rw [hs2] at k nb
  dsimp only at k nb
  cases hf : f a b with
  | none => rw [hf] at nb; exact absurd rfl nb
  | some d =>
    rw [hf] at k
    exact hr L H2 a b v u d R2.dm (Rep.up r1 (fz_mod m2 R1.sub)) r2 hf Q fun w H3 e3 r3 => k d α2 rfl w H3 ((m1.trans m2).trans (.of e3)) (R2.up e3) r3
/-- what a making gives -/
def mkV (c : String) (m : List A → MRes) (ds : List D) : Option (List (Str × D)) := match m (.inn (.obj c []) :: ds.map .dat) with
  | .ok (.dat .non) (.inn (.obj c' fs) :: _) => if c' = c then some fs else none
  | _ => none
theorem mkV_some {c : String} {m : List A → MRes} {ds : List D} {fs : List (Str × D)} (h : mkV c m ds = some fs) : ∃ rest, m (.inn (.obj c []) :: ds.map .dat) = .ok (.dat .non) (.inn (.obj c fs) :: rest) := by
  unfold mkV at h
  generalize m (.inn (.obj c []) :: ds.map .dat) = r at *
  split at h
  · rename_i c' fs' rest
    split at h
    · rename_i hc
      cases h; subst hc; exact ⟨rest, rfl⟩
    · cases h
  · cases h
theorem make_step {c : String} {m : List A → MRes} {cn : Cn} {L S : List Addr} {σ : L2.St} {H1 : Hp} {α1 : State} {ds : List D} {vs : List V} {fs : List (Str × D)} {Q : VK} (R1 : Rel e cn L S σ H1 α1) (r1 : Reps e (fz L H1) ds vs) (h : mkV c m ds = some fs)
    (q : ∀ p dx gs H', Sm H1 H' → H1 p = none → H' p = some (.ins (e.cls c) dx gs) → RepF e (fz (p :: L) H') fs gs → Q (.ref p) H') (p dx : Addr) (hp : H1 p = none) (hdx : H1 dx = none) (hne : dx ≠ p) :
    spM e m (.ref p :: (vs ++ [])) (upd (upd H1 dx (.own p)) p (.ins (e.cls c) dx [])) (fun v H2 => v = .non ∧ Q (.ref p) H2) E := by
  obtain ⟨rest, hm0⟩ := mkV_some h
  have hpL : p ∉ L ∧ ¬ Hd.hid p := fresh_nL R1.dm hp
  have hdL : dx ∉ L := (fresh_nL R1.dm hdx).1
  have sN : Sm H1 (upd (upd H1 dx (.own p)) p (.ins (e.cls c) dx [])) := .of fun b o z => by rw [upd_ne (ne_of_none z hp), upd_ne (ne_of_none z hdx)]; exact z
  refine ⟨p :: L, [p], .inn (.obj c []) :: ds.map .dat, R1.dm.new sN hp upd_same, fun b hb => by simp at hb; subst hb; simp, by simp only [innCount, count_dats]; omega, ⟨.ref p, vs ++ [], rfl, ⟨p, _, rfl, by simp, upd_same, ⟨dx, [], rfl, rfl⟩⟩, by rw [List.append_nil]; exact asrep_dats (r1.up (fz_cons sN hp))⟩, ?_, ?_, ?_⟩
  · intro r as' hm v H' md ar rr
    rw [hm0] at hm
    cases hm
    obtain ⟨v0, w0, q0, ⟨p0, o0, q1, m0, ho, rc⟩, _⟩ := ar
    cases q0
    cases q1
    obtain ⟨dx', gs, rfl, rF⟩ := rc
    exact ⟨rr, q p dx' gs H' (sN.thenM md hp) hp ho rF⟩
  · intro x' hm
    rw [hm0] at hm
    cases hm
  · intro hm
    rw [hm0] at hm
    cases hm
/-- C(..), its arguments with side effects: data -/
def rMake (c : String) (m : List A → MRes) (sr : State → Res (List Arg)) : State → Res D := fun α => match sr α with
  | .ok as α1 => (match bnd (datas as) (mkV c m) with | some fs => .ok (.ins c fs) α1 | none => .bad)
  | .exc x => .exc x | .bad => .bad
theorem ee_make {c : String} {m : List A → MRes} {sr : State → Res (List Arg)} (h : EvaE e E tr sr) : Eve e E (tMake (e.cls c) (spM e m) [] E0 tr) (rMake c m sr) := fun cn L S σ H α R Q k kx nb => by
  unfold rMake at k kx nb
  refine h cn L S σ H α R _ (fun as α1 hs vs H1 m1 R1 ra => ?_) (fun x hx => kx x (by rw [hx])) (fun hb => nb (by rw [hb]))
  rw [hs] at k nb
  dsimp only at k nb
  cases hb : bnd (datas as) (mkV c m) with
  | none => rw [hb] at nb; exact absurd rfl nb
  | some fs =>
    rw [hb] at k
    obtain ⟨ds, h1, h2⟩ := bnd_some hb
    have r1 := datas_rep h1 ra
    exact fun p dx hp hdx hne => make_step R1 r1 h2 (fun p dx gs H' e1 n hp r => k _ α1 rfl _ H' (m1.trans (.of e1)) (R1.up e1) ⟨p, dx, gs, rfl, fz_new (fresh_nL R1.dm n) hp, RepF.mono (fz_anti fun a m => List.mem_cons_of_mem _ m) _ _ r⟩) p dx hp hdx hne
/-! ### x.pop(k) -/
theorem Reps.erase {F : Hp} : ∀ {ds : List D} {vs : List V} (n : Nat), Reps e F ds vs → Reps e F (ds.eraseIdx n) (vs.eraseIdx n)
  | [], _, n, r => by cases r; exact Reps.nil
  | d :: ds, _, 0, ⟨v, r, q, x, y⟩ => by subst q; exact y
  | d :: ds, _, n + 1, ⟨v, r, q, x, y⟩ => by subst q; exact Reps.cons x (Reps.erase n y)
def xPopAt (i : Nat) (s : State → Option D) : State → Res D := fun α => match s α, ctOf α[i]? with
  | some (.int z), some (.lst xs) => if rngOk z = true then (match seqIndex? z xs.length with
    | some j => (match xs[j]? with | some d => .ok d (putC α i (.lst (xs.eraseIdx j))) | none => .bad)
    | none => .bad) else .bad
  | _, _ => .bad
theorem ee_popAt (i : Nat) {s : State → Option D} (hs : Evp e te s) : Eve e E (tBM e.K "list" rPopAt (tVar i) (tCons te tNil)) (xPopAt i s) := fun c L S σ H α R Q k kx nb => by
  unfold xPopAt at k nb
  split at nb
  · rename_i z xs hz hc
    split at nb
    · rename_i hrng
      cases hj : seqIndex? z xs.length with
      | none => rw [hj] at nb; exact absurd rfl nb
      | some j =>
        simp only [hj] at nb
        cases hd : xs[j]? with
        | none => rw [hd] at nb; exact absurd rfl nb
        | some d =>
          simp only [hz, hc, if_pos hrng, hj, hd] at k
          obtain ⟨p, o, h1, m1, ho, vs, rfl, r1⟩ := R.at hc
          obtain ⟨v, hv, rv⟩ := r1.get hd
          refine ⟨.ref p, h1, .inl ⟨rfl, vs, SqL.of ho⟩, ?_⟩
          refine hs c L S σ H α _ R hz _ fun v2 H2 e2 r2 => ?_
          cases r2
          have hr := rngOk_iff.mp hrng
          have e2k_of_ho := e2.k _ _ ho (R.nh p (R.sub p m1))
          refine ⟨p, vs, z, j, v, rfl, rfl, e2k_of_ho, by have : (-(2 ^ 63) : Int) ≤ -(2 ^ 62) := by decide
                                                          omega, by have : (2 ^ 62 : Int) ≤ 2 ^ 63 := by decide
                                                                    omega, by rw [r1.len]; exact hj, hv, ?_⟩
          obtain ⟨R2, m2⟩ := (R.up e2).mut hc h1 (o := .lst (vs.eraseIdx j)) (ct' := .lst (xs.eraseIdx j)) ⟨_, rfl, (r1.up (fz_same e2)).erase j⟩
          exact k d _ rfl v _ (Mod.trans (.of e2) m2) R2 (rv.up ((fz_same e2).trans (fz_mod m2 R.sub)))
    · exact absurd rfl nb
  · exact absurd rfl nb
/-! ### l.index(x) of flat things -/
def ixF (ds : List D) (d : D) : Option Nat := ds.findIdx? fun x => eqV (dv x) (dv d)
def xIdxF (sq : State → Option (List D)) (s : State → Option D) : State → Option D := fun α => bnd (sq α) fun ds => bnd (s α) fun d => if (flat d && ds.all flat) = true then (ixF ds d).map fun (j : Nat) => D.int (j : Int) else none
theorem ev_idxF {sq : State → Option (List D)} {s : State → Option D} (h : EvqL e te sq) (hs : Evp e ta s) : Evp e (tBM e.K "list" (rIndex e.K) te (tCons ta tNil)) (xIdxF sq s) := fun c L S σ H α d R q Q k => by
  obtain ⟨ds, h1, q⟩ := bnd_some q
  obtain ⟨x, h2, q⟩ := bnd_some q
  split at q
  · rename_i hf
    simp only [Bool.and_eq_true] at hf
    cases hj : ixF ds x with
    | none => rw [hj] at q; cases q
    | some j =>
      rw [hj] at q; cases q
      refine h c L S σ H α ds R h1 _ fun a vs H1 e1 r1 r2 => ?_
      have := reps_flat hf.2 r2
      subst this
      refine ⟨.inl ⟨rfl, _, fz_le.seq r1⟩, ?_⟩
      refine hs c L S σ H1 α _ (R.up e1) h2 _ fun v H2 e2 r3 => ?_
      have := rep_flat hf.1 r3
      subst this
      unfold ixF at hj
      obtain ⟨hlt, hp, hq⟩ := List.findIdx?_eq_some_iff_getElem.mp hj
      refine ⟨a, ds.map dv, dv x, j, dv ds[j], rfl, rfl, fz_le.seq ((fz_same e2).seq r1), flatV_dv hf.1, flatV_dvs hf.2, by rw [List.getElem?_map, List.getElem?_eq_getElem hlt]; rfl, hp, fun m z' hm hz' => ?_, k _ H2 (e1.trans e2) rfl⟩
      rw [List.getElem?_map] at hz'
      have hml : m < ds.length := by omega
      rw [List.getElem?_eq_getElem hml] at hz'
      cases hz'
      have := hq m hm
      simpa using this
  · cases q
/-! ### a def that changes a list, given a new one that is forgotten -/
def Evan (e : En) (ta : TA) (s : State → Option (List D × List D × List D)) : Prop := ∀ c L S σ H α x, Rel e c L S σ H α → s α = some x → ∀ Q : List V → Hp → Prop, (∀ us p vs ws H', Sm H H' → H p = none → H' p = some (.lst vs) → Reps e (fz (p :: L) H') x.1 us → Reps e (fz (p :: L) H') x.2.1 vs → Reps e (fz (p :: L) H') x.2.2 ws → Q (us ++ .ref p :: ws) H') → ta σ H Q
def nHere (sl sr : State → Option (List D)) : State → Option (List D × List D × List D) := fun α => bnd (sl α) fun xs => bnd (sr α) fun bs => some ([], xs, bs)
def nNext (s : State → Option D) (sn : State → Option (List D × List D × List D)) : State → Option (List D × List D × List D) := fun α => bnd (s α) fun d => bnd (sn α) fun x => some (d :: x.1, x.2)
theorem an_here {tl : TE} {sl sr : State → Option (List D)} (hl : Evl e tl sl) (hr : Eva e tr sr) : Evan e (tCons tl tr) (nHere sl sr) := fun c L S σ H α x R q Q k => by
  obtain ⟨xs, h1, q⟩ := bnd_some q
  obtain ⟨bs, h2, q⟩ := bnd_some q
  cases q
  refine hl c L S σ H α xs R h1 _ fun p vs H1 e1 n hp r1 => ?_
  have R1 : Rel e c (p :: L) S σ H1 α := R.more e1 n hp
  refine hr c (p :: L) S σ H1 α bs R1 h2 _ fun ws H2 e2 r2 => ?_
  exact k [] p vs ws H2 (e1.trans e2) n (e2.k _ _ hp (R1.nh p List.mem_cons_self)) Reps.nil (r1.up (fz_same e2)) r2
theorem an_next {s : State → Option D} {sn : State → Option (List D × List D × List D)} (h : Evp e te s) (hn : Evan e tr sn) : Evan e (tCons te tr) (nNext s sn) := fun c L S σ H α x R q Q k => by
  obtain ⟨d, h1, q⟩ := bnd_some q
  obtain ⟨y, h2, q⟩ := bnd_some q
  cases q
  refine h c L S σ H α d R h1 _ fun v H1 e1 r1 => ?_
  refine hn c L S σ H1 α y (R.up e1) h2 _ fun us p vs ws H2 e2 n hp r2 r3 r4 => ?_
  exact k (v :: us) p vs ws H2 (e1.trans e2) (none_back R.inv e1 n) hp (Reps.cons (r1.up (fz_cons e2 n)) r2) r3 r4
def xCallN (m : List A → MRes) (s : State → Option (List D × List D × List D)) : State → Option D := fun α => bnd (s α) fun x => match m (x.1.map .dat ++ .inn (.lst x.2.1) :: x.2.2.map .dat) with | .ok (.dat d) _ => some d | _ => none
theorem asrep_app {L S : List Addr} {H : Hp} : ∀ {as bs : List A} {us vs : List V}, AsRep e L S H as us → AsRep e L S H bs vs → AsRep e L S H (as ++ bs) (us ++ vs)
  | [], _, _, _, r, s => by cases r; exact s
  | a :: as, _, _, _, ⟨v, w, q, r1, r2⟩, s => by subst q; exact ⟨v, _, rfl, r1, asrep_app r2 s⟩
theorem count_app : ∀ (as bs : List A), innCount (as ++ bs) = innCount as + innCount bs
  | [], bs => by simp [innCount]
  | a :: as, bs => by cases a <;> simp only [List.cons_append, innCount, count_app as bs] <;> omega
theorem ev_callN {ta' : TA} {m : List A → MRes} {s : State → Option (List D × List D × List D)} (h : Evan e ta' s) : Evp e (tCall (spM e m) [] E0 ta') (xCallN m s) := fun c L S σ H α d R q Q k => by
  obtain ⟨x, h1, q⟩ := bnd_some q
  refine h c L S σ H α x R h1 _ fun us p vs ws H1 e1 n hp r1 r2 r3 => ?_
  have R1 : Rel e c (p :: L) S σ H1 α := R.more e1 n hp
  show spM e m ((us ++ .ref p :: ws) ++ []) H1 Q E0
  rw [List.append_nil]
  refine ⟨p :: L, [p], x.1.map .dat ++ .inn (.lst x.2.1) :: x.2.2.map .dat, R1.dm, fun b hb => by simp at hb; subst hb; simp, ?_, asrep_app (asrep_dats r1) (bs := .inn (.lst x.2.1) :: x.2.2.map .dat) ⟨.ref p, ws, rfl, ⟨p, _, rfl, by simp, hp, vs, rfl, r2⟩, asrep_dats r3⟩, ?_, ?_, ?_⟩
  · rw [count_app, count_dats]; simp only [innCount, count_dats]; omega
  · intro r as' hm v H' md ar rr
    rw [hm] at q
    cases r with
    | lst xs => cases q
    | dat d' =>
      cases q
      refine k v H' (e1.thenM md n) (Rep.up rr (fz_anti fun a m => List.mem_cons_of_mem _ m))
  · intro x' hm; rw [hm] at q; cases q
  · intro hm; rw [hm] at q; cases q
@[simp] theorem a_nHere {sl sr : State → Option (List D)} {α : State} : nHere sl sr α = bnd (sl α) fun xs => bnd (sr α) fun bs => some ([], xs, bs) := (rfl)
@[simp] theorem a_nNext {s : State → Option D} {sn : State → Option (List D × List D × List D)} {α : State} : nNext s sn α = bnd (s α) fun d => bnd (sn α) fun x => some (d :: x.1, x.2) := (rfl)
@[simp] theorem a_xCallN {m : List A → MRes} {s : State → Option (List D × List D × List D)} {α : State} : xCallN m s α = bnd (s α) fun x => match m (x.1.map .dat ++ .inn (.lst x.2.1) :: x.2.2.map .dat) with | .ok (.dat d) _ => some d | _ => none := (rfl)
end
theorem mtpopat {X : Cx} {K : PySem.W.Frag} (h : X.K = K) : MtM X "list.pop" rPopAt := mt_popAt
section
variable {α : State} {i : Nat} {s : State → Option D} {sq : State → Option (List D)} {ra rb : State → Res D} {rl : State → Res (List Arg)}
@[simp] theorem a_r2 {f : D → D → Option D} : r2 f ra rb α = (match ra α with
  | .ok a α1 => (match rb α1 with
    | .ok b α2 => (match f a b with | some d => .ok d α2 | none => .bad)
    | .exc x => .exc x | .bad => .bad)
  | .exc x => .exc x | .bad => .bad) := (rfl)
@[simp] theorem a_rMake {c : String} {m : List A → MRes} : rMake c m rl α = (match rl α with
  | .ok as α1 => (match bnd (datas as) (mkV c m) with | some fs => .ok (.ins c fs) α1 | none => .bad)
  | .exc x => .exc x | .bad => .bad) := (rfl)
@[simp] theorem a_xPopAt : xPopAt i s α = (match s α, ctOf α[i]? with
  | some (.int z), some (.lst xs) => if rngOk z = true then (match seqIndex? z xs.length with
    | some j => (match xs[j]? with | some d => .ok d (putC α i (.lst (xs.eraseIdx j))) | none => .bad)
    | none => .bad) else .bad
  | _, _ => .bad) := (rfl)
@[simp] theorem a_xIdxF : xIdxF sq s α = bnd (sq α) fun ds => bnd (s α) fun d => if (flat d && ds.all flat) = true then (ixF ds d).map fun (j : Nat) => D.int (j : Int) else none := (rfl)
end
end Ab
end
section
set_option maxRecDepth 100000
set_option maxHeartbeats 1000000
namespace Ab
open PySem L2 PyProof.Rows PySem.Spec
variable [Hd]
/-! ### own exceptions with __init__ and one field -/
section
variable {X : Cx} {C : Addr} {mc : Value} {e : Expr} {es : List Expr} {x : Str} {pos p1 p2 : Pos} {ta : TA} {pl : Sem Bool}
/-- B.__init__(self, ..), B an own class that has ValueError's -/
theorem pe_vei (hg : Gl X x) (hm : X.mg x = some (.ref C)) (r : ClX.CRead X.K C mc) (cv : PySem.W.findCls X.K (.ref C) mc "__init__" = some (.val (.builtin "ValueError.__init__"))) (ha : PA X (e :: es) ta)
    (he : starEach (e :: es) X.env = (false, eval e X.env) :: starEach es X.env := by rfl) (hpl : (backTo pos (starEach es X.env)).any (·.1) = false := by rfl) (hdb : (x == ("__debug__" : Str)) = false := by decide)
    (ht : eval (.Call (.Attribute (.Name x p1) "__init__" p2) (e :: es) [] pos) X.env = (do
      let ov ← eval (.Name x p1) X.env
      standAt p2.atName
      let (f, first) ← holding [ov] (getMethod ov "__init__" pl)
      callWith pos f first (backTo pos (starEach (e :: es) X.env)) (backToKw pos (keywordEach [] X.env))) := by rfl) :
    PE X (.Call (.Attribute (.Name x p1) "__init__" p2) (e :: es) [] pos) (tVeI X.K ta) := by
  refine ⟨fun pins s σ H Q I h => ?_⟩
  refine PySem.W.methodCall_KW (pl := pl) (ld_glob I hg hm ?_ hdb) ht
  refine PySem.W.method_cls I.kIn r.ga (PySem.W.cls_value I.kIn r.rd cv (by decide +kernel) ?_)
  have I0 := I.tok (s.toks + 1)
  show wpAny _ _ (callWith pos (Value.builtin "ValueError.__init__") [] (backTo pos (starEach (e :: es) X.env)) []) _ _ _
  refine PyProof.Rows.callWith_method1 (thn (ha.run pos pins _ σ H _ I0 h) fun us s1 ⟨vs, H1, I1, r1, a, C, ws, ev, hl, T, ea, q⟩ => ?_) he hpl
  subst ev
  cases r1 with
  | @cons _ u0 _ ur ra rw' =>
    obtain rfl : u0 = Value.ref a := ra
    have hlen : ur.length ≤ sizeLine := by
      rw [← Paired.length rw', sizeLine_eq]
      omega
    exact oinit_ok T I1 ea hlen fun s' J => ⟨.non, H1, J, rfl, q⟩
end
/-- __init__(self, x): B.__init__(self, ".."); self.f = x -/
def spXI (C : Addr) (f : Str) : Sp := fun vs H Q _ => ∃ a y, vs = [.ref a, y] ∧ H a = some (exo a C none) ∧ ∀ dx, H dx = none → dx ≠ a → Q .non (upd (upd H dx (exd dx [(f, y)])) a (exo a C (some dx)))
section
variable {P : Program} {w : World} {K : PySem.W.Frag} {mg : Str → Option Value} {base : Heap}
theorem fn_XI {x qual : Str} {st : Stmt} {f C : Addr} {fd : FuncData} {a fl : Str} {tx : V} {k : Nat} (F : Fun K x qual st f fd) (S : FnScope ["self", a] ["self", a] (defScope st)) (T : OexC K C) (hno : PySem.W.findIn K (.ref C) fl = some none)
    (hbody : ∀ (cdv : Value) (A : Around) (outer : List Env) (s0 : Shared) (H : Hp) (E : XK), Room k (A.deeper (envOfC qual (defScope st) s0.heap.objs.size f cdv)) →
      PSs (cxOf CX0 P w K mg base ["self", a] qual (defScope st) f cdv A outer s0 H E).nox (defBody st) (tSeq (tDrop (tVeI K (tCons (tVar 0) (tCons (tC tx) tNil)))) (tOst K fl (tVar 0) (tVar 1)))) :
    FnOk P w K mg base CX0 (k + 1) f fd ["self", a] (spXI C fl) := by
  refine F.ok S (fun vs H Q E ⟨p, y, h, _⟩ => by rw [h]; rfl) (fun cdv A outer s0 H vs Q E hr h => ?_)
  obtain ⟨p, y, rfl, hp, q⟩ := h
  refine ⟨_, hbody cdv A outer s0 H E hr, ?_⟩
  refine ⟨.ref p, rfl, p, C, [tx], rfl, Nat.le_of_ble_eq_true rfl, T, hp, ?_⟩
  exact ⟨y, rfl, .ref p, rfl, p, C, rfl, T, hno, .inl ⟨hp, fun dx h1 h2 => q dx h1 h2⟩⟩
end
/-- raise C(e) -/
def sRaise1 (nm : String) (f : Str) (s : State → Option D) : State → Out := fun α => match s α with | some d => .exc ⟨nm, [(f, d)]⟩ | none => .bad
section
variable {e : En} {E : XK} {te : TE}
theorem st_raise1 {nm : String} {f : Str} {s : State → Option D} (h : Evp e te s) : Sts e E (fun _ σ H => tMkO (e.cls nm) (spXI (e.cls nm) f) [] (tCons te tNil) σ H fun cls d H' => E cls d H') (sRaise1 nm f s) := fun c L S σ H α D R k => by
  unfold sRaise1 at k
  cases hs : s α with
  | none => rw [hs] at k; exact k.elim
  | some d =>
    rw [hs] at k
    refine h c L S σ H α d R hs _ fun v H1 e1 r1 => ⟨by show 1 ≤ 1000; decide, fun a ha => ?_⟩
    refine ⟨a, v, rfl, upd_same, fun dx hdx hne => ⟨rfl, dx, [(f, v)], upd_same, ?_, ?_, ?_⟩⟩
    · rw [upd_ne hne, upd_same]
    · rw [upd_ne hne] at hdx; exact hdx
    · have hd1 : H1 dx = none := by rw [upd_ne hne] at hdx; exact hdx
      have same : Sm H1 (upd (del (upd (upd (upd H1 a (exo a (e.cls nm) none)) dx (exd dx [(f, v)])) a (exo a (e.cls nm) (some dx))) a) dx (.xd [(f, v)])) := .of fun b o hb => by
        have hba : b ≠ a := ne_of_none hb ha
        have hbd : b ≠ dx := ne_of_none hb hd1
        rw [upd_ne hbd, del_ne hba, upd_ne hba, upd_ne hbd, upd_ne hba]
        exact hb
      refine k _ _ _ (R.md.trans (.of (e1.trans same))) ⟨rfl, .inr ⟨dx, [(f, v)], rfl, upd_same, v, [], rfl, ?_, rfl⟩⟩ (fun p hp => by cases hp; exact (R.up e1).h0 hd1)
      exact Rep.up (d := d) r1 ((fz_same same).trans (fz_anti R.l0))
end
/-! ### defs that may raise -/
inductive XR where
  | ok (d : D) | exc (x : Exn) | bad
def spX (e : En) (m : List D → XR) : Sp := fun vs H Q E => ∃ L ds, Dom L H ∧ Reps e (fz L H) ds vs ∧ (∀ d, m ds = .ok d → ∀ v H', Sm H H' → Rep e (fz L H') d v → Q v H') ∧ (∀ x, m ds = .exc x → ∀ cls dd H', Sm H H' → XRep e (fz L H') H' x cls dd → (∀ p, dd = some p → H p = none) → E cls dd H') ∧ m ds ≠ .bad
def runX (n k : Nat) (s : State → Out) : List D → XR := fun ds => if ds.length = k then (match s (inP n k ds) with
  | .ret (.dat d) _ => .ok d | .ret (.lst xs) _ => .ok (.lst xs) | .nxt _ => .ok .non | .exc x => .exc x | _ => .bad) else .bad
section
variable {P : Program} {w : World} {K : PySem.W.Frag} {mg : Str → Option Value} {base : Heap}
theorem fn_X {cls : String → Addr} {x qual : Str} {st : Stmt} {f : Addr} {fd : FuncData} {N ps : List Str} {k : Nat} (s : State → Out) (F : Fun K x qual st f fd) (S : FnScope N ps (defScope st)) {n kk : Nat} (hn : N.length = n) (hkk : ps.length = kk) (hps : kk ≤ n) {m : List D → XR} (hmm : m = runX n kk s)
    (hbody : ∀ (cdv : Value) (A : Around) (outer : List Env) (s0 : Shared) (H : Hp) (E : XK), Room k (A.deeper (envOfC qual (defScope st) s0.heap.objs.size f cdv)) →
      ∃ t, PSs (cxOf (L2.CX P w) P w K mg base N qual (defScope st) f cdv A outer s0 H E) (defBody st) t ∧ Sts ⟨K, cls⟩ E t s) : FnOk P w K mg base (L2.CX P w) (k + 1) f fd ps (spX ⟨K, cls⟩ m) := by
  subst hn hkk hmm
  refine F.okX S (fun vs H Q E h => ?_) (fun cdv A outer s0 H vs Q E hr h => ?_)
  · obtain ⟨L, ds, dm, r, _, _, hb⟩ := h
    unfold runX at hb
    split at hb
    · rename_i hl
      rw [r.len, hl]
    · exact absurd rfl hb
  · obtain ⟨L, ds, dm, r, q, qx, hb⟩ := h
    obtain ⟨t, h1, h2⟩ := hbody cdv A outer s0 H E hr
    refine ⟨t, h1, ?_⟩
    unfold runX at q qx hb
    split at hb
    · rename_i hl
      rw [if_pos hl] at q qx
      have hvl : vs.length = ps.length := by rw [r.len, hl]
      have R := inP_rel (N := N) dm r (by omega)
      rw [hvl] at R
      refine h2 _ _ _ _ _ _ _ R ?_
      cases hs : s (inP N.length ps.length ds) with
      | ret rv β =>
        cases rv with
        | dat d' =>
          rw [hs] at q
          intro v L' S' σ' H' R' rr
          exact q d' rfl v H' R'.md.same (Rep.mono (fz_anti R'.l0) _ _ rr)
        | lst xs =>
          rw [hs] at q
          intro v L' S' σ' H' R' rr
          obtain ⟨p, us, rfl, n0, hp, r2⟩ := rr
          refine q (.lst xs) rfl _ H' R'.md.same ⟨p, us, rfl, .inl (.inl (fz_new (R'.n0 n0) hp)), r2.up (fz_anti fun a m => List.mem_cons_of_mem _ (R'.l0 a m))⟩
      | nxt β =>
        rw [hs] at q
        intro L' S' σ' H' _ R'
        exact q .non rfl _ H' R'.md.same rfl
      | exc x =>
        rw [hs] at qx
        intro cls dd H' m xr fr
        exact qx x rfl cls dd H' m.same xr fr
      | brk β => rw [hs] at hb; exact absurd rfl hb
      | cnt β => rw [hs] at hb; exact absurd rfl hb
      | bad => rw [hs] at hb; exact absurd rfl hb
    · exact absurd rfl hb
end
/-! ### try: x = f(..) except C: suite -/
def sTry (i : Nat) (m : List D → XR) (sa : State → Option (List D)) (caught : List String) (suite : State → Out) : State → Out := fun α => match bnd (sa α) (fun ds => some (m ds)) with
  | some (.ok d) => .nxt (α.set i (some (.dat d)))
  | some (.exc x) => if x.name ∈ caught then suite α else .bad
  | _ => .bad
section
variable {e : En} {E : XK} {te : TE} {ta : TA} {tu : TS}
theorem st_try {i : Nat} {m : List D → XR} {sa : State → Option (List D)} {caught : List String} {suite : State → Out} {c0 : Value} {K : PySem.W.Frag} (hx : ∀ nm ∈ caught, PySem.W.exmOne K (.ref (e.cls nm)) c0 = some true) (h : Eva e ta sa) (hu : Sts e E tu suite) :
    Sts e E (fun D σ H => tAsg (tCallS (spX e m) (WE (wOnly K c0 (fun _ _ _ => tu) (fun _ _ _ _ => False) D)) ta) (gName i) D σ H) (sTry i m sa caught suite) := fun c L S σ H α D R k => by
  unfold sTry at k
  cases hs : sa α with
  | none => rw [hs] at k; exact k.elim
  | some ds =>
    rw [hs] at k
    change OutOk e E c D (fz L H) (match some (m ds) with
      | some (.ok d) => .nxt (α.set i (some (.dat d)))
      | some (.exc x) => if x.name ∈ caught then suite α else .bad
      | _ => .bad) at k
    refine h c L S σ H α ds R hs _ fun vs H1 e1 r1 => ?_
    have R1 := R.up e1
    refine ⟨L, ds, R1.dm, r1, fun d hm v H' s2 rv => ?_, fun x hm cls dd H' s2 xr fr => ?_, fun hm => ?_⟩
    · rw [hm] at k
      exact k L S _ H' (fz_same (e1.trans s2)) ((R1.up s2).setD rv)
    · rw [hm] at k
      dsimp only at k
      split at k
      · rename_i hmem
        refine ⟨true, ?_, fun _ a ha => ?_, fun z => nomatch z⟩
        · rw [xr.1]; exact hx _ hmem
        · exact hu c L S σ H' α D (R1.up s2) (k.mono (fz_same (e1.trans s2)))
      · exact k.elim
    · rw [hm] at k; exact k.elim
end
/-- a def of the top that may raise -/
structure CalX (P : Program) (w : World) (K : PySem.W.Frag) (mg : Str → Option Value) (base : Heap) (x : Str) (ps : List Str) (k : Nat) (sp : Sp) : Prop where
  ex : ∃ f fd, FnOk P w K mg base (L2.CX P w) k f fd ps sp ∧ mg x = some (.ref f) ∧ PySem.W.keepIn K (.ref f) = true ∧ Binds K fd ps []
section
variable {X : Cx} {x : Str} {ps : List Str} {k j : Nat} {sp : Sp} {p pos : Pos} {e : Expr} {es : List Expr} {t : TA} {W : WX}
theorem pe_calX (C : CalX X.prog X.w X.K X.mg X.base x ps k sp) (hr : Room j X.A) (hkj : k ≤ j) (hg : Gl X x) (tk : Takes X W) (ha : PA X (e :: es) t) (hdb : (x == ("__debug__" : Str)) = false := by decide) (he : starEach (e :: es) X.env = (false, eval e X.env) :: starEach es X.env := by rfl) (hpl : (backTo pos (starEach es X.env)).any (·.1) = false := by rfl) :
    PE X (.Call (.Name x p) (e :: es) [] pos) (tCallS sp (WE W) t) := by
  obtain ⟨f, fd, G, hm, hk, hb⟩ := C.ex
  exact pe_callS G (hr.mono hkj) hg hm hk hb (fun σ => passAt tk σ) ha hdb he hpl
end
/-- try: x = f(..) except C: suite -/
theorem ps_tryset {X : Cx} {i k j : Nat} {y f n : Str} {c : Value} {ps : List Str} {sp : Sp} {a : Expr} {as : List Expr} {ta : TA} {tu : TS} {b₀ : Stmt} {suite : List Stmt} {p1 p2 p3 p4 np pos pos' : Pos}
    (hs : X.stack = X.env :: X.outer) (hf : X.env.frame = some X.env.locals) (hN : X.N.Nodup) (hi : X.N[i]? = some y) (hy : Loc X.env.scope y) (hy2 : X.env.scope.names.lookup y = some .local) (C : CalX X.prog X.w X.K X.mg X.base f ps k sp) (hr : Room j X.A) (hkj : k ≤ j) (hg : Gl X f) (hc : Names X n c)
    (ha : ∀ (W : WX) (pn : List (Addr × Obj)) (xe : Value → Shared → Prop), PA (X.tr pn xe) (a :: as) ta)
    (hsu : ∀ (b : Addr) (oe : Obj) (cls : Value) (d : Option Addr) (pn : List (Addr × Obj)), PSs (X.suite b ((b, oe) :: pn)) (b₀ :: suite) tu)
    (hsw : swapsWith (.Call (.Name f p1) (a :: as) [] p2) (some (.Name y p3)) p4.line X.env = pure false := by rfl)
    (hdb : (f == ("__debug__" : Str)) = false := by decide) (he : starEach (a :: as) X.env = (false, eval a X.env) :: starEach as X.env := by rfl) (hpl : (backTo p2 (starEach as X.env)).any (·.1) = false := by rfl) :
    PS X (.Try [.Assign [.Name y p3] (.Call (.Name f p1) (a :: as) [] p2) p4] [.ExceptHandler (some (.Name n np)) none (b₀ :: suite) pos'] [] [] pos) (fun D σ H => tAsg (tCallS sp (WE (wOnly X.K c (fun _ _ _ => tu) (fun _ _ _ _ => False) D)) ta) (gName i) D σ H) :=
  ps_try_only (tb := fun W D σ H => tAsg (tCallS sp (WE W) ta) (gName i) D σ H) (ts := fun _ _ _ => tu) hs hf hc takes0 (fun W pn xe tk _ => pss_one (ps_set (X := X.tr pn xe) (i := i) hN hi hy (pe_calX (X := X.tr pn xe) C hr hkj hg tk (ha W pn xe) hdb he hpl) hsw (.inr hy2))) (fun b oe cls d pn _ _ => hsu b oe cls d pn)
/-! ### own exceptions as facts -/
structure ExM (P : Program) (w : World) (K : PySem.W.Frag) (mg : Str → Option Value) (base : Heap) (x : Str) (C : Addr) (f : Str) (k : Nat) : Prop where
  T : OexC K C
  ex : ∃ fI fd a, PySem.W.findIn K (.ref C) "__init__" = some (some (.ref fI)) ∧ PySem.W.typeIn K (.ref fI) = some (.type "function") ∧ FnOk P w K mg base CX0 k fI fd ["self", a] (spXI C f) ∧ Binds K fd ["self", a] []
  gC : mg x = some (.ref C)
theorem pass00 {X : Cx} {E : XK} : Passes CX0 X E := fun _ _ _ _ _ _ _ h => h.elim
theorem pmk_exm {X : Cx} {x f : Str} {C : Addr} {k j : Nat} {e : Expr} {es : List Expr} {ta : TA} {p pos : Pos} (M : ExM X.prog X.w X.K X.mg X.base x C f k) (hr : Room j X.A) (hkj : k + 1 ≤ j) (hg : Gl X x) (ha : PA X (e :: es) ta)
    (hdb : (x == ("__debug__" : Str)) = false := by decide) (he : starEach (e :: es) X.env = (false, eval e X.env) :: starEach es X.env := by rfl) (hpl : (backTo pos (starEach es X.env)).any (·.1) = false := by rfl) :
    PMk X (.Call (.Name x p) (e :: es) [] pos) (tMkO C (spXI C f) [] ta) := by
  obtain ⟨fI, fd, a, h1, h2, h3, h4⟩ := M.ex
  exact pmk_oex M.T h1 h2 h3 (hr.mono hkj) h4 .nil pass00 hg M.gC ha hdb he hpl
/-- a call that may raise, where it raises nothing -/
def okX (m : List D → XR) : List D → Option D := fun ds => match m ds with | .ok d => some d | _ => none
section
variable {X : Cx} {x : Str} {ps : List Str} {k j : Nat} {sp : Sp} {p pos : Pos} {e : Expr} {es : List Expr} {t : TA}
theorem pe_calX0 (C : CalX X.prog X.w X.K X.mg X.base x ps k sp) (hr : Room j X.A) (hkj : k ≤ j) (hg : Gl X x) (ha : PA X (e :: es) t) (hdb : (x == ("__debug__" : Str)) = false := by decide) (he : starEach (e :: es) X.env = (false, eval e X.env) :: starEach es X.env := by rfl) (hpl : (backTo pos (starEach es X.env)).any (·.1) = false := by rfl) :
    PE X (.Call (.Name x p) (e :: es) [] pos) (tCall sp [] E0 t) := by
  obtain ⟨f, fd, G, hm, hk, hb⟩ := C.ex
  exact pe_call G (hr.mono hkj) hg hm hk hb .nil passL ha hdb he hpl
end
theorem ev_callX {e : En} {ta : TA} {m : List D → XR} {sa : State → Option (List D)} (h : Eva e ta sa) : Evp e (tCall (spX e m) [] E0 ta) (xCall (okX m) sa) := fun c L S σ H α d R q Q k => by
  unfold xCall at q
  obtain ⟨ds, h1, h2⟩ := bnd_some q
  refine h c L S σ H α ds R h1 _ fun vs H1 e1 r1 => ?_
  have R1 := R.up e1
  unfold okX at h2
  refine ⟨L, ds, R1.dm, by rw [List.append_nil]; exact r1, fun d' hm v H' s2 rv => ?_, fun x hm => ?_, fun hm => ?_⟩
  · rw [hm] at h2; cases h2
    exact k v H' (e1.trans s2) rv
  · rw [hm] at h2; cases h2
  · rw [hm] at h2; cases h2
section
variable {α : State} {i : Nat} {s : State → Option D} {sa : State → Option (List D)} {m : List D → XR}
@[simp] theorem a_sRaise1 {nm : String} {f : Str} : sRaise1 nm f s α = (match s α with | some d => .exc ⟨nm, [(f, d)]⟩ | none => .bad) := (rfl)
@[simp] theorem a_sTry {cs : List String} {u : State → Out} : sTry i m sa cs u α = (match bnd (sa α) (fun ds => some (m ds)) with
  | some (.ok d) => .nxt (α.set i (some (.dat d)))
  | some (.exc x) => if x.name ∈ cs then u α else .bad
  | _ => .bad) := (rfl)
@[simp] theorem a_okX {ds : List D} : okX m ds = (match m ds with | .ok d => some d | _ => none) := (rfl)
theorem runX_ret {n k : Nat} {s : State → Out} {ds : List D} {d : D} {β : State} (hk : ds.length = k) (h : s (inP n k ds) = .ret (.dat d) β) : runX n k s ds = .ok d := by
  unfold runX; rw [if_pos hk, h]
theorem runX_exc {n k : Nat} {s : State → Out} {ds : List D} {x : Exn} (hk : ds.length = k) (h : s (inP n k ds) = .exc x) : runX n k s ds = .exc x := by
  unfold runX; rw [if_pos hk, h]
end
section
variable {e : En} {E : XK} {te tk : TE}
theorem ev_tupT {sq : State → Option (List D)} (h : EvqT e te sq) : Evp e (tCB (fun xs H Q => ∃ p ys, xs = [.ref p] ∧ ((SqL e.K H p ys ∧ ∀ l, H l = none → Q (.ref l) (upd H l (.tup ys))) ∨ (SqT e.K H p ys ∧ Q (.ref p) H))) (tCons te tNil)) (xTupL sq) := fun c L S σ H α d R q Q k => by
  unfold xTupL at q
  cases hs : sq α with
  | none => rw [hs] at q; cases q
  | some xs =>
    rw [hs] at q; cases q
    refine h c L S σ H α xs R hs _ fun a vs H' e1 r1 r2 => ⟨a, vs, rfl, .inr ⟨same_t fz_le r1, ?_⟩⟩
    exact k _ _ e1 ⟨a, vs, rfl, r1, r2⟩
/-! ### x.insert(k, d) -/
def rIns : V → List V → Hp → VK → Prop := fun x vs H Q => ∃ (l : Addr) (xs : List V) (i : Int) (y : V), x = .ref l ∧ vs = [.int i, y] ∧ H l = some (.lst xs) ∧ xs.length < sizeLine ∧ 0 ≤ i ∧ i < 2 ^ 63 ∧ Q .non (upd H l (.lst (xs.take i.toNat ++ [y] ++ xs.drop i.toNat)))
theorem mtins {X : Cx} : MtR X "list.insert" rIns := mt_insert
def sIns (i : Nat) (sk s : State → Option D) : State → Out := fun α => match sk α, s α, ctOf α[i]? with
  | some (.int z), some d, some (.lst xs) => if rngOk z = true ∧ 0 ≤ z ∧ xs.length < 100000 then .nxt (putC α i (.lst (xs.take z.toNat ++ [d] ++ xs.drop z.toNat))) else .bad
  | _, _, _ => .bad
theorem st_ins (i : Nat) {sk s : State → Option D} (hk : Evp e tk sk) (hs : Evp e te s) : Sts e E (tDrop (tBM e.K "list" rIns (tVar i) (tCons tk (tCons te tNil)))) (sIns i sk s) := fun c L S σ H α D R k => by
  unfold sIns at k
  split at k
  · rename_i z d xs hz hd hc
    split at k
    · rename_i hg
      obtain ⟨hrng, h0, hlen⟩ := hg
      obtain ⟨p, o, h1, m1, ho, vs, rfl, r1⟩ := R.at hc
      refine ⟨.ref p, h1, .inl ⟨rfl, vs, SqL.of ho⟩, ?_⟩
      refine hk c L S σ H α _ R hz _ fun v2 H2 e2 r2 => ?_
      cases r2
      refine hs c L S σ H2 α _ (R.up e2) hd _ fun v3 H3 e3 r3 => ?_
      have hr := rngOk_iff.mp hrng
      have R3 := (R.up e2).up e3
      have r13 := r1.up (fz_same (e2.trans e3))
      refine ⟨p, vs, z, v3, rfl, rfl, e3.k _ _ (e2.k _ _ ho (R.nh p (R.sub p m1))) (R.nh p (R.sub p m1)), by rw [r1.len]; exact sz_lt hlen, h0, Int.lt_of_lt_of_le hr.2 (by decide), ?_⟩
      obtain ⟨R4, m4⟩ := R3.mut hc h1 (o := .lst (vs.take z.toNat ++ [v3] ++ vs.drop z.toNat)) (ct' := .lst (xs.take z.toNat ++ [d] ++ xs.drop z.toNat)) ⟨_, rfl, ((r13.take _).append (Reps.cons r3 Reps.nil)).append (r13.drop _)⟩
      exact k L S σ _ ((fz_same (e2.trans e3)).trans (fz_mod m4 R3.sub)) R4
    · exact k.elim
  · exact k.elim
@[simp] theorem a_sIns {i : Nat} {sk s : State → Option D} {α : State} : sIns i sk s α = (match sk α, s α, ctOf α[i]? with
  | some (.int z), some d, some (.lst xs) => if rngOk z = true ∧ 0 ≤ z ∧ xs.length < 100000 then .nxt (putC α i (.lst (xs.take z.toNat ++ [d] ++ xs.drop z.toNat))) else .bad
  | _, _, _ => .bad) := (rfl)
end
end Ab
end
section
set_option maxRecDepth 100000
set_option maxHeartbeats 1000000
namespace Ab
open PySem L2 PyProof.Rows PySem.Spec
variable [Hd]
section
variable {X : Cx} {pins : List (Addr × Obj)} {σ : L2.St} {H : Hp} {s : Shared}
/-- an exception's dict is tracked no more -/
theorem inv_drop {dd : Addr} {fs : List (Str × V)} (I : Inv X pins σ H s) (hd : H dd = some (.xd fs)) : Inv X pins σ (del H dd) s := by
  have hn : ∀ b, H b = none → del H dd b = none := fun b h => by
    by_cases e : b = dd
    · rw [e, del_same]
    · rw [del_ne e]; exact h
  have hs : ∀ b o, (∀ fs, o ≠ HO.xd fs) → H b = some o → del H dd b = some o := fun b o no h => by
    by_cases e : b = dd
    · rw [e, hd] at h; exact absurd (Option.some.inj h).symm (no fs)
    · rw [del_ne e]; exact h
  refine ⟨I.ok, I.os, I.bare, ⟨I.base.keep, I.base.slot, fun b o e n hx => hn b (I.base.free b o e n hx), I.base.there, fun b xs z => hs b _ (fun _ q => nomatch q) (I.base.tups b xs z), fun b o u z => hs b _ (fun _ q => nomatch q) (I.base.frzs b o u z), fun b ps z => ?_⟩, I.loc, I.cell, hn _ I.free, fun x c e => hn _ (I.freeC x c e), fun p hp => ?_, fun b o z => ?_, I.len⟩
  · obtain ⟨more, q⟩ := I.base.tbls b ps z
    exact ⟨more, hs b _ (fun _ q => nomatch q) q⟩
  · obtain ⟨h1, h2, h3⟩ := I.pin p hp
    exact ⟨h1, hn _ h2, h3⟩
  · by_cases e : b = dd
    · rw [e, del_same] at z; cases z
    · rw [del_ne e] at z
      exact (I.hok b o z).stay (fun _ _ _ q => q) (fun c q => hs c _ (fun _ q => nomatch q) q) (fun c xs q => hs c _ (fun _ q => nomatch q) q)
theorem xd_nofs {dd : Addr} {fs : List (Str × V)} (I : Inv X pins σ H s) (hd : H dd = some (.xd fs)) : dd ∉ X.fs ∧ dd ≠ X.env.locals := by
  refine ⟨fun m => ?_, fun e => ?_⟩
  · obtain ⟨_, o, ho, _⟩ := I.ok.funs.mem m
    have := I.base.free dd o ho (I.ok.frf dd m) (fun z => I.ok.exfs dd z m)
    rw [hd] at this; cases this
  · rw [e, I.free] at hd; cases hd
/-- what the pinned dict says -/
def OdOk (od : Obj) (fs : List (Str × V)) : Prop := (∀ f, ∃ gv, PySem.W.lookIn f od = some gv ∧ RelO (fs.lookup f) gv) ∧ ∀ v, od.data ≠ .cell v
/-- in a suite: the exception's dict is pinned instead of tracked -/
theorem pss_pin {a : Addr} {oe : Obj} {d : Option Addr} {pn : List (Addr × Obj)} {body : List Stmt} {ts : List (Str × V) → TS}
    (h : ∀ (dd : Addr) (od : Obj) (fs : List (Str × V)), d = some dd → OdOk od fs → PSs (X.suite a ((a, oe) :: (dd, od) :: pn)) body (ts fs)) :
    PSs (X.suite a ((a, oe) :: pn)) body (fun D σ H => ∃ dd fs, d = some dd ∧ H dd = some (.xd fs) ∧ ts fs D σ (del H dd)) := by
  refine ⟨fun pins s σ H D I ⟨dd, fs, e, hd, q⟩ => ?_⟩
  have hx : ObjOk X.prog X.w H s.heap dd (.xd fs) := I.hok dd _ hd
  obtain ⟨mA, hns, hr⟩ := hx
  obtain ⟨od, ho, hl⟩ := lookIn_ns hns
  obtain ⟨n1, n2⟩ := xd_nofs I hd
  have nc : ∀ v, od.data ≠ .cell v := fun v z => by
    obtain ⟨o, es, ep, h1, h2, _⟩ := hns
    rw [ho] at h1; cases h1
    rw [z] at h2; cases h2
  have J := inv_drop I hd
  have J2 : Inv (X.suite a ((a, oe) :: (dd, od) :: pn)) pins σ (del H dd) s := by
    refine ⟨J.ok.toTry ((a, oe) :: (dd, od) :: pn) (fun _ _ => False), J.os, J.bare, J.base, J.loc, J.cell, J.free, J.freeC, fun p hp => ?_, J.hok, J.len⟩
    have hp' : p ∈ (a, oe) :: (dd, od) :: (pn ++ pins) := hp
    rcases List.mem_cons.mp hp' with e | hp'
    · exact J.pin p (by rw [e]; exact List.mem_cons_self)
    rcases List.mem_cons.mp hp' with e | hp'
    · rw [e]; exact ⟨ho, del_same, n2, n1, nc⟩
    · exact J.pin p (List.mem_cons_of_mem _ hp')
  have back : ∀ {σ' : L2.St} {H' : Hp} {s' : Shared}, Inv (X.suite a ((a, oe) :: (dd, od) :: pn)) pins σ' H' s' → Inv (X.suite a ((a, oe) :: pn)) pins σ' H' s' := fun {σ' H' s'} K => by
    refine ⟨I.ok, K.os, K.bare, K.base, K.loc, K.cell, K.free, K.freeC, fun p hp => K.pin p ?_, K.hok, K.len⟩
    have hp' : p ∈ (a, oe) :: (pn ++ pins) := hp
    show p ∈ (a, oe) :: (dd, od) :: (pn ++ pins)
    rcases List.mem_cons.mp hp' with e | hp'
    · rw [e]; exact List.mem_cons_self
    · exact List.mem_cons_of_mem _ (List.mem_cons_of_mem _ hp')
  refine wpAny_mono ((h dd od fs e ⟨fun f => ⟨_, hl f, hr f⟩, nc⟩).run pins s σ _ D J2 q) (fun f s' hs => ?_) (fun _ _ z => z)
  cases f with
  | next => obtain ⟨σ', H', K, z⟩ := hs; exact ⟨σ', H', back K, z⟩
  | brk => obtain ⟨σ', H', K, z⟩ := hs; exact ⟨σ', H', back K, z⟩
  | cont => obtain ⟨σ', H', K, z⟩ := hs; exact ⟨σ', H', back K, z⟩
  | ret u => obtain ⟨v, σ', H', K, z⟩ := hs; exact ⟨v, σ', H', back K, z⟩
end
/-! ### rules within a suite -/
section
variable {X : Cx} {a dd : Addr} {oe od : Obj} {cls : Value} {fs : List (Str × V)} {pn : List (Addr × Obj)}
theorem inst_at {pins : List (Addr × Obj)} {σ : L2.St} {H : Hp} {s : Shared} {D : Addr} (hz : Zc (.ref D) (some dd) oe) (hf : ∃ vs, oe.data = .fields vs) (I : Inv (X.suite a ((a, oe) :: (dd, od) :: pn)) pins σ H s) : PySem.W.InstAt s.heap a oe D (some od) := by
  obtain ⟨ha, _⟩ := I.pin (a, oe) (List.mem_append_left _ List.mem_cons_self)
  obtain ⟨ho, _⟩ := I.pin (dd, od) (List.mem_append_left _ (List.mem_cons_of_mem _ List.mem_cons_self))
  obtain ⟨vs, hd⟩ := hf
  exact ⟨ha, hz.1, by unfold PySem.W.notCls; rw [hd] <;> rfl, by rw [hz.2]; exact ho⟩
/-- e.f, e the caught exception -/
def tXfP (K : PySem.W.Frag) (a : Addr) (cls : Value) (fs : List (Str × V)) (f : Str) (te : TE) : TE := fun σ H Q => te σ H fun x H1 => x = .ref a ∧ ∃ (C : Addr) (v : V), cls = .ref C ∧ XfC K C ∧ PySem.W.findIn K (.ref C) f = some none ∧ fs.lookup f = some v ∧ Q v H1
theorem pe_xfP {e : Expr} {te : TE} {pos : Pos} {n : Str} (hz : Zc cls (some dd) oe) (hf : ∃ vs, oe.data = .fields vs) (ho : OdOk od fs) (he : PE (X.suite a ((a, oe) :: (dd, od) :: pn)) e te) (hb : attributeBase e n X.env (eval e X.env) = eval e X.env := by rfl) :
    PE (X.suite a ((a, oe) :: (dd, od) :: pn)) (.Attribute e n pos) (tXfP X.K a cls fs n te) := by
  refine ⟨fun pins s σ H Q I h => ?_⟩
  refine attr_of hb (thn (he.run pins s σ H _ I h) fun u s1 ⟨x, H1, I1, rx, ex, C, v, ec, T, hno, l, q⟩ => ?_)
  subst ex ec
  obtain rfl : u = Value.ref a := rx
  obtain ⟨gv, hl, hr⟩ := ho.1 n
  obtain ⟨u, hu, ru⟩ := RelO.some_of (v := v) (o := gv) (by rw [← l]; exact hr)
  exact HandSPX.exc_get I1.kIn (inst_at hz hf I1) T.ga T.gg T.exC (PySem.W.findObj_own T.hdC hno rfl (by rw [hl, hu])) (handed_of ru) ⟨v, H1, I1.tok _, ru, q⟩
/-- isinstance(e, c) -/
def rIsEP (K : PySem.W.Frag) (a : Addr) (cls : Value) : List V → Hp → VK → Prop := fun xs H Q => ∃ (D : Addr) (c : V) (cv : Value) (b : Bool), cls = .ref D ∧ ExcC K D ∧ xs = [.ref a, c] ∧ (∀ u, RelV c u → u = cv) ∧ PySem.W.kitOne K (.ref D) cv = some b ∧ Q (.bl b) H
theorem call_isEP (hz : Zc cls (some dd) oe) (hf : ∃ vs, oe.data = .fields vs) : CallR (X.suite a ((a, oe) :: (dd, od) :: pn)) (.builtin "isinstance") (rIsEP X.K a cls) := by
  intro pins s σ H xs us Q I r h
  obtain ⟨D, c, cv, b, rfl, C, rfl, hcv, e, q⟩ := h
  cases r with
  | cons rx rr =>
    cases rr with
    | cons rt rr =>
      cases rr
      cases rx
      have ec := hcv _ rt
      subst ec
      obtain ⟨cd, hc, _⟩ := PySem.W.any_some C.hd
      exact PySem.W.kia_one (PySem.W.kitx_exc (by rw [hc]; rfl) C.hg C.hk C.hs C.ha C.hn C.ht C.hm) I.kIn (inst_at hz hf I) e (fun z => nomatch z) fun tk => ⟨.bl b, H, I.kept (t' := tk) fun _ _ z => z, rfl, q⟩
/-- isinstance(e, (c, ..)) -/
def rIsETP (K : PySem.W.Frag) (a : Addr) (cls : Value) : List V → Hp → VK → Prop := fun xs H Q => ∃ (D tp : Addr) (cs : List V) (us : List Value) (b : Bool), cls = .ref D ∧ ExcC K D ∧ xs = [.ref a, .ref tp] ∧ H tp = some (.tup cs) ∧ Paired ClsV cs us ∧ PySem.W.kitAny K (.ref D) us = some b ∧ Q (.bl b) H
theorem call_isETP (hz : Zc cls (some dd) oe) (hf : ∃ vs, oe.data = .fields vs) : CallR (X.suite a ((a, oe) :: (dd, od) :: pn)) (.builtin "isinstance") (rIsETP X.K a cls) := by
  intro pins s σ H xs us Q I r h
  obtain ⟨D, tp, cs, ws, b, rfl, C, rfl, hT, k, e, q⟩ := h
  cases r with
  | cons rx rr =>
    cases rr with
    | cons rt rr =>
      cases rr
      cases rx
      cases rt
      obtain ⟨_, its, rv, o, h1, h2, n, h3⟩ := (show ObjOk X.prog X.w H s.heap tp (.tup cs) from I.hok tp _ hT)
      have e3 := ClsV.all k rv
      subst e3
      obtain ⟨oc, od', dt, sl⟩ := o
      simp only at h2 h3
      subst h2 h3
      obtain ⟨cd, hc, _⟩ := PySem.W.any_some C.hd
      exact PySem.W.kia_tup (PySem.W.kitx_exc (by rw [hc]; rfl) C.hg C.hk C.hs C.ha C.hn C.ht C.hm) I.kIn (inst_at hz hf I) h1 e (fun z => nomatch z) fun tk => ⟨.bl b, H, I.kept (t' := tk) fun _ _ z => z, rfl, q⟩
end
/-! ### try: x = f(..) except C as n: suite -/
def eraseO (j : Nat) : Out → Out
  | .nxt β => .nxt (β.set j none) | .ret r β => .ret r (β.set j none) | .brk β => .brk (β.set j none) | .cnt β => .cnt (β.set j none) | .exc x => .exc x | .bad => .bad
open Classical in
/-- what a suite does, whatever the exception's address -/
noncomputable def exAs (j : Nat) (s : Addr → State → Out) : State → Out := fun α => if h : ∃ o, ∀ a : Addr, eraseO j (s a (α.set j (some (.adr a)))) = o then Classical.choose h else .bad
theorem exAs_eq {j : Nat} {s : Addr → State → Out} {α : State} {o : Out} (h : ∀ a : Addr, eraseO j (s a (α.set j (some (.adr a)))) = o) : exAs j s α = o := by
  unfold exAs
  have hx : ∃ o, ∀ a : Addr, eraseO j (s a (α.set j (some (.adr a)))) = o := ⟨o, h⟩
  rw [dif_pos hx, ← Classical.choose_spec hx 0, h 0]
theorem exAs_spec {j : Nat} {s : Addr → State → Out} {α : State} (hb : exAs j s α ≠ .bad) (a : Addr) : eraseO j (s a (α.set j (some (.adr a)))) = exAs j s α := by
  unfold exAs at hb ⊢
  split
  · rename_i h
    exact Classical.choose_spec h a
  · rename_i h
    rw [dif_neg h] at hb
    exact absurd rfl hb
section
variable {e : En} {E : XK} {te : TE} {ta : TA}
theorem Rel.setA {c : Cn} {L S : List Addr} {σ : L2.St} {H : Hp} {α : State} (r : Rel e c L S σ H α) (j : Nat) (a : Addr) : Rel e c L S (σ.set j (some (.ref a))) H (α.set j (some (.adr a))) where
  slot := fun i x q => by
    rw [getset] at q ⊢
    have hl := r.len
    by_cases h1 : j = i
    · subst h1
      rw [if_pos rfl] at q ⊢
      by_cases h2 : j < α.length
      · rw [if_pos h2] at q
        cases q
        exact ⟨.ref a, by rw [if_pos (by omega)], rfl⟩
      · rw [if_neg h2] at q; cases q
    · rw [if_neg h1] at q ⊢
      exact r.slot i x q
  sep := fun i k p hi hk si sk => by
    rw [getset] at hi hk si sk
    by_cases e1 : j = i
    · rw [if_pos e1] at hi
      split at hi <;> simp [isOwn] at hi
    · by_cases e2 : j = k
      · rw [if_pos e2] at hk
        split at hk <;> simp [isOwn] at hk
      · rw [if_neg e1] at hi si; rw [if_neg e2] at hk sk
        exact r.sep i k p hi hk si sk
  inv := r.inv
  h1 := r.h1
  nh := r.nh
  dom := r.dom
  sub := r.sub
  l0 := r.l0
  l1 := r.l1
  s1 := r.s1
  md := r.md
  s0 := r.s0
  d0 := r.d0
  len := by rw [List.length_set, List.length_set]; exact r.len
abbrev endsN (j : Nat) (D : Ends) : Ends := { nx := fun σ' H' => D.nx (σ'.set j none) H', rt := D.rt, bk := fun σ' H' => D.bk (σ'.set j none) H', ct := fun σ' H' => D.ct (σ'.set j none) H' }
theorem out_erase {c : Cn} {D : Ends} {F : Hp} {j : Nat} : ∀ {o : Out}, OutOk e E c D F (eraseO j o) → OutOk e E c (endsN j D) F o
  | .nxt β, k => fun L S σ H s R => k L S _ H s (R.setN j)
  | .brk β, k => fun L S σ H s R => k L S _ H s (R.setN j)
  | .cnt β, k => fun L S σ H s R => k L S _ H s (R.setN j)
  | .ret r β, k => fun v L S σ H R rr => k v L S _ H (R.setN j) rr
  | .exc x, k => k
  | .bad, k => k
/-- the reading of a suite whose exception's dict is pinned -/
abbrev pinR (ts : Addr → Value → List (Str × V) → TS) : Addr → Value → Option Addr → TS := fun a cls d D σ H => ∃ dd fs, d = some dd ∧ H dd = some (.xd fs) ∧ ts a cls fs D σ (del H dd)
theorem Sm.del {H1 H' : Hp} {p : Addr} {u : HO} (s : Sm H1 H') (n : H1 p = none) (h : H' p = some u) (pl : Pl u) : Sm H1 (del H' p) :=
  ⟨fun b o q nh => by rw [del_ne (ne_of_none q n)]; exact s.k _ _ q nh, fun i => Hd.del (s.i i) (fun hh => Hd.al i hh n) h pl⟩
theorem tryAs_call {j : Nat} {m : List D → XR} {sa : State → Option (List D)} {suite : Exn → Addr → State → Out} {caught : List String} {c0 : Value} {K : PySem.W.Frag} {ts : Addr → Value → List (Str × V) → TS} {DE : Ends} {Q : VK}
    (hx : ∀ nm ∈ caught, PySem.W.exmOne K (.ref (e.cls nm)) c0 = some true) (h : Eva e ta sa)
    (hu : ∀ (x : Exn) (a : Addr) (gs : List (Str × V)) (F : Hp), x.name ∈ caught → RepF e F x.fs gs → Sts e E (ts a (.ref (e.cls x.name)) gs) (suite x a))
    {c : Cn} {L S : List Addr} {σ : L2.St} {H : Hp} {α : State} {ds : List D} (R : Rel e c L S σ H α) (hs : sa α = some ds)
    (hok : ∀ d, m ds = .ok d → ∀ v H', Sm H H' → Rel e c L S σ H' α → Rep e (fz L H') d v → Q v H')
    (hex : ∀ x, m ds = .exc x → x.name ∈ caught ∧ x.fs ≠ [] ∧ OutOk e E c DE (fz L H) (exAs j (suite x) α)) (hb : m ds ≠ .bad) :
    tCallS (spX e m) (WE (wAs K c0 j (pinR ts) (fun _ _ _ _ => False) DE)) ta σ H Q := by
  refine h c L S σ H α ds R hs _ fun vs H1 e1 r1 => ?_
  have R1 := R.up e1
  refine ⟨L, ds, R1.dm, r1, fun d hm v H' s2 rv => hok d hm v H' (e1.trans s2) (R1.up s2) rv, fun x hm cls dd H' s2 xr fr => ?_, hb⟩
  obtain ⟨h1, h2, h3⟩ := hex x hm
  obtain ⟨p, gs, rfl, hp, rf⟩ := xr.2.resolve_left h2
  have hp1 : H1 p = none := fr p rfl
  have s3 : Sm H1 (del H' p) := s2.del hp1 hp trivial
  have hnb : exAs j (suite x) α ≠ .bad := fun z => by rw [z] at h3; exact h3
  refine ⟨true, by rw [xr.1]; exact hx _ h1, fun _ a ha => ⟨p, gs, rfl, hp, ?_⟩, fun z => nomatch z⟩
  rw [xr.1]
  refine hu x a gs _ h1 rf c L S _ _ _ _ ((R1.up s3).setA j a) ?_
  have k : OutOk e E c DE (fz L H) (eraseO j (suite x a (α.set j (some (.adr a))))) := by rw [exAs_spec hnb a]; exact h3
  exact (out_erase k).mono (fz_same (e1.trans s3))
/-- x = f(..) -/
noncomputable def sTryAs (i j : Nat) (m : List D → XR) (w : D → Option D) (sa : State → Option (List D)) (caught : List String) (suite : Exn → Addr → State → Out) : State → Out := fun α => match bnd (sa α) (fun ds => some (m ds)) with
  | some (.ok d) => (match w d with | some d' => .nxt (α.set i (some (.dat d'))) | none => .bad)
  | some (.exc x) => if x.name ∈ caught ∧ x.fs ≠ [] then exAs j (suite x) α else .bad
  | _ => .bad
def wPair (d : D) : Option D := some (.tup [d, .non])
/-- x = (f(..), None) -/
theorem st_tryAsPair {i j : Nat} {m : List D → XR} {sa : State → Option (List D)} {suite : Exn → Addr → State → Out} {caught : List String} {c0 : Value} {K : PySem.W.Frag} {ts : Addr → Value → List (Str × V) → TS}
    (hx : ∀ nm ∈ caught, PySem.W.exmOne K (.ref (e.cls nm)) c0 = some true) (h : Eva e ta sa)
    (hu : ∀ (x : Exn) (a : Addr) (gs : List (Str × V)) (F : Hp), x.name ∈ caught → RepF e F x.fs gs → Sts e E (ts a (.ref (e.cls x.name)) gs) (suite x a)) :
    Sts e E (fun D σ H => tAsg (tTup (tCons (tCallS (spX e m) (WE (wAs K c0 j (pinR ts) (fun _ _ _ _ => False) D)) ta) (tCons (tC .non) tNil))) (gName i) D σ H) (sTryAs i j m wPair sa caught suite) := fun c L S σ H α D R k => by
  unfold sTryAs at k
  cases hs : sa α with
  | none => rw [hs] at k; exact k.elim
  | some ds =>
    rw [hs] at k
    change OutOk e E c D (fz L H) (match some (m ds) with
      | some (.ok d) => (match wPair d with | some d' => .nxt (α.set i (some (.dat d'))) | none => .bad)
      | some (.exc x) => if x.name ∈ caught ∧ x.fs ≠ [] then exAs j (suite x) α else .bad
      | _ => .bad) at k
    refine tryAs_call hx h hu R hs (fun d hm v H' s2 R2 rv => ?_) (fun x hm => ?_) (fun hm => ?_)
    · rw [hm] at k
      refine ⟨by show 2 ≤ _; rw [sizeLine_eq]; decide, fun p hp => ?_⟩
      have s3 : Sm H' (upd H' p (.tup [v, .non])) := .of fun b o z => by rw [upd_ne (ne_of_none z hp)]; exact z
      refine k L S _ _ (fz_same (s2.trans s3)) ((R2.up s3).setD (d := .tup [d, .non]) ⟨p, [v, .non], rfl, .inl (.inl (fz_new (fresh_nL R2.dm hp) upd_same)), v, [.non], rfl, Rep.up (d := d) rv (fz_same s3), .non, [], rfl, rfl, rfl⟩)
    · rw [hm] at k
      dsimp only at k
      split at k
      · rename_i hc
        exact ⟨hc.1, hc.2, k⟩
      · exact k.elim
    · rw [hm] at k; exact k.elim
end
/-! ### in a suite -/
def xIsE (a : Addr) (j : Nat) (tbl : List (String × Bool)) (nm : String) : State → Option D := fun α => match α[j]? with
  | some (some (.adr b)) => if b = a then (tbl.lookup nm).map .bl else none
  | _ => none
def xFldE (a : Addr) (j : Nat) (f : Str) (fs : List (Str × D)) : State → Option D := fun α => match α[j]? with
  | some (some (.adr b)) => if b = a then (match fs.lookup f with | some d => if flat d = true then some d else none | none => none) else none
  | _ => none
section
variable {e : En} {E : XK} {te tc : TE}
theorem adr_at {c : Cn} {L S : List Addr} {σ : L2.St} {H : Hp} {α : State} {j : Nat} {a : Addr} (R : Rel e c L S σ H α) (h : α[j]? = some (some (.adr a))) : σ[j]? = some (some (.ref a)) := by
  obtain ⟨v, h1, h2⟩ := R.slot j _ h
  cases (show v = .ref a from h2)
  exact h1
theorem ev_isE {nm : String} {a : Addr} {j : Nat} {tbl : List (String × Bool)} {dc : D} {cv : Value} (hcv : ∀ F v, Rep e F dc v → ∀ u, RelV v u → u = cv) (h : ∀ p ∈ tbl, ExcC e.K (e.cls p.1) ∧ PySem.W.kitOne e.K (.ref (e.cls p.1)) cv = some p.2) (hc : Evp e tc (fun _ => some dc)) :
    Evp e (tCB (rIsEP e.K a (.ref (e.cls nm))) (tCons (tVar j) (tCons tc tNil))) (xIsE a j tbl nm) := fun c L S σ H α d R q Q k => by
  unfold xIsE at q
  split at q
  · rename_i b hb
    split at q
    · rename_i hba
      subst hba
      cases hl : tbl.lookup nm with
      | none => rw [hl] at q; cases q
      | some r =>
        rw [hl] at q; cases q
        obtain ⟨C, hk⟩ := h _ (mem_of_lookup hl)
        refine ⟨.ref b, adr_at R hb, ?_⟩
        refine hc c L S σ H α dc R rfl _ fun v H1 e1 r1 => ?_
        exact ⟨_, v, cv, r, rfl, C, rfl, fun u ru => hcv _ _ r1 u ru, hk, k _ _ e1 rfl⟩
    · cases q
  · cases q
theorem ev_isET {nm : String} {a : Addr} {j : Nat} {tbl : List (String × Bool)} {cs : List String} {tcs : TA} (hl0 : cs.length ≤ 1000) (h : ∀ p ∈ tbl, ExcC e.K (e.cls p.1) ∧ PySem.W.kitAny e.K (.ref (e.cls p.1)) (cs.map fun c => .ref (e.cls c)) = some p.2) (ht : Eva e tcs (fun _ => some (cs.map .cls))) :
    Evp e (tCB (rIsETP e.K a (.ref (e.cls nm))) (tCons (tVar j) (tCons (tTup tcs) tNil))) (xIsE a j tbl nm) := fun c L S σ H α d R q Q k => by
  unfold xIsE at q
  split at q
  · rename_i b hb
    split at q
    · rename_i hba
      subst hba
      cases hl : tbl.lookup nm with
      | none => rw [hl] at q; cases q
      | some r =>
        rw [hl] at q; cases q
        obtain ⟨C, hk⟩ := h _ (mem_of_lookup hl)
        refine ⟨.ref b, adr_at R hb, ?_⟩
        refine ht c L S σ H α _ R rfl _ fun vs H2 e2 r2 => ⟨by rw [r2.len, List.length_map]; exact Nat.le_trans hl0 (by decide), fun p hp => ?_⟩
        have hpr : ∀ (cs : List String) (vs : List V), Reps e (fz L H2) (cs.map .cls) vs → Paired ClsV vs (cs.map fun c => .ref (e.cls c)) := by
          intro cs
          induction cs with
          | nil => intro vs r; cases r; exact .nil
          | cons c cs ih =>
            intro vs r
            obtain ⟨v, w, rfl, r3, r4⟩ := r
            cases r3
            exact .cons (.own _) (ih w r4)
        exact ⟨_, p, vs, _, r, rfl, C, rfl, upd_same, hpr cs vs r2, hk, k _ _ (e2.trans (same_upd hp)) rfl⟩
    · cases q
  · cases q
theorem ev_xfE {nm : String} {a : Addr} {j : Nat} {f : Str} {fs : List (Str × D)} {gs : List (Str × V)} {F : Hp} (rf : RepF e F fs gs) (T : XfC e.K (e.cls nm)) (hno : PySem.W.findIn e.K (.ref (e.cls nm)) f = some none) :
    Evp e (tXfP e.K a (.ref (e.cls nm)) gs f (tVar j)) (xFldE a j f fs) := fun c L S σ H α d R q Q k => by
  unfold xFldE at q
  split at q
  · rename_i b hb
    split at q
    · rename_i hba
      subst hba
      cases hl : fs.lookup f with
      | none => rw [hl] at q; cases q
      | some d0 =>
        rw [hl] at q
        dsimp only at q
        split at q
        · rename_i hfl
          cases q
          obtain ⟨v, h1, h2⟩ := repF_lookup rf hl
          refine ⟨.ref b, adr_at R hb, rfl, _, v, rfl, T, hno, h1, k _ _ (Sm.refl _) ?_⟩
          rw [rep_flat hfl h2]; exact rep_of_flat hfl
        · cases q
    · cases q
  · cases q
end
/-- try: x = e except C as n: suite -/
theorem ps_tryas {X : Cx} {i j : Nat} {y n nm : Str} {c : Value} {ve : Expr} {te : WX → TE} {ts : Addr → Value → List (Str × V) → TS} {b₀ : Stmt} {suite : List Stmt} {p3 p4 np pos pos' : Pos}
    (hs : X.stack = X.env :: X.outer) (hf : X.env.frame = some X.env.locals) (hN : X.N.Nodup) (hi : X.N[i]? = some y) (hy : Loc X.env.scope y) (hy2 : X.env.scope.names.lookup y = some .local) (hj : X.N[j]? = some nm) (hln : X.env.kindOf nm = some .local) (hc : Names X n c)
    (hval : ∀ (W : WX) (pn : List (Addr × Obj)) (xe : Value → Shared → Prop), Takes (X.tr pn xe) W → PE (X.tr pn xe) ve (te W))
    (hsu : ∀ (b dd : Addr) (oe od : Obj) (cls : Value) (fs : List (Str × V)) (pn : List (Addr × Obj)), Zc cls (some dd) oe → (∃ vs, oe.data = .fields vs) → OdOk od fs → PSs (X.suite b ((b, oe) :: (dd, od) :: pn)) (b₀ :: suite) (ts b cls fs))
    (hsw : swapsWith ve (some (.Name y p3)) p4.line X.env = pure false := by rfl) :
    PS X (.Try [.Assign [.Name y p3] ve p4] [.ExceptHandler (some (.Name n np)) (some nm) (b₀ :: suite) pos'] [] [] pos) (fun D σ H => tAsg (te (wAs X.K c j (pinR ts) (fun _ _ _ _ => False) D)) (gName i) D σ H) :=
  ps_try_as (tb := fun W D σ H => tAsg (te W) (gName i) D σ H) (ts := pinR ts) hs hf hN hj hln hc takes0 (fun W pn xe tk _ => pss_one (ps_set (X := X.tr pn xe) (i := i) hN hi hy (hval W pn xe tk) hsw (.inr hy2))) (fun b oe cls d pn hz hd => pss_pin fun dd od fs e ho => hsu b dd oe od cls fs pn (e ▸ hz) hd ho)
section
variable {α : State} {i j : Nat} {a : Addr} {sa : State → Option (List D)} {m : List D → XR}
@[simp] theorem a_xIsE {tbl : List (String × Bool)} {nm : String} : xIsE a j tbl nm α = (match α[j]? with
  | some (some (.adr b)) => if b = a then (tbl.lookup nm).map .bl else none
  | _ => none) := (rfl)
@[simp] theorem a_xFldE {f : Str} {fs : List (Str × D)} : xFldE a j f fs α = (match α[j]? with
  | some (some (.adr b)) => if b = a then (match fs.lookup f with | some d => if flat d = true then some d else none | none => none) else none
  | _ => none) := (rfl)
theorem a_sTryAs {w : D → Option D} {cs : List String} {u : Exn → Addr → State → Out} : sTryAs i j m w sa cs u α = (match bnd (sa α) (fun ds => some (m ds)) with
  | some (.ok d) => (match w d with | some d' => .nxt (α.set i (some (.dat d'))) | none => .bad)
  | some (.exc x) => if x.name ∈ cs ∧ x.fs ≠ [] then exAs j (u x) α else .bad
  | _ => .bad) := by unfold sTryAs; rfl
end
end Ab
end
section
set_option maxRecDepth 100000
set_option maxHeartbeats 1000000
namespace Ab
open PySem L2 PyProof.Rows PySem.Spec
variable [Hd]
def keyD : D → Option Key
  | .str z => some (.inr z) | .int n => some (.inl n) | _ => none
def keyOf : Key → D
  | .inl n => .int n | .inr z => .str z
theorem rep_key {e : En} {F : Hp} {d : D} {k : Key} {v : V} (h : keyD d = some k) (r : Rep e F d v) : v = kV k := by
  cases d <;> first | (cases h; done) | skip
  · cases h; exact r
  · cases h; exact r
theorem rep_keyOf {e : En} {F : Hp} (k : Key) : Rep e F (keyOf k) (kV k) := by cases k <;> exact rfl
def putKD (kvs : List (Key × D)) (k : Key) (d : D) : List (Key × D) := if (kvs.any fun kv => decide (kv.1 = k)) = true then kvs.map (fun kv => if kv.1 = k then (kv.1, d) else kv) else kvs ++ [(k, d)]
def valD (k : Key) : List (Key × D) → Option D
  | [] => none
  | (k', d) :: r => if k' = k then some d else valD k r
section
variable {e : En} {F : Hp}
theorem repK_nil : RepK e F [] [] := ⟨rfl, rfl⟩
theorem repK_inv {k : Key} {d : D} {kvs : List (Key × D)} : ∀ {gs : List (Key × V)}, RepK e F ((k, d) :: kvs) gs → ∃ v r, gs = (k, v) :: r ∧ Rep e F d v ∧ RepK e F kvs r
  | [], ⟨h, _⟩ => by cases h
  | (k', v') :: r, ⟨h, v, w, q, r1, r2⟩ => by
    simp only [List.map_cons, List.cons.injEq] at h q
    obtain ⟨rfl, h2⟩ := h
    obtain ⟨rfl, q2⟩ := q
    exact ⟨v', r, rfl, r1, h2, by rw [q2]; exact r2⟩
theorem repK_cons {k : Key} {d : D} {v : V} {kvs : List (Key × D)} {gs : List (Key × V)} (r1 : Rep e F d v) (r2 : RepK e F kvs gs) : RepK e F ((k, d) :: kvs) ((k, v) :: gs) :=
  ⟨by simp only [List.map_cons, r2.1], v, _, rfl, r1, r2.2⟩
theorem repK_app {a : List (Key × D)} {b : List (Key × D)} {gs : List (Key × V)} {hs : List (Key × V)} (r1 : RepK e F a gs) (r2 : RepK e F b hs) : RepK e F (a ++ b) (gs ++ hs) :=
  ⟨by simp only [List.map_append, r1.1, r2.1], by simp only [List.map_append]; exact r1.2.append r2.2⟩
theorem repK_map {k : Key} {d : D} {v : V} (rv : Rep e F d v) : ∀ {kvs : List (Key × D)} {gs : List (Key × V)}, RepK e F kvs gs → RepK e F (kvs.map fun kv => if kv.1 = k then (kv.1, d) else kv) (gs.map fun kv => if kv.1 = k then (kv.1, v) else kv)
  | [], [], _ => repK_nil
  | [], _ :: _, ⟨h, _⟩ => by cases h
  | (k', d') :: kvs, gs, r => by
    obtain ⟨v', r', rfl, r1, r2⟩ := repK_inv r
    simp only [List.map_cons]
    by_cases hk : k' = k
    · rw [if_pos hk, if_pos hk]; exact repK_cons rv (repK_map rv r2)
    · rw [if_neg hk, if_neg hk]; exact repK_cons r1 (repK_map rv r2)
theorem repK_put {k : Key} {d : D} {v : V} (rv : Rep e F d v) {kvs : List (Key × D)} {gs : List (Key × V)} (r : RepK e F kvs gs) : RepK e F (putKD kvs k d) (putK gs k v) := by
  have ha : (gs.any fun kv => decide (kv.1 = k)) = (kvs.any fun kv => decide (kv.1 = k)) := by
    have h1 : (gs.any fun kv => decide (kv.1 = k)) = (gs.map (·.1)).any fun x => decide (x = k) := by rw [List.any_map]; rfl
    have h2 : (kvs.any fun kv => decide (kv.1 = k)) = (kvs.map (·.1)).any fun x => decide (x = k) := by rw [List.any_map]; rfl
    rw [h1, h2, r.1]
  unfold putKD putK
  rw [ha]
  split
  · exact repK_map rv r
  · exact repK_app r (repK_cons rv repK_nil)
theorem repK_val {k : Key} : ∀ {kvs : List (Key × D)} {gs : List (Key × V)}, RepK e F kvs gs → (∀ d, valD k kvs = some d → ∃ v, valV gs k = some v ∧ Rep e F d v) ∧ (valD k kvs = none → valV gs k = none)
  | [], [], _ => ⟨(fun d h => by cases h), fun _ => rfl⟩
  | [], _ :: _, ⟨h, _⟩ => by cases h
  | (k', d') :: kvs, gs, r => by
    obtain ⟨v', r', rfl, r1, r2⟩ := repK_inv r
    obtain ⟨i1, i2⟩ := repK_val (k := k) r2
    by_cases hk : k' = k
    · rw [valV_pos (p := (k', v')) hk]
      simp only [valD, if_pos hk]
      exact ⟨(fun d h => by cases h; exact ⟨v', rfl, r1⟩), (fun h => by cases h)⟩
    · rw [valV_neg (p := (k', v')) hk]
      simp only [valD, if_neg hk]
      exact ⟨i1, i2⟩
theorem repK_keys {kvs : List (Key × D)} {gs : List (Key × V)} (r : RepK e F kvs gs) : Reps e F (kvs.map fun kv => keyOf kv.1) (gs.map fun kv => kV kv.1) := by
  have h1 : (kvs.map fun kv => keyOf kv.1) = (kvs.map (·.1)).map keyOf := by rw [List.map_map]; rfl
  have h2 : (gs.map fun kv => kV kv.1) = (gs.map (·.1)).map kV := by rw [List.map_map]; rfl
  rw [h1, h2, r.1]
  have : ∀ ks : List Key, Reps e F (ks.map keyOf) (ks.map kV) := fun ks => by
    induction ks with
    | nil => exact Reps.nil
    | cons k ks ih => exact Reps.cons (rep_keyOf k) ih
  exact this _
theorem RepK.len {kvs : List (Key × D)} {gs : List (Key × V)} (r : RepK e F kvs gs) : gs.length = kvs.length := by
  have := congrArg List.length r.1
  simpa using this
end
/-! ### own dicts -/
/-- x = {} -/
def sNewK (i : Nat) : State → Out := fun α => .nxt (α.set i (some (.own (.dic []))))
/-- x[k] = e -/
def sPutK (i : Nat) (sk : State → Option D) (s : State → Res D) : State → Out := fun α => match s α with
  | .ok d α' => (match bnd (sk α') keyD, ctOf α'[i]? with
    | some k, some (.dic kvs) => if kvs.length < 100000 then .nxt (putC α' i (.dic (putKD kvs k d))) else .bad
    | _, _ => .bad)
  | .exc x => .exc x | .bad => .bad
/-- k in x -/
def xInK (i : Nat) (sk : State → Option D) : State → Option D := fun α => match bnd (sk α) keyD, ctOf α[i]? with
  | some k, some (.dic kvs) => some (.bl (valD k kvs).isSome)
  | _, _ => none
def xNotInK (i : Nat) (sk : State → Option D) : State → Option D := fun α => match bnd (sk α) keyD, ctOf α[i]? with
  | some k, some (.dic kvs) => some (.bl (!(valD k kvs).isSome))
  | _, _ => none
/-- x[k] -/
def xGetK (i : Nat) (sk : State → Option D) : State → Option D := fun α => match bnd (sk α) keyD, ctOf α[i]? with
  | some k, some (.dic kvs) => valD k kvs
  | _, _ => none
/-- list(x) -/
def xKeysK (i : Nat) : State → Option (List D) := fun α => match ctOf α[i]? with
  | some (.dic kvs) => if kvs.length ≤ 100000 then some (kvs.map fun kv => keyOf kv.1) else none
  | _ => none
section
variable {e : En} {E : XK} {te tk : TE} {sk : State → Option D} {s : State → Res D}
theorem st_newK {i : Nat} : Sts e E (tAsg tDNewK (gName i)) (sNewK i) := fun c L S σ H α D R k => by
  intro p hp
  have s2 : Sm H (upd H p (.dK [])) := .of fun b o z => by rw [upd_ne (ne_of_none z hp)]; exact z
  exact k (p :: L) (p :: S) _ _ (fz_cons s2 hp) (R.setO s2 hp upd_same ⟨[], rfl, repK_nil⟩)
theorem st_putK {i : Nat} (h : Eve e E te s) (hk : Evp e tk sk) : Sts e E (sDPut (tVar i) tk te) (sPutK i sk s) := fun c L S σ H α D R k => by
  unfold sPutK at k
  refine h c L S σ H α R _ (fun d α' hs v H' m R' rv => ?_) (fun x hx => by rw [hx] at k; exact k) (fun hb => by rw [hb] at k; exact k)
  rw [hs] at k
  dsimp only at k
  split at k
  · rename_i kk kvs hkk hx
    split at k
    · rename_i hz
      obtain ⟨dk, h1, h2⟩ := bnd_some hkk
      obtain ⟨p, o, h3, m1, ho, gs, rfl, r1⟩ := R'.at hx
      refine ⟨.ref p, h3, ?_⟩
      refine hk c L S σ H' α' dk R' h1 _ fun y H2 e2 ry => ?_
      have hy := rep_key h2 ry
      subst hy
      refine ⟨p, _, rfl, DPut.k (e2.k _ _ ho (R'.nh _ (R'.sub _ m1))) (by rw [r1.len]; exact sz_lt hz), ?_⟩
      obtain ⟨R3, m3⟩ := (R'.up e2).mut hx h3 (o := .dK (putK gs kk v)) (ct' := .dic (putKD kvs kk d)) ⟨_, rfl, repK_put (rv.up (fz_same e2)) ⟨r1.1, r1.2.up (fz_same e2)⟩⟩
      exact k L S σ _ ((fz_mod m R.sub).trans ((fz_same e2).trans (fz_mod m3 (R'.up e2).sub))) R3
    · exact k.elim
  · exact k.elim
theorem ev_inK {i : Nat} (hk : Evp e tk sk) : Evp e (tDIn tk (tVar i)) (xInK i sk) := fun c L S σ H α d R q Q k => by
  unfold xInK at q
  split at q
  · rename_i kk kvs hkk hx
    cases q
    obtain ⟨dk, h1, h2⟩ := bnd_some hkk
    obtain ⟨p, o, h3, m1, ho, gs, rfl, r1⟩ := R.at hx
    refine hk c L S σ H α dk R h1 _ fun y H2 e2 ry => ?_
    have hy := rep_key h2 ry
    subst hy
    refine ⟨.ref p, h3, p, _, rfl, DGet.k (e2.k _ _ ho (R.nh _ (R.sub _ m1))), k _ _ e2 ?_⟩
    obtain ⟨i1, i2⟩ := repK_val (k := kk) r1
    cases hv : valD kk kvs with
    | none => rw [i2 hv]; exact rfl
    | some d => obtain ⟨v, h5, _⟩ := i1 d hv; rw [h5]; exact rfl
  · cases q
theorem ev_notInK {i : Nat} (hk : Evp e tk sk) : Evp e (tDNotIn tk (tVar i)) (xNotInK i sk) := fun c L S σ H α d R q Q k => by
  unfold xNotInK at q
  split at q
  · rename_i kk kvs hkk hx
    cases q
    obtain ⟨dk, h1, h2⟩ := bnd_some hkk
    obtain ⟨p, o, h3, m1, ho, gs, rfl, r1⟩ := R.at hx
    refine hk c L S σ H α dk R h1 _ fun y H2 e2 ry => ?_
    have hy := rep_key h2 ry
    subst hy
    refine ⟨.ref p, h3, p, _, rfl, DGet.k (e2.k _ _ ho (R.nh _ (R.sub _ m1))), k _ _ e2 ?_⟩
    obtain ⟨i1, i2⟩ := repK_val (k := kk) r1
    cases hv : valD kk kvs with
    | none => rw [i2 hv]; exact rfl
    | some d => obtain ⟨v, h5, _⟩ := i1 d hv; rw [h5]; exact rfl
  · cases q
theorem ev_getK {i : Nat} (hk : Evp e tk sk) : Evp e (tDGet (tVar i) tk) (xGetK i sk) := fun c L S σ H α d R q Q k => by
  unfold xGetK at q
  split at q
  · rename_i kk kvs hkk hx
    obtain ⟨dk, h1, h2⟩ := bnd_some hkk
    obtain ⟨p, o, h3, m1, ho, gs, rfl, r1⟩ := R.at hx
    refine ⟨.ref p, h3, ?_⟩
    refine hk c L S σ H α dk R h1 _ fun y H2 e2 ry => ?_
    have hy := rep_key h2 ry
    subst hy
    obtain ⟨v, h5, h6⟩ := (repK_val (k := kk) r1).1 d q
    exact ⟨p, v, rfl, by rw [← h5]; exact DGet.k (e2.k _ _ ho (R.nh _ (R.sub _ m1))), k v H2 e2 (h6.up (fz_same e2))⟩
  · cases q
theorem el_keysK {i : Nat} : Evl e (tCB (fun xs H Q => ∃ (a : Addr) (kvs : List (Key × V)), xs = [.ref a] ∧ Rd H a (.dK kvs) ∧ ∀ p, H p = none → Q (.ref p) (upd H p (.lst (kvs.map fun kv => kV kv.1)))) (tCons (tVar i) tNil)) (xKeysK i) := fun c L S σ H α xs R q Q k => by
  unfold xKeysK at q
  split at q
  · rename_i kvs hx
    split at q
    · cases q
      obtain ⟨p, o, h3, m1, ho, gs, rfl, r1⟩ := R.at hx
      refine ⟨.ref p, h3, p, gs, rfl, Rd.of ho, fun q hq => ?_⟩
      have s4 : Sm H (upd H q (.lst (gs.map fun kv => kV kv.1))) := .of fun b o z => by rw [upd_ne (ne_of_none z hq)]; exact z
      exact k q _ _ s4 hq upd_same ((repK_keys r1).up (fz_cons s4 hq))
    · cases q
  · cases q
end
section
variable {i : Nat} {sk : State → Option D} {s : State → Res D} {α : State}
@[simp] theorem a_sNewK : sNewK i α = .nxt (α.set i (some (.own (.dic [])))) := (rfl)
@[simp] theorem a_sPutK : sPutK i sk s α = (match s α with
  | .ok d α' => (match bnd (sk α') keyD, ctOf α'[i]? with
    | some k, some (.dic kvs) => if kvs.length < 100000 then .nxt (putC α' i (.dic (putKD kvs k d))) else .bad
    | _, _ => .bad)
  | .exc x => .exc x | .bad => .bad) := (rfl)
@[simp] theorem a_xInK : xInK i sk α = (match bnd (sk α) keyD, ctOf α[i]? with
  | some k, some (.dic kvs) => some (.bl (valD k kvs).isSome)
  | _, _ => none) := (rfl)
@[simp] theorem a_xNotInK : xNotInK i sk α = (match bnd (sk α) keyD, ctOf α[i]? with
  | some k, some (.dic kvs) => some (.bl (!(valD k kvs).isSome))
  | _, _ => none) := (rfl)
@[simp] theorem a_xGetK : xGetK i sk α = (match bnd (sk α) keyD, ctOf α[i]? with
  | some k, some (.dic kvs) => valD k kvs
  | _, _ => none) := (rfl)
@[simp] theorem a_xKeysK : xKeysK i α = (match ctOf α[i]? with
  | some (.dic kvs) => if kvs.length ≤ 100000 then some (kvs.map fun kv => keyOf kv.1) else none
  | _ => none) := (rfl)
@[simp] theorem a_keyS {z : Str} : keyD (.str z) = some (.inr z) := (rfl)
@[simp] theorem a_keyI {n : Int} : keyD (.int n) = some (.inl n) := (rfl)
@[simp] theorem a_keyOfS {z : Str} : keyOf (.inr z) = .str z := (rfl)
@[simp] theorem a_keyOfI {n : Int} : keyOf (.inl n) = .int n := (rfl)
end
/-! ### sorted(list of texts) -/
def dstrsL : List D → Option (List Str)
  | [] => some []
  | .str z :: r => (dstrsL r).map (z :: ·)
  | _ :: _ => none
theorem rep_dstrs {e : En} {F : Hp} : ∀ {ds : List D} {vs : List V} {zs : List Str}, dstrsL ds = some zs → Reps e F ds vs → vs = zs.map V.str
  | [], _, _, h, r => by cases h; cases r; rfl
  | .str z :: ds, _, zs, h, ⟨v, w, q, r1, r2⟩ => by
    unfold dstrsL at h
    cases hs : dstrsL ds with
    | none => rw [hs] at h; cases h
    | some ys =>
      rw [hs] at h; cases h
      subst q
      cases (show v = .str z from r1)
      rw [rep_dstrs hs r2]; rfl
  | .non :: _, _, _, h, _ => by simp [dstrsL] at h
  | .bl _ :: _, _, _, h, _ => by simp [dstrsL] at h
  | .int _ :: _, _, _, h, _ => by simp [dstrsL] at h
  | .tup _ :: _, _, _, h, _ => by simp [dstrsL] at h
  | .lst _ :: _, _, _, h, _ => by simp [dstrsL] at h
  | .ins _ _ :: _, _, _, h, _ => by simp [dstrsL] at h
  | .ty _ :: _, _, _, h, _ => by simp [dstrsL] at h
  | .cls _ :: _, _, _, h, _ => by simp [dstrsL] at h
  | .dic _ :: _, _, _, h, _ => by simp [dstrsL] at h
/-! the order of texts -/
def leS (a b : Str) : Bool := !ltCps b.cps.toList a.cps.toList
theorem ltC_asymm : ∀ a b : List Nat, ltCps a b = true → ltCps b a = false
  | [], [], h => by cases h
  | [], _ :: _, _ => rfl
  | _ :: _, [], h => by cases h
  | x :: a, y :: b, h => by
    simp only [ltCps, Bool.or_eq_true, decide_eq_true_eq, Bool.and_eq_true, beq_iff_eq] at h
    have : ¬ (y < x ∨ (y = x ∧ ltCps b a = true)) := by
      rcases h with h | ⟨rfl, h⟩
      · rintro (h2 | ⟨h2, _⟩) <;> omega
      · have := ltC_asymm a b h
        rintro (h2 | ⟨_, h2⟩)
        · omega
        · rw [this] at h2; cases h2
    cases hc : ltCps (y :: b) (x :: a) with
    | false => rfl
    | true => simp only [ltCps, Bool.or_eq_true, decide_eq_true_eq, Bool.and_eq_true, beq_iff_eq] at hc; exact absurd hc this
theorem ltC_tri : ∀ a b : List Nat, ltCps a b = false → ltCps b a = false → a = b
  | [], [], _, _ => rfl
  | [], _ :: _, h, _ => by cases h
  | _ :: _, [], _, h => by cases h
  | x :: a, y :: b, h1, h2 => by
    have n1 : ¬ (x < y ∨ (x = y ∧ ltCps a b = true)) := fun h => by
      have : ltCps (x :: a) (y :: b) = true := by simp only [ltCps, Bool.or_eq_true, decide_eq_true_eq, Bool.and_eq_true, beq_iff_eq]; exact h
      rw [this] at h1; cases h1
    have n2 : ¬ (y < x ∨ (y = x ∧ ltCps b a = true)) := fun h => by
      have : ltCps (y :: b) (x :: a) = true := by simp only [ltCps, Bool.or_eq_true, decide_eq_true_eq, Bool.and_eq_true, beq_iff_eq]; exact h
      rw [this] at h2; cases h2
    have e : x = y := by omega
    subst e
    have f1 : ltCps a b = false := by cases hc : ltCps a b with | false => rfl | true => exact absurd (.inr ⟨rfl, hc⟩) n1
    have f2 : ltCps b a = false := by cases hc : ltCps b a with | false => rfl | true => exact absurd (.inr ⟨rfl, hc⟩) n2
    rw [ltC_tri a b f1 f2]
theorem ltC_trans : ∀ a b c : List Nat, ltCps a b = true → ltCps b c = true → ltCps a c = true
  | [], [], _, h, _ => by cases h
  | [], _ :: _, [], _, h => by cases h
  | [], _ :: _, _ :: _, _, _ => rfl
  | _ :: _, [], _, h, _ => by cases h
  | _ :: _, _ :: _, [], _, h => by cases h
  | x :: a, y :: b, z :: c, h1, h2 => by
    simp only [ltCps, Bool.or_eq_true, decide_eq_true_eq, Bool.and_eq_true, beq_iff_eq] at h1 h2 ⊢
    rcases h1 with h1 | ⟨rfl, h1⟩
    · rcases h2 with h2 | ⟨rfl, h2⟩
      · exact .inl (by omega)
      · exact .inl h1
    · rcases h2 with h2 | ⟨rfl, h2⟩
      · exact .inl h2
      · exact .inr ⟨rfl, ltC_trans a b c h1 h2⟩
theorem leS_iff {a b : Str} : leS a b = true ↔ ltCps b.cps.toList a.cps.toList = false := by unfold leS; simp
theorem leS_antisymm {a b : Str} (h1 : leS a b = true) (h2 : leS b a = true) : a = b := by
  have := ltC_tri _ _ (leS_iff.mp h2) (leS_iff.mp h1)
  exact TL.ext_tl this
theorem leS_total (a b : Str) : leS a b = true ∨ leS b a = true := by
  cases h : ltCps b.cps.toList a.cps.toList with
  | false => exact .inl (leS_iff.mpr h)
  | true => exact .inr (leS_iff.mpr (ltC_asymm _ _ h))
theorem leS_trans {a b c : Str} (h1 : leS a b = true) (h2 : leS b c = true) : leS a c = true := by
  rw [leS_iff] at *
  cases h : ltCps c.cps.toList a.cps.toList with
  | false => rfl
  | true =>
    by_cases hbc : b = c
    · subst hbc; rw [h] at h1; cases h1
    · cases h3 : ltCps b.cps.toList c.cps.toList with
      | false => exact absurd (TL.ext_tl (ltC_tri _ _ h3 h2)) hbc
      | true => rw [ltC_trans _ _ _ h3 h] at h1; cases h1
theorem rising_pw : ∀ (p : Str) (l : List Str), PyProof.Rows.risingS p l = true → (p :: l).Pairwise (fun a b => leS a b = true)
  | p, [], _ => by simp
  | p, x :: r, h => by
    simp only [PyProof.Rows.risingS, Bool.and_eq_true] at h
    have ih := rising_pw x r h.2
    have hpx : leS p x = true := h.1
    refine List.pairwise_cons.mpr ⟨fun y m => ?_, ih⟩
    rcases List.mem_cons.mp m with rfl | m
    · exact hpx
    · exact leS_trans hpx ((List.pairwise_cons.mp ih).1 y m)
theorem sorted_pw {l : List Str} (h : PyProof.Rows.sortedS l = true) : l.Pairwise (fun a b => leS a b = true) := by
  cases l with
  | nil => simp
  | cons p l => exact rising_pw p l h
theorem sort_unique : ∀ {a b : List Str}, a.Perm b → a.Pairwise (fun x y => leS x y = true) → b.Pairwise (fun x y => leS x y = true) → a = b
  | [], b, p, _, _ => (List.Perm.nil_eq p)
  | x :: a, [], p, _, _ => by have := p.length_eq; simp at this
  | x :: a, y :: b, p, h1, h2 => by
    have hx : x ∈ y :: b := p.mem_iff.mp List.mem_cons_self
    have hy : y ∈ x :: a := p.mem_iff.mpr List.mem_cons_self
    have exy : x = y := by
      rcases List.mem_cons.mp hx with e | m1
      · exact e
      · rcases List.mem_cons.mp hy with e | m2
        · exact e.symm
        · exact leS_antisymm ((List.pairwise_cons.mp h1).1 y m2) ((List.pairwise_cons.mp h2).1 x m1)
    subst exy
    rw [sort_unique (List.Perm.cons_inv p) (List.pairwise_cons.mp h1).2 (List.pairwise_cons.mp h2).2]
def sortS (zs : List Str) : List Str := zs.mergeSort leS
theorem sortS_perm (zs : List Str) : (sortS zs).Perm zs := List.mergeSort_perm zs leS
theorem sortS_pw (zs : List Str) : (sortS zs).Pairwise (fun a b => leS a b = true) :=
  List.pairwise_mergeSort (le := leS) (fun a b c h1 h2 => leS_trans h1 h2) (fun a b => by rcases leS_total a b with h | h <;> simp [h]) zs
theorem sort_is {ys zs : List Str} (p : ys.Perm zs) (h : PyProof.Rows.sortedS ys = true) : ys = sortS zs := sort_unique (p.trans (sortS_perm zs).symm) (sorted_pw h) (sortS_pw zs)
def xSortS (sq : State → Option (List D)) : State → Option (List D) := fun α => bnd (bnd (sq α) dstrsL) fun zs => if zs.length < 64 then some ((sortS zs).map .str) else none
theorem sortedS_q {X : Cx} {K : PySem.W.Frag} (h : X.K = K) : CallR X (.builtin "sorted") (rSortedS K) := h ▸ cr_sortedS
theorem el_sortS {e : En} {te : TE} {sq : State → Option (List D)} (h : EvqL e te sq) : Evl e (tCB (rSortedS e.K) (tCons te tNil)) (xSortS sq) := fun c L S σ H α xs R q Q k => by
  unfold xSortS at q
  obtain ⟨zs, hz, q⟩ := bnd_some q
  obtain ⟨ds, h1, h2⟩ := bnd_some hz
  split at q
  · rename_i hl
    cases q
    refine h c L S σ H α ds R h1 _ fun a vs H' e1 sl r => ?_
    have hv := rep_dstrs h2 r
    subst hv
    refine ⟨a, zs, rfl, fz_le.seq sl, hl, fun ys p perm hs hp => ?_⟩
    have s4 : Sm H' (upd H' p (.lst (ys.map V.str))) := .of fun b o z => by rw [upd_ne (ne_of_none z hp)]; exact z
    have hn : H p = none := by
      exact e1.free R.inv hp
    exact k p _ _ (e1.trans s4) hn upd_same (by rw [sort_is perm hs]; exact reps_strs _)
  · cases q
@[simp] theorem a_xSortS {sq : State → Option (List D)} {α : State} : xSortS sq α = bnd (bnd (sq α) dstrsL) fun zs => if zs.length < 64 then some ((sortS zs).map .str) else none := (rfl)
theorem dstrsL_of : ∀ zs : List Str, dstrsL (zs.map .str) = some zs
  | [] => rfl
  | z :: zs => by simp only [List.map_cons, dstrsL, dstrsL_of zs]; rfl
/-! ### methods, by the class, that answer a new list -/
def tblTL (e : En) (tbl : List (String × (List D → Option (List D)))) : List (Addr × Sp) := tbl.map fun p => (e.cls p.1, spL e p.2)
def xMethL (tbl : List (String × (List D → Option (List D)))) (mn : Str) (so : State → Option D) (sr : State → Option (List D)) : State → Option (List D) := fun α => bnd (so α) fun o => match o with
  | .ins cn fs => if fs.lookup mn = none then bnd (tbl.lookup cn) fun m => bnd (sr α) fun ds => m (o :: ds) else none
  | _ => none
theorem mem_of_lookupL {κ : Type} {c : String} {m : κ} : ∀ {tbl : List (String × κ)}, tbl.lookup c = some m → (c, m) ∈ tbl
  | [], h => by cases h
  | (x, y) :: r, h => by
    rw [List.lookup_cons] at h
    cases hx : c == x with
    | true => rw [hx] at h; cases h; rw [beq_iff_eq.mp hx]; exact List.mem_cons_self
    | false => rw [hx] at h; exact List.mem_cons_of_mem _ (mem_of_lookupL h)
theorem el_meth {e : En} {to : TE} {tr : TA} {so : State → Option D} {sr : State → Option (List D)} {tbl : List (String × (List D → Option (List D)))} {mn : Str} (ho : Evp e to so) (hr : Eva e tr sr) : Evl e (tMethV (tblTL e tbl) mn to tr) (xMethL tbl mn so sr) := fun c L S σ H α xs R h Q q => by
  unfold xMethL at h
  obtain ⟨o, h1, h⟩ := bnd_some h
  split at h
  · rename_i cn fs
    split at h
    · rename_i hn
      obtain ⟨m, h2, h⟩ := bnd_some h
      obtain ⟨ds, h3, h⟩ := bnd_some h
      refine ⟨(e.cls cn, spL e m), List.mem_map.mpr ⟨_, mem_of_lookupL h2, rfl⟩, ?_⟩
      refine ho c L S σ H α _ R h1 _ fun v H1 e1 r1 => ?_
      obtain ⟨a, dx, gs, rfl, r2, r3⟩ := id r1
      refine ⟨a, dx, gs, rfl, fz_le _ _ r2, repF_none r3 hn, ?_⟩
      refine hr c L S σ H1 α ds (R.up e1) h3 _ fun vs H2 e2 r4 => ?_
      refine ⟨L, .ins cn fs :: ds, xs, dom_up (e1.trans e2) R.dm, by rw [List.append_nil]; exact Reps.cons (Rep.up r1 (fz_same e2)) r4, h, fun p us H3 e3 n hp r5 => q p us H3 ((e1.trans e2).trans e3) ?_ hp r5⟩
      exact (e1.trans e2).free R.inv n
    · cases h
  · cases h
@[simp] theorem a_xMethL {α : State} {so : State → Option D} {sr : State → Option (List D)} {tbl : List (String × (List D → Option (List D)))} {mn : Str} : xMethL tbl mn so sr α = (bnd (so α) fun o => match o with
  | .ins cn fs => if fs.lookup mn = none then bnd (tbl.lookup cn) fun m => bnd (sr α) fun ds => m (o :: ds) else none
  | _ => none) := (rfl)
/-! ### x.extend(a new list) -/
def sExt (i : Nat) (sq : State → Option (List D)) : State → Out := fun α => match sq α, ctOf α[i]? with
  | some ys, some (.lst xs) => if xs.length + ys.length ≤ 100000 then .nxt (putC α i (.lst (xs ++ ys))) else .bad
  | _, _ => .bad
theorem mtextK {X : Cx} {K : PySem.W.Frag} (h : X.K = K) : MtM X "list.extend" rExtend := mt_extend
theorem st_ext {e : En} {E : XK} {te : TE} (i : Nat) {sq : State → Option (List D)} (h : Evl e te sq) : Sts e E (tDrop (tBM e.K "list" rExtend (tVar i) (tCons te tNil))) (sExt i sq) := fun c L S σ H α DD R k => by
  unfold sExt at k
  split at k
  · rename_i ys xs hy hc
    split at k
    · rename_i hz
      obtain ⟨p, o, h1, m1, ho, vs, rfl, r1⟩ := R.at hc
      refine ⟨.ref p, h1, .inl ⟨rfl, vs, SqL.of ho⟩, ?_⟩
      refine h c L S σ H α _ R hy _ fun q us H2 e2 n hq r2 => ?_
      have R2 := R.up e2
      have hqL : q ∉ L := fun m => R.dom q m n
      refine ⟨p, q, vs, us, rfl, rfl, e2.k _ _ ho (R.nh _ (R.sub _ m1)), hq, by rw [r1.len, r2.len, sizeLine_eq]; omega, ?_⟩
      have r2' : Reps e (fz L H2) ys us := r2.up (fz_anti fun a m => List.mem_cons_of_mem _ m)
      obtain ⟨R3, m3⟩ := R2.mut hc h1 (o := .lst (vs ++ us)) (ct' := .lst (xs ++ ys)) ⟨_, rfl, (r1.up (fz_same e2)).append r2'⟩
      exact k L S σ _ ((fz_same e2).trans (fz_mod m3 R2.sub)) R3
    · exact k.elim
  · exact k.elim
@[simp] theorem a_sExt {i : Nat} {sq : State → Option (List D)} {α : State} : sExt i sq α = (match sq α, ctOf α[i]? with
  | some ys, some (.lst xs) => if xs.length + ys.length ≤ 100000 then .nxt (putC α i (.lst (xs ++ ys))) else .bad
  | _, _ => .bad) := (rfl)
end Ab
end
section
set_option maxRecDepth 100000
set_option maxHeartbeats 3200000
namespace Ab
open PySem PySem.Spec PyProof.Rows L2
variable [Hd]
/-! ### sets of keys of one kind that can be walked -/
section
variable {P : Program} {w : World} {κ : Type} [DecidableEq κ] {knd : PySem.KeyKind P w κ}
def Apart (knd : PySem.KeyKind P w κ) (e f : Int × Value) : Prop := ∀ k, knd.is k e.2 = true → knd.is k f.2 = true → False
structure SetW (knd : PySem.KeyKind P w κ) (h : Heap) (a : Addr) (S : κ → Bool) (n : Nat) (o : Obj) (es : Array (Int × Value)) (ep : Nat) (t : SetTable) : Prop where
  ho : h.get? a = some o
  ex : o.ExactSet
  hd : o.data = .set es ep t
  el : ElemsOf knd es.toList
  ap : es.toList.Pairwise (Apart knd)
  mm : ∀ k, S k = true ↔ ∃ e ∈ es.toList, knd.is k e.2 = true
  bd : es.size < scanBound
  ft : t.fits es.size = true
  sz : es.size = n
  ri : Ris t.place.toList
  ld : w.params.followText "set-order" = true ∨ t.led = true
def SetX (knd : PySem.KeyKind P w κ) (h : Heap) (a : Addr) (S : κ → Bool) (n : Nat) : Prop := ∃ o es ep t, SetW knd h a S n o es ep t
theorem apart_symm {e f : Int × Value} (h : Apart knd e f) : Apart knd f e := fun k a b => h k b a
theorem SetX.at {h h' : Heap} {a : Addr} {S : κ → Bool} {n : Nat} (R : SetX knd h a S n) (k : ∀ o, h.get? a = some o → h'.get? a = some o) : SetX knd h' a S n := by
  obtain ⟨o, es, ep, t, R⟩ := R
  exact ⟨o, es, ep, t, { R with ho := k o R.ho }⟩
theorem SetX.congr {h : Heap} {a : Addr} {S S' : κ → Bool} {n : Nat} (R : SetX knd h a S n) (e : ∀ k, S' k = S k) : SetX knd h a S' n := by
  have q : S' = S := funext e
  rw [q]; exact R
variable {A : Around} {E : Value → Shared → Prop} {s : Shared} {a : Addr} {S : κ → Bool} {n : Nat}
theorem storeW {h : Heap} {o : Obj} {es es' : Array (Int × Value)} {ep : Nat} {t t' : SetTable} (ho : h.get? a = some o) (hd : o.data = .set es ep t) : (h.update a (Obj.putSet es' t')).get? a = some { o with data := .set es' (ep + 1) t' } := by
  have q := Heap.get?_update_self (Obj.putSet es' t') ho (by rw [putSet_of es' t' hd]; rfl)
  rwa [putSet_of es' t' hd] at q
theorem setW_tail {g : Bool → Sem Unit} (hg : ∀ (b : Bool) (s₁ : Shared) (Q' : Unit → Shared → Prop), Q' () s₁ → wpAny (model P w) A (g b) Q' E s₁)
    {o : Obj} {es : Array (Int × Value)} {ep : Nat} {t : SetTable} (ho : s.heap.get? a = some o) (hex : o.ExactSet) (hd : o.data = .set es ep t)
    {fs : Array (Int × Value)} {u : SetTable} {S' : κ → Bool} (h1 : ElemsOf knd fs.toList) (h2 : fs.toList.Pairwise (Apart knd)) (h3 : ∀ k, S' k = true ↔ ∃ e ∈ fs.toList, knd.is k e.2 = true)
    (h4 : fs.size < scanBound) (h5 : u.fits fs.size = true) (h6 : Ris u.place.toList) (h7 : w.params.followText "set-order" = true ∨ u.led = true) {wd : Bool} {R : Option Bool → Shared → Prop}
    (hR : ∀ h', Heap.SameBut a s.heap h' → SetX knd h' a S' fs.size → R (some true) { s with heap := h' }) :
    wpAny (model P w) A (do
        storeSet a fs u
        if (!wd && u.tooFull) = true then do
            g (relayAll u fs (SetTable.grown fs.size)).2.2
            storeSet a (relayAll u fs (SetTable.grown fs.size)).1 (relayAll u fs (SetTable.grown fs.size)).2.1
            pure (some true)
          else pure (some true)) R E s := by
  refine wpAny_bind (wpAny_storeSet_of ho hd ?_ (fits_of_scanBound h4))
  have o1 := storeW (es' := fs) (t' := u) ho hd
  have b1 := Heap.SameBut.update s.heap a (Obj.putSet fs u)
  split
  · have p1 := relayAll_perm u fs (SetTable.grown fs.size)
    have p2 := relayAll_fits u fs (SetTable.grown fs.size)
    have p3 := relayAll_ris u fs (SetTable.grown fs.size)
    have p4 := relayAll_led u fs (SetTable.grown fs.size)
    generalize relayAll u fs (SetTable.grown fs.size) = Z at p1 p2 p3 p4 ⊢
    obtain ⟨gs, v, gave⟩ := Z
    dsimp only at p1 p2 p3 p4 ⊢
    have z1 : gs.size = fs.size := by rw [← Array.length_toList, p1.length_eq, Array.length_toList]
    refine wpAny_bind (hg _ _ _ ?_)
    refine wpAny_bind (wpAny_storeSet_of o1 rfl ?_ (fits_of_scanBound (by rw [z1]; exact h4)))
    have o2 := storeW (es' := gs) (t' := v) o1 rfl
    exact wpAny_pure (hR _ (b1.trans (Heap.SameBut.update _ a _)) ⟨_, gs, _, v, { ho := o2, ex := hex, hd := rfl, el := h1.perm p1, ap := (p1.pairwise_iff (fun q => apart_symm q)).mpr h2, mm := fun k => (h3 k).trans ⟨fun ⟨e, m, q⟩ => ⟨e, p1.mem_iff.mpr m, q⟩, fun ⟨e, m, q⟩ => ⟨e, p1.mem_iff.mp m, q⟩⟩, bd := by rw [z1]; exact h4, ft := p2, sz := z1, ri := p3, ld := h7.imp id fun z => by rw [p4]; exact z }⟩)
  · exact wpAny_pure (hR _ b1 ⟨_, fs, _, u, { ho := o1, ex := hex, hd := rfl, el := h1, ap := h2, mm := h3, bd := h4, ft := h5, sz := rfl, ri := h6, ld := h7 }⟩)
theorem setW_add {k : κ} {x : Value} {Q : Bool → Shared → Prop} (hk : knd.is k x = true) (hsc : x.scannable = true) (R : SetX knd s.heap a S n) (room : n + 1 < scanBound)
    (hQ : ∀ h', Heap.SameBut a s.heap h' → SetX knd h' a (fun j => S j || decide (j = k)) (if S k = true then n else n + 1) → Q (!S k) { s with heap := h' }) :
    wpAny (model P w) A (setAddHashed a x (knd.hash k)) Q E s := by
  obtain ⟨o, es, ep, t, R⟩ := R
  unfold setAddHashed setAddHashedIn
  refine wpAny_holding (wpAny_bind (wpAny_setState_of R.ho R.hd R.ft ?_))
  dsimp only
  rw [byScan_of hsc R.bd R.el]
  simp only [↓reduceIte]
  unfold setAddByScan
  refine wpAny_bind ?_
  refine wpAny_bind (wpAny_rule ?_)
  refine wpAny_bind (wpAny_setScan_of hk R.ho R.hd R.ft R.el ?_)
  cases hf : List.findIdx? (fun e => knd.is k e.2) es.toList with
  | some j =>
    dsimp only
    obtain ⟨hj, pj, _⟩ := List.findIdx?_eq_some_iff_getElem.mp hf
    have hS : S k = true := (R.mm k).2 ⟨es.toList[j], List.getElem_mem hj, pj⟩
    refine wpAny_pure (wpAny_pure ?_)
    have q := hQ s.heap (Heap.SameBut.refl a s.heap) ⟨o, es, ep, t, { R with
      mm := fun i => by
        rw [Bool.or_eq_true, decide_eq_true_eq, ← R.mm i]
        exact ⟨fun z => z.elim id (fun e => e ▸ hS), .inl⟩
      sz := by rw [if_pos hS]; exact R.sz }⟩
    rw [hS] at q
    exact q
  | none =>
    dsimp only
    have hS : S k = false := by
      cases q : S k with
      | false => rfl
      | true =>
        obtain ⟨e, m, p⟩ := (R.mm k).mp q
        have := List.findIdx?_eq_none_iff.mp hf e m
        rw [p] at this; cases this
    have gw : ∀ (b : Bool) {s₁ : Shared} {Q' : Unit → Shared → Prop}, Q' () s₁ → wpAny (model P w) A (match b with | true => rule "set.scan.the-table-gave-way" | false => pure ()) Q' E s₁ := fun b s₁ Q' q => by
      cases b
      · exact wpAny_pure q
      · exact wpAny_rule q
    have p1 := layNew_perm t es (knd.hash k) x
    have p2 := layNew_fits t es (knd.hash k) x
    have p3 := layNew_ris t es (knd.hash k) x R.ri
    have p4 := layNew_led t es (knd.hash k) x
    generalize layNew t es (knd.hash k) x = Z at p1 p2 p3 p4 ⊢
    obtain ⟨fs, u, wd, gave⟩ := Z
    dsimp only at p1 p2 p3 p4 ⊢
    rw [Array.toList_push] at p1
    have e1 : ElemsOf knd fs.toList := (R.el.push hk hsc).perm p1
    have e2 : ∀ i, (S i || decide (i = k)) = true ↔ ∃ e ∈ fs.toList, knd.is i e.2 = true := mem_push_iff hk R.mm p1
    have e3 : fs.toList.Pairwise (Apart knd) := (p1.pairwise_iff (fun q => apart_symm q)).mpr (List.pairwise_append.mpr ⟨R.ap, List.pairwise_singleton _ _, fun e m f mf => by
      obtain rfl := List.mem_singleton.mp mf
      intro i hi hx
      have : i = k := knd.inj x i k hx hk
      subst this
      have c : S i = true := (R.mm i).mpr ⟨e, m, hi⟩
      rw [hS] at c; cases c⟩)
    have z1 : fs.size = n + 1 := by rw [← Array.length_toList, p1.length_eq, List.length_append, Array.length_toList, R.sz]; rfl
    have e4 : fs.size < scanBound := by rw [z1]; exact room
    have e7 : w.params.followText "set-order" = true ∨ u.led = true := R.ld.imp id fun z => by rw [p4]; exact z
    have fin : ∀ h', Heap.SameBut a s.heap h' → SetX knd h' a (fun j => S j || decide (j = k)) fs.size → Q true { s with heap := h' } := fun h' sb r => by
      have q := hQ h' sb
      rw [hS] at q
      rw [z1] at r
      exact q r
    refine wpAny_bind (gw _ ?_)
    split
    · refine wpAny_bind ?_
      rw [hashByValue_scannable 8 hsc]
      refine wpAny_pure ?_
      refine setW_tail ?_ R.ho R.ex R.hd e1 e3 e2 e4 ?_ ?_ ?_ ?_
      · intro b s₁ Q' q
        cases b
        · exact wpAny_pure q
        · exact wpAny_rule q
      · first | (split <;> first | exact p2 | exact SetTable.fits_plain_off p2) | exact p2
      · first | (split <;> exact p3) | exact p3
      · first | (split <;> exact e7) | exact e7
      · intro h' sb r; dsimp only; exact wpAny_pure (fin h' sb r)
    · refine wpAny_bind (wpAny_pure ?_)
      simp only [↓reduceIte]
      refine setW_tail ?_ R.ho R.ex R.hd e1 e3 e2 e4 p2 p3 e7 ?_
      · intro b s₁ Q' q
        cases b
        · exact wpAny_pure q
        · exact wpAny_rule q
      · intro h' sb r; dsimp only; exact wpAny_pure (fin h' sb r)
theorem led_new (w : World) : w.params.followText "set-order" = true ∨ (!w.params.followText "set-order") = true := by
  cases w.params.followText "set-order"
  · exact .inr rfl
  · exact .inl rfl
theorem setX_fresh {h : Heap} (ho : h.get? a = some { cls := .type "set", dict := none, data := .set #[] 0 (.fresh 0 0 (!w.params.followText "set-order")) }) : SetX knd h a (fun _ => false) 0 :=
  ⟨_, #[], 0, _, { ho := ho, ex := ⟨rfl, rfl, rfl⟩, hd := rfl, el := fun e m => by simp at m, ap := by simp, mm := fun k => by simp, bd := by decide, ft := by rfl, sz := rfl, ri := List.Pairwise.nil, ld := led_new w }⟩
/-! the loop -/
def amg (val : Nat → κ) (i : Nat) : κ → Bool := fun k => (List.range i).any fun j => decide (k = val j)
theorem amg_succ (val : Nat → κ) (i : Nat) (k : κ) : amg val (i + 1) k = (amg val i k || decide (k = val i)) := by
  unfold amg
  rw [List.range_succ, List.any_append]
  simp
variable {R : Result → Shared → Prop} {I : Addr} {fp wr : List Addr} {G : Array GenState → Array GenState → Prop} {Pv : Nat → Value → Prop} {St : Nat → Shared → Prop}
theorem setX_loop (W : WalksS P w A.in1 I fp wr G n Pv St) (Z : Addr) (hZf : Z ∉ fp) (val : Nat → κ)
    (hval : ∀ i v, Pv i v → knd.is (val i) v = true ∧ v.scannable = true) (hb : n + 1 < scanBound) :
    ∀ (k i : Nat) (s : Shared), n - i = k → i ≤ n → St i s → (∃ c, c ≤ i ∧ SetX knd s.heap Z (amg val i) c) →
      (∀ s' c, c ≤ n → Moved (Z :: wr) G s s' → SetX knd s'.heap Z (amg val n) c → R (.ok (.ret .none)) s') →
      codeAny (model P w) A (.builtin "set.update.loop" ⟨[.ref Z, .ref I], []⟩) R s := by
  have hZw : Z ∉ wr := fun h => hZf (W.sub _ h)
  have hsub : ∀ b ∈ wr, b ∈ Z :: wr := fun b hb => List.mem_cons_of_mem _ hb
  intro k
  induction k with
  | zero =>
    intro i s hk hi hst ⟨c, hc, hS⟩ hR
    obtain rfl : i = n := by omega
    refine codeAny_builtin F.entry_set_update_loop ?_
    rw [Around.under_plainId F.plain_set_update_loop _]
    show wpAny _ A.in1 (pyNext (.ref I) >>= _) _ _ s
    refine wpAny_bind (W.done s _ _ hst fun s' hm => ?_)
    show wpAny _ A.in1 (ret Value.none) _ _ s'
    exact wpAny_pure (hR s' c hc (hm.mono hsub) (hS.at fun o e => hm.heap Z o hZw e))
  | succ k ih =>
    intro i s hk hi hst ⟨c, hc, hS⟩ hR
    have hlt : i < n := by omega
    refine codeAny_builtin F.entry_set_update_loop ?_
    rw [Around.under_plainId F.plain_set_update_loop _]
    show wpAny _ A.in1 (pyNext (.ref I) >>= _) _ _ s
    refine wpAny_bind (W.item i s _ _ hlt hst fun v s' hP hst' hm => ?_)
    obtain ⟨his, hsc⟩ := hval i v hP
    show wpAny _ A.in1 (holding [v] (setAdd Z v) >>= _) _ _ s'
    refine wpAny_bind (wpAny_holding ?_)
    unfold setAdd
    refine wpAny_holding ?_
    refine wpAny_bind (knd.pyHash (k := val i) his ?_)
    have hS' : SetX knd s'.heap Z (amg val i) c := hS.at fun o e => hm.heap Z o hZw e
    refine setW_add (s := { s' with toks := s'.toks + 1 }) his hsc hS' (by omega) fun h' hsb hS2 => ?_
    have hSi : ∃ c', c' ≤ i + 1 ∧ SetX knd h' Z (amg val (i + 1)) c' := by
      refine ⟨_, ?_, hS2.congr (fun k' => amg_succ val i k')⟩
      split <;> omega
    refine wpAny_pure ⟨plainId_quiet F.plain_set_update_loop _, ih (i + 1) _ (by omega) hlt (W.frame _ s' _ _ hst' (Nat.le_succ _) fun b hb o e => ?_) hSi fun s'' c' hc' hm'' hS'' => ?_⟩
    · rw [hsb.2 b (fun h : b = Z => hZf (by rw [← h]; exact hb))]; exact e
    · refine hR s'' c' hc' (Moved.trans W.gtrans ((hm.mono hsub).then_heap (Nat.le_succ _) fun b o hb e => ?_) hm'') hS''
      rw [hsb.2 b (fun h : b = Z => hb (by rw [h]; exact List.mem_cons_self))]; exact e
/-! set(a list) -/
def nSet (w : World) : Obj := { cls := .type "set", dict := none, data := .set #[] 0 (.fresh 0 0 (!w.params.followText "set-order")) }
theorem call_setX {l : Addr} {items : Array Value} {val : Nat → κ} {Q : Value → Shared → Prop} (hh : A.handled = none) (hl : s.heap.IsList l items)
    (hval : ∀ i v, items[i]? = some v → knd.is (val i) v = true ∧ v.scannable = true) (hb : items.size + 1 < scanBound)
    (h : ∀ (h' : Heap) (tk c : Nat), c ≤ items.size → SetX knd h' s.heap.objs.size (amg val items.size) c → (∀ b o, s.heap.get? b = some o → h'.get? b = some o) → Q (.ref s.heap.objs.size) { s with heap := h', toks := tk }) :
    wpAny (model P w) A (call (.type "set") [.ref l]) Q E s := by
  obtain ⟨c, tl, hmro⟩ := F.called_set.mro
  have hmade := F.called_set.made
  have hsub := F.called_set.sub
  refine wpAny_call (codeAny_of_tree ?_)
  show wpAny _ _ (callAny (.type "set") _) _ _ _
  refine wpAny_pure ⟨Code.quiet_builtin _ (by decide +kernel), codeAny_builtin F.entry_type_call ?_⟩
  rw [Around.under_plain (weight_type_call_type "set" [.ref l] []) rfl]
  have h1 := F.called_set.notType
  have h2 := F.called_set.canCreate
  have hct := F.typeCall_set_1 (.ref l)
  repeat (any_goals (first | assumption | wp_step))
  refine codeAny_mono (code_set_led1 (.ref l) (E := E) (Q₁ := fun obj s₁ => obj = .ref s.heap.objs.size ∧ s₁ = { s with heap := s.heap.push (nSet w) }) ⟨rfl, rfl⟩) fun r s₁ hr => ?_
  cases r with
  | error e => exact hr
  | ok fl =>
    cases fl with
    | ret obj =>
      obtain ⟨rfl, rfl⟩ := hr
      have hS : (s.heap.push (nSet w)).get? s.heap.objs.size = some (nSet w) := Heap.get?_push_size _ rfl
      have hT : Shared.TypeIs { s with heap := s.heap.push (nSet w) } (.ref s.heap.objs.size) "set" := ⟨_, hS, rfl⟩
      have hli := F.called_set.init.lookup
      have hbi := F.called_set.init.bind (.ref s.heap.objs.size)
      repeat (any_goals (first | assumption | wp_step))
      refine codeAny_mono (codeAny_call_builtin (R := wants (fun r s₂ => r = .none ∧ ∃ h' tk c, s₂ = { s with heap := h', toks := tk } ∧ c ≤ items.size ∧ SetX knd h' s.heap.objs.size (amg val items.size) c ∧ (∀ b o, s.heap.get? b = some o → h'.get? b = some o)) E) F.called_set.init.plain F.entry_set_init (check_set_init_1 hT ?_)) fun r₂ s₂ hr₂ => ?_
      · obtain ⟨ol, hol, hcl, nl, hdl⟩ := hl
        obtain ⟨ocls, odict, odata, oslots⟩ := ol
        simp only at hcl hdl
        subst hcl; subst hdl
        have hol' : (s.heap.push (nSet w)).get? l = some { cls := .type "list", dict := odict, data := .seq items nl, slots := oslots } := Heap.get?_push_of_some _ hol
        have hsls := F.sub_list_set
        have hslf := F.sub_list_frozenset
        have hne : (Value.type "list" == Value.type "dict") = false := by decide
        have hl1 : (s.heap.push (nSet w)).IsList l items := ⟨_, hol', rfl, nl, rfl⟩
        unfold Builtin.«set.__init__» noKeywords Builtin.Frozenset.updateFrom
        generalize hPI : pyIter = PI
        wp_walk
        subst hPI
        refine wpAny_pyIter_list hl1 ?_
        refine wpAny_bind (wpAny_runValue ?_)
        have hlS : l < s.heap.objs.size := Heap.lt_size hol
        have hh3 : A.in1.in1.in1.handled = none := by simp [hh]
        have hz1 : (s.heap.push (nSet w)).objs.size = s.heap.objs.size + 1 := Heap.size_push ..
        have hneI : l ≠ (s.heap.push (nSet w)).objs.size := by rw [hz1]; exact Nat.ne_of_lt (Nat.lt_succ_of_lt hlS)
        have hSf : s.heap.objs.size ∉ [(s.heap.push (nSet w)).objs.size, l] := by
          simp only [List.mem_cons, List.not_mem_nil, or_false, not_or]
          exact ⟨by rw [hz1]; exact Nat.ne_of_lt (Nat.lt_succ_self _), Nat.ne_of_gt hlS⟩
        refine setX_loop ((Walks.list hh3 _ l hneI items).toS) s.heap.objs.size
          hSf val hval hb (items.size - 0) 0 _ (by omega) (Nat.zero_le _)
          ⟨⟨_, Heap.get?_push_size _ rfl, rfl, rfl⟩, (hl1.push _)⟩ ?hS0 ?hR
        case hS0 =>
          exact ⟨0, Nat.le_refl 0, (setX_fresh (Heap.get?_push_of_some _ hS)).congr fun k => rfl⟩
        case hR =>
          intro s' c' hc' hm hS'
          obtain ⟨h', g2, d', tk', os'⟩ := s'
          have eg : g2 = s.gens := hm.gens
          have ed : d' = s.drawn := hm.drawn
          have eo : os' = s.os := hm.os
          subst eg; subst ed; subst eo
          show wpAny _ _ _ _ _ _
          refine wpAny_pure ?_
          show wpAny _ _ (ret Value.none) _ _ _
          refine wpAny_pure ⟨rfl, h', tk', c', rfl, hc', hS', fun b o e => ?_⟩
          have hb0 : b < s.heap.objs.size := Heap.lt_size e
          exact hm.heap b o (by simp only [List.mem_cons, List.not_mem_nil, or_false, not_or]; exact ⟨Nat.ne_of_lt hb0, by rw [hz1]; exact Nat.ne_of_lt (Nat.lt_succ_of_lt hb0)⟩) (Heap.get?_push_of_some _ (Heap.get?_push_of_some _ e))
      · cases r₂ with
        | error e => exact hr₂
        | ok fl₂ =>
          cases fl₂ with
          | ret r =>
            obtain ⟨rfl, h', tk, c', rfl, hc', hS', hk'⟩ := hr₂
            repeat (any_goals (first | assumption | wp_step))
            exact h _ _ _ hc' hS' hk'
          | _ => exact hr₂.elim
    | _ => exact hr.elim
end
/-! ### set(texts), sorted of it -/
def SetSO (P : Program) (w : World) (a : Addr) (S : Str → Bool) (n : Nat) : HO := .ext fun h => SetX (PySem.strKind P w) h a S n
def rSetSt (K : PySem.W.Frag) (P : Program) (w : World) : List V → Hp → VK → Prop := fun xs H Q => ∃ (l : Addr) (zs : List Str), xs = [V.ref l] ∧ SqL K H l (zs.map V.str) ∧ zs.length < 1000 ∧
  ∀ a S n, H a = none → (∀ z, S z = true ↔ z ∈ zs) → n ≤ zs.length → Q (.ref a) (upd H a (SetSO P w a S n))
def rSortSetSt (P : Program) (w : World) : List V → Hp → VK → Prop := fun vs H Q => ∃ (a : Addr) (S : Str → Bool) (n : Nat), vs = [V.ref a] ∧ H a = some (SetSO P w a S n) ∧ n < 64 ∧
  ∀ (ys : List Str) (p : Addr), sortedS ys = true → ys.Nodup → (∀ z, z ∈ ys ↔ S z = true) → H p = none → Q (.ref p) (upd H p (.lst (ys.map V.str)))
section
variable {X : Cx}
theorem setSO_new {w : World} {P : Program} {H : Hp} {h : Heap} {a : Addr} {S : Str → Bool} {n : Nat} (R : SetX (PySem.strKind P w) h a S n) : ObjOk P w H h a (SetSO P w a S n) := by
  have ⟨o, _, _, _, r⟩ := R
  exact ⟨R, ⟨o, r.ho⟩, fun h1 h2 p k => SetX.at p k⟩
theorem strsAreV : ∀ {ys : List Str} {us : List Value}, Vals (ys.map V.str) us → StrsAre us ys
  | [], _, .nil => .nil
  | y :: ys, _, .cons r t => by
    obtain ⟨k, rfl⟩ := r
    exact .cons y k (strsAreV t)
theorem cr_setSt (hc : X.calm = true) : CallR X (.type "set") (rSetSt X.K X.prog X.w) := by
  intro pins s σ H xs us Q I r h
  obtain ⟨l, zs, rfl, hq, h63, q⟩ := h
  obtain ⟨u, rfl, rx⟩ := vals1 r
  cases rx
  obtain ⟨its, rv, pl, hz⟩ := I.list hq
  have hI : StrsAre its zs := strsAreV rv
  have hl : its.toArray.size = zs.length := by rw [List.size_toArray, ← rv.length, List.length_map]
  refine call_setX (knd := PySem.strKind X.prog X.w) (val := fun i => zs.getD i Str.empty) (I.ok.hd hc) pl.isList (fun i v hv => ?_) (by rw [hl]; unfold scanBound; omega) fun h' tk c hc' hS hk => ?_
  · obtain ⟨t, rfl⟩ := SS.strs_at hI i v (by simpa using hv)
    exact ⟨PySem.strKind_is _ _ _ _, rfl⟩
  · refine ⟨.ref s.heap.objs.size, _, I.laid (t' := tk) (fun b u e => hk b u e) (Nat.le_refl _) (setSO_new hS), rfl, q _ _ _ (I.hok.fresh (Nat.le_refl _)) (fun z => ?_) (by rw [← hl]; exact hc')⟩
    unfold amg
    rw [List.any_eq_true, hl]
    constructor
    · rintro ⟨j, hj, e⟩
      have e := of_decide_eq_true e
      have hj := List.mem_range.mp hj
      rw [e]
      show zs.getD j Str.empty ∈ zs
      rw [List.getD_eq_getElem?_getD, List.getElem?_eq_getElem hj]
      exact List.getElem_mem hj
    · intro m
      obtain ⟨j, hj, e⟩ := List.mem_iff_getElem.mp m
      refine ⟨j, List.mem_range.mpr hj, decide_eq_true ?_⟩
      show z = zs.getD j Str.empty
      rw [List.getD_eq_getElem?_getD, List.getElem?_eq_getElem hj, ← e]; rfl
theorem strs_some : ∀ {us : List Value}, (∀ v ∈ us, ∃ k t, v = Value.str k t) → ∃ zs : List Str, StrsAre us zs
  | [], _ => ⟨[], .nil⟩
  | u :: us, h => by
    obtain ⟨zs, hz⟩ := strs_some (us := us) fun v m => h v (List.mem_cons_of_mem _ m)
    obtain ⟨k, t, rfl⟩ := h u List.mem_cons_self
    exact ⟨k :: zs, .cons k t hz⟩
theorem strsAre_mem {P : Program} {w : World} : ∀ {us : List Value} {zs : List Str}, StrsAre us zs → ∀ z, z ∈ zs ↔ ∃ u ∈ us, (PySem.strKind P w).is z u = true
  | _, _, .nil, z => by simp
  | _, _, .cons y t hr, z => by
    have ih := strsAre_mem (P := P) (w := w) hr z
    have e : (PySem.strKind P w).is z (.str y t) = true ↔ z = y := ⟨fun h => (PySem.strKind P w).inj _ _ _ h (PySem.strKind_is P w y t), fun h => by rw [h]; exact PySem.strKind_is P w y t⟩
    constructor
    · intro m
      rcases List.mem_cons.mp m with rfl | m
      · exact ⟨_, List.mem_cons_self, PySem.strKind_is P w _ t⟩
      · obtain ⟨u, m, q⟩ := ih.mp m
        exact ⟨u, List.mem_cons_of_mem _ m, q⟩
    · rintro ⟨u, m, q⟩
      rcases List.mem_cons.mp m with rfl | m
      · rw [e.mp q]; exact List.mem_cons_self
      · exact List.mem_cons_of_mem _ (ih.mpr ⟨u, m, q⟩)
theorem strs_apart {P : Program} {w : World} : ∀ {us : List Value} {zs : List Str}, StrsAre us zs → us.Pairwise (fun a b => ∀ k, (PySem.strKind P w).is k a = true → (PySem.strKind P w).is k b = true → False) → zs.Nodup
  | _, _, .nil, _ => List.nodup_nil
  | _, _, .cons y t hr, h => by
    obtain ⟨h1, h2⟩ := List.pairwise_cons.mp h
    refine List.nodup_cons.mpr ⟨fun m => ?_, strs_apart hr h2⟩
    obtain ⟨u, mu, q⟩ := (strsAre_mem (P := P) (w := w) hr y).mp m
    exact h1 u mu y (PySem.strKind_is P w y t) q
theorem cr_sortSetSt (hc : X.calm = true) : CallR X (.builtin "sorted") (rSortSetSt X.prog X.w) := by
  intro pins s σ H xs us Q I r q
  obtain ⟨a, S, n, ex, ha, h64, q⟩ := q
  subst ex
  obtain ⟨u, eu, rx⟩ := vals1 r
  subst eu
  cases rx
  obtain ⟨o, es, ep, t, R⟩ := (I.hok a _ ha).1
  refine Calls.call_function_entry PyProof.Rows.kind_sorted PyProof.Rows.plain_sorted PyProof.Rows.entry_sorted (PyProof.Rows.args_sorted1 _) ?_
  unfold Builtin.«sorted»
  refine wpAny_bind (m := checkCount "sorted" 1 1 _) (wpAny_pure ?_)
  refine wpAny_bind (collect_set (A := X.A.in1) (I.ok.hd hc) ⟨o, R.ho, R.ex.1, R.hd⟩ R.ft R.bd R.ri R.ld fun s1 vs k1 hz g1 o1 pm => ?_)
  have hvl : vs.length = n := by rw [pm.length_eq, List.length_map, Array.length_toList]; exact R.sz
  have hall : ∀ v ∈ vs, ∃ k t, v = Value.str k t := fun v hv => by
    obtain ⟨e, he, q⟩ := List.mem_map.mp (pm.mem_iff.mp hv)
    obtain ⟨⟨k, hk, _⟩, _⟩ := R.el e he
    obtain ⟨t, ht⟩ := Value.isStrOf_shape (x := k) (v := e.2) hk
    exact ⟨k, t, by rw [← q]; exact ht⟩
  obtain ⟨zs, hS⟩ := strs_some hall
  have hnd : zs.Nodup := strs_apart (P := X.prog) (w := X.w) hS ((pm.pairwise_iff (fun q k a b => q k b a)).mpr (List.pairwise_map.mpr R.ap))
  have hmm : ∀ z, z ∈ zs ↔ S z = true := fun z => by
    rw [strsAre_mem (P := X.prog) (w := X.w) hS z, R.mm z]
    constructor
    · rintro ⟨u, m, h⟩
      obtain ⟨e, he, q⟩ := List.mem_map.mp (pm.mem_iff.mp m)
      exact ⟨e, he, by rw [q]; exact h⟩
    · rintro ⟨e, m, h⟩
      exact ⟨e.2, pm.mem_iff.mpr (List.mem_map_of_mem m), h⟩
  refine wpAny_bind (wpAny_newList ?_ (by rw [hvl, sizeLine_eq]; omega))
  have hoL : (s1.heap.push (seqObj "list" vs.toArray 0)).get? s1.heap.objs.size = some (seqObj "list" vs.toArray 0) := Heap.get?_push_size _ rfl
  refine wpAny_bind (wpAny_holding (wpAny_call_entry PyProof.Rows.slot_list_sort ⟨_, hoL, rfl⟩ PyProof.Rows.entry_list_sort
    (list_sort_treeK strKind_oneLt hoL hS.keysOf (fun v₁ v₂ rest e => keyKind_strs (by rw [← e]; exact hS)) (by rw [hvl]; exact h64) fun st' hp hs => ⟨_, rfl, ?_⟩)
    (PyProof.Rows.args_list_sort _)))
  obtain ⟨ys, g3, g4, g5⟩ := sorted_out_str hS hp hs
  obtain ⟨c, hc'⟩ := PyProof.Rows.sortedHeap_at (vs := vs) (out := (arrOf st').map (·.2)) hoL
  have hlen : (ys.map V.str).length ≤ sizeLine := by
    have : zs.length = vs.length := hS.length.symm
    rw [List.length_map, g4.length_eq, this, hvl, sizeLine_eq]; omega
  have hn : H s1.heap.objs.size = none := I.hok.fresh hz
  have hold : ∀ b u, s.heap.get? b = some u → (sortedHeap (s1.heap.push (seqObj "list" vs.toArray 0)) s1.heap.objs.size vs ((arrOf st').map (·.2))).get? b = some u := fun b u e => by
    have q := k1 b u e
    have hlt := Heap.lt_size q
    rw [PyProof.Rows.sortedHeap_old (Nat.ne_of_lt hlt) (by rw [size_push']; exact Nat.lt_succ_of_lt hlt)]
    exact Heap.get?_push_of_some _ q
  obtain ⟨hp1, gn1, dr1, tk1, os1⟩ := s1
  dsimp only at *
  subst g1; subst o1
  refine wpAny_pure ⟨_, rfl, .ref hp1.objs.size, _, I.call (ch := []) (Un.laid hold hz hn) (I.hok.laid hold hz (show ObjOk X.prog X.w _ _ _ (.lst (ys.map V.str)) from ⟨hlen, ((arrOf st').map (·.2)).toList, c, vals_of_strs g3, by rw [Array.toArray_toList]; exact hc'⟩)) I.bare (fun _ z => nomatch z), rfl, q ys _ g5 (g4.nodup_iff.mpr hnd) (fun z => by rw [g4.mem_iff, hmm z]) hn⟩
end
theorem setSt_q {X : Cx} {K : PySem.W.Frag} {P : Program} {w : World} (hK : X.K = K) (hP : X.prog = P) (hw : X.w = w) (hc : X.calm = true) : CallR X (.type "set") (rSetSt K P w) := by
  subst hK; subst hP; subst hw; exact cr_setSt hc
theorem sortSetSt_q {X : Cx} {P : Program} {w : World} (hP : X.prog = P) (hw : X.w = w) (hc : X.calm = true) : CallR X (.builtin "sorted") (rSortSetSt P w) := by
  subst hP; subst hw; exact cr_sortSetSt hc
def nubS : List Str → List Str
  | [] => []
  | z :: r => if z ∈ r then nubS r else z :: nubS r
theorem nubS_mem : ∀ (l : List Str) (z : Str), z ∈ nubS l ↔ z ∈ l
  | [], z => by simp [nubS]
  | y :: r, z => by
    unfold nubS
    split
    · rename_i h
      rw [nubS_mem r z, List.mem_cons]
      exact ⟨.inr, fun q => q.elim (fun e => e ▸ h) id⟩
    · rw [List.mem_cons, List.mem_cons, nubS_mem r z]
theorem nubS_nodup : ∀ l : List Str, (nubS l).Nodup
  | [] => List.nodup_nil
  | y :: r => by
    unfold nubS
    split
    · exact nubS_nodup r
    · rename_i h
      exact List.nodup_cons.mpr ⟨fun m => h ((nubS_mem r y).mp m), nubS_nodup r⟩
theorem perm_of_mem {α : Type} [DecidableEq α] : ∀ {a b : List α}, a.Nodup → b.Nodup → (∀ z, z ∈ a ↔ z ∈ b) → a.Perm b := fun {a b} ha hb h =>
  List.perm_iff_count.mpr fun z => by
    rw [List.Nodup.count ha, List.Nodup.count hb]
    by_cases m : z ∈ a
    · rw [if_pos m, if_pos ((h z).mp m)]
    · rw [if_neg m, if_neg fun q => m ((h z).mpr q)]
/-- sorted(set(xs)), texts -/
def xSortSet (sq : State → Option (List D)) : State → Option (List D) := fun α => bnd (bnd (sq α) dstrsL) fun zs => if zs.length < 64 then some ((sortS (nubS zs)).map .str) else none
theorem el_sortSet {e : En} {te : TE} {sq : State → Option (List D)} {P : Program} {w : World} (h : EvqL e te sq) : Evl e (tCB (rSortSetSt P w) (tCons (tCB (rSetSt e.K P w) (tCons te tNil)) tNil)) (xSortSet sq) := fun c L S σ H α xs R q Q k => by
  unfold xSortSet at q
  obtain ⟨zs, hz, q⟩ := bnd_some q
  obtain ⟨ds, h1, h2⟩ := bnd_some hz
  split at q
  · rename_i hl
    cases q
    refine h c L S σ H α ds R h1 _ fun a vs H' e1 sl r => ?_
    have hv := rep_dstrs h2 r
    subst hv
    refine ⟨a, zs, rfl, fz_le.seq sl, by omega, fun b S n hb hS hn => ?_⟩
    have s3 : Sm H' (upd H' b (SetSO P w b S n)) := .of fun x o z => by rw [upd_ne (ne_of_none z hb)]; exact z
    refine ⟨b, S, n, rfl, upd_same, by omega, fun ys p srt nd mm hp => ?_⟩
    have s4 : Sm (upd H' b (SetSO P w b S n)) (upd (upd H' b (SetSO P w b S n)) p (.lst (ys.map V.str))) := .of fun x o z => by rw [upd_ne (ne_of_none z hp)]; exact z
    have hn : H p = none := by
      exact (e1.trans s3).free R.inv hp
    have hys : ys = sortS (nubS zs) := sort_is (perm_of_mem nd (nubS_nodup zs) fun z => by rw [mm z, hS z, nubS_mem]) srt
    exact k p _ _ ((e1.trans s3).trans s4) hn upd_same (by rw [hys]; exact reps_strs _)
  · cases q
@[simp] theorem a_xSortSet {sq : State → Option (List D)} {α : State} : xSortSet sq α = bnd (bnd (sq α) dstrsL) fun zs => if zs.length < 64 then some ((sortS (nubS zs)).map .str) else none := (rfl)
end Ab
end
section
set_option maxRecDepth 100000
set_option maxHeartbeats 1000000
namespace Ab
open PySem L2 PyProof.Rows PySem.Spec
variable [Hd]
/-- x.clear() -/
def sClear (i : Nat) : State → Out := fun α => match ctOf α[i]? with
  | some (.lst _) => .nxt (putC α i (.lst []))
  | _ => .bad
section
variable {e : En} {E : XK}
theorem st_clear {i : Nat} : Sts e E (tDrop (tBM0 e.K "list" rClear (tVar i))) (sClear i) := fun c L S σ H α D R k => by
  unfold sClear at k
  split at k
  · rename_i xs hx
    obtain ⟨p, o, h1, m1, ho, vs, rfl, r1⟩ := R.at hx
    refine ⟨.ref p, h1, .inl ⟨rfl, vs, SqL.of ho⟩, p, vs, rfl, rfl, ho, ?_⟩
    obtain ⟨R2, m2⟩ := R.mut hx h1 (o := .lst []) (ct' := .lst []) ⟨_, rfl, Reps.nil⟩
    exact k L S σ _ (fz_mod m2 R.sub) R2
  · exact k.elim
end
theorem pe_clear {X : Cx} {K : PySem.W.Frag} (h : X.K = K) {o : Expr} {to : TE} {apos cpos : Pos} (ho : PE X o to) (hbase : attributeBase o "clear" X.env (eval o X.env) = eval o X.env := by rfl) (hline : (apos.endLine == cpos.line) = true := by rfl) :
    PE X (.Call (.Attribute o "clear" apos) [] [] cpos) (tBM0 K "list" rClear to) := h ▸ pe_bm0 PySem.F.plainAttrs_list PySem.F.slot_list_clear PySem.F.type_list_clear mt_clear ho hbase hline
@[simp] theorem a_sClear {i : Nat} {α : State} : sClear i α = (match ctOf α[i]? with
  | some (.lst _) => .nxt (putC α i (.lst []))
  | _ => .bad) := (rfl)
end Ab
end
section

end
section
set_option maxRecDepth 100000
set_option maxHeartbeats 1000000
namespace Ab
open PySem L2 PyProof.Rows PySem.Spec
variable [Hd]
/-! ### defs that change an object and may raise -/
/-- a method that may raise -/
structure CalMX (P : Program) (w : World) (K : PySem.W.Frag) (mg : Str → Option Value) (base : Heap) (C : Addr) (m : Str) (ps : List Str) (k : Nat) (sp : Sp) : Prop where
  ex : ∃ f fd, FnOk P w K mg base (L2.CX P w) k f fd ps sp ∧ Meth K C m f ∧ Binds K fd ps []
section
variable {P : Program} {w : World} {K : PySem.W.Frag} {mg : Str → Option Value} {base : Heap} {C : Addr} {x m : Str} {ps : List Str} {k j : Nat} {sp : Sp}
theorem CalMX.vacuous {f : Addr} {fd : FuncData} (hm : Meth K C m f) (hb : Binds K fd ps []) (no : ∀ vs H Q E, ¬ sp vs H Q E) : CalMX P w K mg base C m ps k sp :=
  ⟨f, fd, ⟨fun vs H Q E h => absurd h (no vs H Q E), fun A outer s H args us vs Q E _ _ _ _ h => absurd h (no vs H Q E)⟩, hm, hb⟩
theorem CalX.vacuous {f : Addr} {fd : FuncData} (hm : mg x = some (.ref f)) (hk : PySem.W.keepIn K (.ref f) = true) (hb : Binds K fd ps []) (no : ∀ vs H Q E, ¬ sp vs H Q E) : CalX P w K mg base x ps k sp :=
  ⟨f, fd, ⟨fun vs H Q E h => absurd h (no vs H Q E), fun A outer s H args us vs Q E _ _ _ _ h => absurd h (no vs H Q E)⟩, hm, hk, hb⟩
theorem fn_MX {cls : String → Addr} {x qual : Str} {st : Stmt} {f : Addr} {fd : FuncData} {N ps : List Str} {k : Nat} (s : State → Out) (F : Fun K x qual st f fd) (S : FnScope N ps (defScope st)) {n kk : Nat} (hn : N.length = n) (hkk : ps.length = kk) (hps : kk ≤ n) {m : List A → MRes} (hmm : m = runM n kk s)
    (hbody : ∀ (cdv : Value) (A : Around) (outer : List Env) (s0 : Shared) (H : Hp) (E : XK), Room k (A.deeper (envOfC qual (defScope st) s0.heap.objs.size f cdv)) →
      ∃ t, PSs (cxOf (L2.CX P w) P w K mg base N qual (defScope st) f cdv A outer s0 H E) (defBody st) t ∧ Sts ⟨K, cls⟩ E t s) : FnOk P w K mg base (L2.CX P w) (k + 1) f fd ps (spM ⟨K, cls⟩ m) := by
  refine F.okX S (fun vs H Q E h => by rw [spM_len hmm h, hkk]) (fun cdv A outer s0 H vs Q E hr h => ?_)
  obtain ⟨t, h1, h2⟩ := hbody cdv A outer s0 H E hr
  exact ⟨t, h1, body_M hn hps hmm h2 h⟩
end
section
variable {X : Cx} {C : Addr} {mn x : Str} {ps : List Str} {k j : Nat} {sp : Sp} {E : XK} {ta : TE} {o e : Expr} {es : List Expr} {t : TA} {apos pos p : Pos}
theorem passX (tk : Takes X (fun cls d _ H => E cls d H)) : Passes (L2.CX X.prog X.w) X E := passes_call tk fun _ _ _ _ h => h
theorem pe_calXE (C : CalX X.prog X.w X.K X.mg X.base x ps k sp) (tk : Takes X (fun cls d _ H => E cls d H)) (hr : Room j X.A) (hkj : k ≤ j) (hg : Gl X x) (ha : PA X (e :: es) t) (hdb : (x == ("__debug__" : Str)) = false := by decide) (he : starEach (e :: es) X.env = (false, eval e X.env) :: starEach es X.env := by rfl) (hpl : (backTo pos (starEach es X.env)).any (·.1) = false := by rfl) :
    PE X (.Call (.Name x p) (e :: es) [] pos) (tCall sp [] E t) := by
  obtain ⟨f, fd, G, hm, hk, hb⟩ := C.ex
  exact pe_call G (hr.mono hkj) hg hm hk hb .nil (passX tk) ha hdb he hpl
theorem pe_calmX {pl : Sem Bool} (he : PE X o ta) (c : Cls X.K C) (M : CalMX X.prog X.w X.K X.mg X.base C mn ps k sp) (tk : Takes X (fun cls d _ H => E cls d H)) (hr : Room j X.A) (hkj : k ≤ j) (ha : PA X (e :: es) t)
    (hst : starEach (e :: es) X.env = (false, eval e X.env) :: starEach es X.env := by rfl) (hpl : (backTo pos (starEach es X.env)).any (·.1) = false := by rfl)
    (ht : eval (.Call (.Attribute o mn apos) (e :: es) [] pos) X.env = (do
      let ov ← eval o X.env
      standAt apos.atName
      let (f, first) ← holding [ov] (getMethod ov mn pl)
      callWith pos f first (backTo pos (starEach (e :: es) X.env)) (backToKw pos (keywordEach [] X.env))) := by rfl) : PE X (.Call (.Attribute o mn apos) (e :: es) [] pos) (tMeth C mn sp [] E ta t) := by
  obtain ⟨f, fd, G, hm, hb⟩ := M.ex
  exact pe_meth (pl := pl) he c hm G (hr.mono hkj) hb .nil (passX tk) ha hst hpl ht
theorem pe_calmX0 {pl : Sem Bool} (he : PE X o ta) (c : Cls X.K C) (M : CalMX X.prog X.w X.K X.mg X.base C mn ps k sp) (tk : Takes X (fun cls d _ H => E cls d H)) (hr : Room j X.A) (hkj : k ≤ j)
    (ht : eval (.Call (.Attribute o mn apos) [] [] pos) X.env = (do
      let ov ← eval o X.env
      standAt apos.atName
      let (f, first) ← holding [ov] (getMethod ov mn pl)
      callWith pos f first (backTo pos (starEach [] X.env)) (backToKw pos (keywordEach [] X.env))) := by rfl) : PE X (.Call (.Attribute o mn apos) [] [] pos) (tMeth C mn sp [] E ta tNil) := by
  obtain ⟨f, fd, G, hm, hb⟩ := M.ex
  exact pe_meth0 (pl := pl) he c hm G (hr.mono hkj) hb .nil (passX tk) ht
end
/-! ### an exception that is kept behind its suite -/
/-- the context behind the try: the exception is pinned -/
abbrev hold (X : Cx) (pn : List (Addr × Obj)) : Cx := { X with pn := pn }
theorem ok_hold {X : Cx} (ok : X.Ok) (pn : List (Addr × Obj)) : (hold X pn).Ok :=
  ⟨ok.mod, ok.kind, ok.glob, ok.blt, ok.above, ok.inj, ok.has, ok.cab, ok.hd, ok.frames, ok.stk, ok.exf, ok.bs, ok.bsz, ok.noex, ok.exfs, ok.funs, ok.frf⟩
/-- what the clause wishes -/
def wKeep (K : PySem.W.Frag) (c : Value) (i : Nat) (ts : Addr → Value → Option Addr → TS) (tr : Addr → Value → Option Addr → TS) (D : Ends) : WX := fun cls d σ H =>
  PySem.W.exmOne K cls c = some true ∧ ∀ a, H a = none → ts a cls d { nx := fun σ' H' => tr a cls d D (σ'.set i none) H', rt := fun _ _ => False } (σ.set i (some (.ref a))) H
section
variable {X : Cx} {x n : Str} {c : Value} {i : Nat} {body suite rest : List Stmt} {b₀ : Stmt} {np pos pos' : Pos} {tb : WX → TS} {tn : TS} {ts tr : Addr → Value → Option Addr → TS}
theorem pss_try_keep (hs : X.stack = X.env :: X.outer) (hf : X.env.frame = some X.env.locals) (hN : X.N.Nodup) (hi : X.N[i]? = some n) (hln : X.env.kindOf n = some .local) (hc : Names X x c)
    (hb : ∀ (W : WX) (pn : List (Addr × Obj)) (xe : Value → Shared → Prop), Takes (X.tr pn xe) W → PassesOwn (model X.prog X.w) X.A X.env xe → PSs (X.tr pn xe) body (tb W))
    (hsu : ∀ (a : Addr) (oe : Obj) (cls : Value) (d : Option Addr) (pn : List (Addr × Obj)), Zc cls d oe → (∃ vs, oe.data = .fields vs) → PSs (X.suite a ((a, oe) :: pn)) (b₀ :: suite) (ts a cls d))
    (hrn : PSs X rest tn)
    (hrx : ∀ (a : Addr) (oe : Obj) (cls : Value) (d : Option Addr) (pn : List (Addr × Obj)), Zc cls d oe → (∃ vs, oe.data = .fields vs) → PSs (hold X ((a, oe) :: pn)) rest (tr a cls d)) :
    PSs X (.Try body [.ExceptHandler (some (.Name x np)) (some n) (b₀ :: suite) pos'] [] [] pos :: rest) (fun D σ H => tb (wKeep X.K c i ts tr D) { D with nx := tn D } σ H) := by
  refine ⟨fun pins s σ H D I h => ?_⟩
  have ok := I.ok
  have hfr : X.A.frames = some (X.env :: X.outer) := by rw [ok.frames, hs]
  have hloc : Loc X.env.scope n := .inl hln
  let P2 : Flow → Shared → Prop := fun f s1 => match f with
    | .next => (∃ σ' H', Inv X pins σ' H' s1 ∧ tn D σ' H') ∨ (∃ (a : Addr) (oe : Obj) (cls : Value) (d : Option Addr) (σ' : L2.St) (H' : Hp), Inv (hold X ((a, oe) :: (X.pn ++ pins))) [] σ' H' s1 ∧ Zc cls d oe ∧ (∃ vs, oe.data = .fields vs) ∧ tr a cls d D σ' H')
    | f => SP X pins D f s1
  have key : wpAny (model X.prog X.w) X.A (exec (.Try body [.ExceptHandler (some (.Name x np)) (some n) (b₀ :: suite) pos'] [] [] pos) X.env) P2 X.xe s := by
    refine wpAny_Try_except ?_
    refine wpAny_mono ((hb (wKeep X.K c i ts tr D) (X.pn ++ pins) (fun e s₁ => wpAny (model X.prog X.w) X.A (noteFrame e X.env) (fun _ s₂ => wpAny (model X.prog X.w) X.A (setFlight e none) (fun _ s₃ =>
      wpAny (model X.prog X.w) X.A (handleBy e X.env [.ExceptHandler (some (.Name x np)) (some n) (b₀ :: suite) pos']) P2 X.xe s₃) X.xe s₂) X.xe s₁) (fun u s' xx => ?_) PassesOwn.looking).run [] s σ H { D with nx := tn D } (I.toTry _) h) (fun f s1 hsp => ?_) (fun e s1 he => he)
    · -- the catch
      obtain ⟨a, B, sI, pins', σ', H', cls, d, rfl, J', nb, up, sky, na, os, ag, hb1, hyes⟩ := xx
      have J : Inv X pins σ' H' sI := J'.ofTry ok
      have sky' : Sky B (X.env :: X.outer) a (Zc cls d) X.env.locals s'.heap := by rw [← hs]; exact sky
      show wpAny (model X.prog X.w) X.A (noteFrame (.ref a) X.env) _ _ _
      refine Sky.land Zc.steady hfr hf sky' fun h3 fl3 up3 => ?_
      have J3 : Inv X pins σ' H' { s' with heap := h3 } := J.landed nb fl3.1 (up.trans up3) os ag
      obtain ⟨oe3, vs3, he3, hz3, hd3⟩ := fl3.there
      have notFr : ∀ {h : Heap} {o : Obj} {vs : Array Value}, h.FunFrames B (X.env :: X.outer) → h.get? a = some o → o.data = .fields vs → a ∉ frs (X.env :: X.outer) := fun {h o vs} ff e dd hm => by
        obtain ⟨_, o', e', hnf⟩ := ff.mem hm
        rw [e] at e'; cases e'
        exact hnf _ dd
      have nfr := notFr fl3.2.2.1 he3 hd3
      have nL : a ≠ X.env.locals := fun z => nfr (List.mem_filterMap.mpr ⟨X.env, List.mem_cons_self, by rw [hf, z]⟩)
      have nF : a ∉ X.fs := fun hm => by
        obtain ⟨e, he, q⟩ := List.mem_filterMap.mp hm
        exact nfr (List.mem_filterMap.mpr ⟨e, List.mem_cons_of_mem _ he, q⟩)
      have S3 := J3.suite he3 hd3 na nL nF
      refine wpAny_handleBy_cons (codeAny_handlers_test ?_) (by intro q; cases q)
      have LT : PySem.W.Looks (model X.prog X.w) h3 (typeOf (.ref a)) cls := fun A Q E s k q => wpAny_typeOf_ref (k _ _ he3) (by rw [hz3.1]; exact q)
      have LM := PySem.W.exm_one (M := model X.prog X.w) (J3.kIn) LT hb1
      have test : ∀ {Q : Value → Shared → Prop} {E : Value → Shared → Prop}, Q c { s' with heap := h3 } → wpAny (model X.prog X.w) (X.A.mark (some (.ref a))) (eval (.Name x np) X.env) Q E { s' with heap := h3 } := fun {Q E} q => by
        obtain ⟨hg, hdbg, hm | ⟨hm, hv, hnn⟩⟩ := hc
        · exact ld_glob (X := X.suite a ((a, oe3) :: (X.pn ++ pins))) S3 hg hm q hdbg
        · exact ld_blt (X := X.suite a ((a, oe3) :: (X.pn ++ pins))) S3 hg hm hv q hnn hdbg
      refine test (LM.here ?_)
      refine codeAny_handlers_suite_as ?_
      refine HandSPX.lands_againZ fl3 fun h4 fl4 up4 => ?_
      have J4 : Inv X pins σ' H' { s' with heap := h4 } := J.landed nb fl4.1 ((up.trans up3).trans up4) os ag
      obtain ⟨oe4, vs4, he4, hz4, hd4⟩ := fl4.there
      have S4 := J4.suite he4 hd4 na nL nF
      refine store_ok (X := X.suite a ((a, oe4) :: (X.pn ++ pins))) (v := .ref a) S4 hN hi hloc rfl (fun s5 S5 => ?_) (.inr hln)
      refine wpAny_mono ((hsu a oe4 cls d (X.pn ++ pins) hz4 ⟨_, hd4⟩).run [] s5 _ H' _ S5 (hyes a na)) (fun f s6 hsp => ?_) (fun _ _ z => False.elim z)
      cases f with
      | next =>
        obtain ⟨σ6, H6, S6, q6⟩ := hsp
        have T6 : Inv (hold X ((a, oe4) :: (X.pn ++ pins))) [] σ6 H6 s6 := ⟨ok_hold ok _, S6.os, S6.bare, S6.base, S6.loc, S6.cell, S6.free, S6.freeC, fun p hp => S6.pin p hp, S6.hok, S6.len⟩
        have g : wpAny (model X.prog X.w) X.A (do bindName X.env n .none; unbindBehindTheSuite X.env n pos') (fun _ s7 => P2 .next s7) X.xe s6 :=
          gone_ok (X := hold X ((a, oe4) :: (X.pn ++ pins))) T6 hN hi hln fun s7 J7 => .inr ⟨a, oe4, cls, d, _, _, J7, hz4, ⟨_, hd4⟩, q6⟩
        exact g
      | brk => obtain ⟨σ6, H6, S6, q6⟩ := hsp; exact q6.elim
      | cont => obtain ⟨σ6, H6, S6, q6⟩ := hsp; exact q6.elim
      | ret u => obtain ⟨v6, σ6, H6, S6, r6, q6⟩ := hsp; exact q6.elim
    · cases f with
      | next =>
        obtain ⟨σ', H', J', q⟩ := hsp
        exact wpAny_execs_nil (Or.inl ⟨σ', H', J'.ofTry ok, q⟩)
      | brk =>
        obtain ⟨σ', H', J', q⟩ := hsp
        exact ⟨σ', H', J'.ofTry ok, q⟩
      | cont =>
        obtain ⟨σ', H', J', q⟩ := hsp
        exact ⟨σ', H', J'.ofTry ok, q⟩
      | ret u =>
        obtain ⟨v, σ', H', J', r, q⟩ := hsp
        exact ⟨v, σ', H', J'.ofTry ok, r, q⟩
  refine wpAny_execs_cons (thn key fun f s1 q => ?_)
  cases f with
  | next =>
    rcases q with ⟨σ', H', J, q⟩ | ⟨a, oe, cls, d, σ', H', J, hz, hd, q⟩
    · exact hrn.run pins s1 σ' H' D J q
    · have back : ∀ {σ2 : L2.St} {H2 : Hp} {s2 : Shared}, Inv (hold X ((a, oe) :: (X.pn ++ pins))) [] σ2 H2 s2 → Inv X pins σ2 H2 s2 := fun {σ2 H2 s2} K =>
        ⟨ok, K.os, K.bare, K.base, K.loc, K.cell, K.free, K.freeC, fun p hp => K.pin p (List.mem_append_left _ (List.mem_cons_of_mem _ hp)), K.hok, K.len⟩
      refine wpAny_mono ((hrx a oe cls d (X.pn ++ pins) hz hd).run [] s1 σ' H' D J q) (fun f s2 hsp => ?_) (fun _ _ z => z)
      cases f with
      | next => obtain ⟨σ', H', K, z⟩ := hsp; exact ⟨σ', H', back K, z⟩
      | brk => obtain ⟨σ', H', K, z⟩ := hsp; exact ⟨σ', H', back K, z⟩
      | cont => obtain ⟨σ', H', K, z⟩ := hsp; exact ⟨σ', H', back K, z⟩
      | ret u => obtain ⟨v, σ', H', K, r, z⟩ := hsp; exact ⟨v, σ', H', back K, r, z⟩
  | ret v => exact q
  | brk => exact q
  | cont => exact q
/-- .. and its dict -/
theorem pss_hold_pin {a : Addr} {oe : Obj} {d : Option Addr} {pn : List (Addr × Obj)} {ts : List (Str × V) → TS}
    (h : ∀ (dd : Addr) (od : Obj) (fs : List (Str × V)), d = some dd → OdOk od fs → PSs (hold X ((a, oe) :: (dd, od) :: pn)) rest (ts fs)) :
    PSs (hold X ((a, oe) :: pn)) rest (fun D σ H => ∃ dd fs, d = some dd ∧ H dd = some (.xd fs) ∧ ts fs D σ (del H dd)) := by
  refine ⟨fun pins s σ H D I ⟨dd, fs, e, hd, q⟩ => ?_⟩
  have hx : ObjOk X.prog X.w H s.heap dd (.xd fs) := I.hok dd _ hd
  obtain ⟨mA, hns, hr⟩ := hx
  obtain ⟨od, ho, hl⟩ := lookIn_ns hns
  obtain ⟨n1, n2⟩ := xd_nofs I hd
  have nc : ∀ v, od.data ≠ .cell v := fun v z => by
    obtain ⟨o, es, ep, h1, h2, _⟩ := hns
    rw [ho] at h1; cases h1
    rw [z] at h2; cases h2
  have J := inv_drop I hd
  have J2 : Inv (hold X ((a, oe) :: (dd, od) :: pn)) pins σ (del H dd) s := by
    refine ⟨ok_hold (X := hold X ((a, oe) :: pn)) J.ok _, J.os, J.bare, J.base, J.loc, J.cell, J.free, J.freeC, fun p hp => ?_, J.hok, J.len⟩
    have hp' : p ∈ (a, oe) :: (dd, od) :: (pn ++ pins) := hp
    rcases List.mem_cons.mp hp' with e | hp'
    · exact J.pin p (by rw [e]; exact List.mem_cons_self)
    rcases List.mem_cons.mp hp' with e | hp'
    · rw [e]; exact ⟨ho, del_same, n2, n1, nc⟩
    · exact J.pin p (List.mem_cons_of_mem _ hp')
  have back : ∀ {σ' : L2.St} {H' : Hp} {s' : Shared}, Inv (hold X ((a, oe) :: (dd, od) :: pn)) pins σ' H' s' → Inv (hold X ((a, oe) :: pn)) pins σ' H' s' := fun {σ' H' s'} K => by
    refine ⟨I.ok, K.os, K.bare, K.base, K.loc, K.cell, K.free, K.freeC, fun p hp => K.pin p ?_, K.hok, K.len⟩
    have hp' : p ∈ (a, oe) :: (pn ++ pins) := hp
    show p ∈ (a, oe) :: (dd, od) :: (pn ++ pins)
    rcases List.mem_cons.mp hp' with e | hp'
    · rw [e]; exact List.mem_cons_self
    · exact List.mem_cons_of_mem _ (List.mem_cons_of_mem _ hp')
  refine wpAny_mono ((h dd od fs e ⟨fun f => ⟨_, hl f, hr f⟩, nc⟩).run pins s σ _ D J2 q) (fun f s' hs => ?_) (fun _ _ z => z)
  cases f with
  | next => obtain ⟨σ', H', K, z⟩ := hs; exact ⟨σ', H', back K, z⟩
  | brk => obtain ⟨σ', H', K, z⟩ := hs; exact ⟨σ', H', back K, z⟩
  | cont => obtain ⟨σ', H', K, z⟩ := hs; exact ⟨σ', H', back K, z⟩
  | ret u => obtain ⟨v, σ', H', K, z⟩ := hs; exact ⟨v, σ', H', back K, z⟩
end
/-- try: x = f(..) except C as n: c = n; rest -/
theorem pss_tryhold {X : Cx} {i j ic k l : Nat} {y n nm cn f : Str} {c : Value} {ps : List Str} {sp : Sp} {a : Expr} {as : List Expr} {ta : TA} {tn : TS} {tr : Addr → Value → List (Str × V) → TS} {rest : List Stmt} {p1 p2 p3 p4 p5 p6 p7 np pos pos' : Pos}
    (hs : X.stack = X.env :: X.outer) (hf : X.env.frame = some X.env.locals) (hN : X.N.Nodup) (hi : X.N[i]? = some y) (hy : Loc X.env.scope y) (hy2 : X.env.scope.names.lookup y = some .local) (hj : X.N[j]? = some nm) (hln : X.env.kindOf nm = some .local)
    (hic : X.N[ic]? = some cn) (hcl : Loc X.env.scope cn) (hcl2 : X.env.scope.names.lookup cn = some .local) (hnl : Vis X.env.scope nm) (hc : Names X n c)
    (C : CalX X.prog X.w X.K X.mg X.base f ps k sp) (hr : Room l X.A) (hkj : k ≤ l) (hg : Gl X f)
    (ha : ∀ (W : WX) (pn : List (Addr × Obj)) (xe : Value → Shared → Prop), PA (X.tr pn xe) (a :: as) ta)
    (hrn : PSs X rest tn)
    (hrx : ∀ (b dd : Addr) (oe od : Obj) (cls : Value) (fs : List (Str × V)) (pn : List (Addr × Obj)), Zc cls (some dd) oe → (∃ vs, oe.data = .fields vs) → OdOk od fs → PSs (hold X ((b, oe) :: (dd, od) :: pn)) rest (tr b cls fs))
    (hsw : swapsWith (.Call (.Name f p1) (a :: as) [] p2) (some (.Name y p3)) p4.line X.env = pure false := by rfl)
    (hsw2 : swapsWith (.Name nm p6) (some (.Name cn p5)) p7.line X.env = pure false := by rfl)
    (hd1 : (nm == ("__debug__" : Str)) = false := by decide) (hd2 : (nm == ("__classdict__" : Str)) = false := by decide) (hdb : (f == ("__debug__" : Str)) = false := by decide) (he : starEach (a :: as) X.env = (false, eval a X.env) :: starEach as X.env := by rfl) (hpl : (backTo p2 (starEach as X.env)).any (·.1) = false := by rfl) :
    PSs X (.Try [.Assign [.Name y p3] (.Call (.Name f p1) (a :: as) [] p2) p4] [.ExceptHandler (some (.Name n np)) (some nm) [.Assign [.Name cn p5] (.Name nm p6) p7] pos'] [] [] pos :: rest)
      (fun D σ H => tAsg (tCallS sp (WE (wKeep X.K c j (fun a cls d => tAsg (tVar j) (gName ic)) (fun a cls d D σ H => ∃ dd fs, d = some dd ∧ H dd = some (.xd fs) ∧ tr a cls fs D σ (del H dd)) D)) ta) (gName i) { D with nx := tn D } σ H) :=
  pss_try_keep (tb := fun W D σ H => tAsg (tCallS sp (WE W) ta) (gName i) D σ H) (ts := fun a cls d => tAsg (tVar j) (gName ic)) (tr := fun a cls d D σ H => ∃ dd fs, d = some dd ∧ H dd = some (.xd fs) ∧ tr a cls fs D σ (del H dd)) hs hf hN hj hln hc
    (fun W pn xe tk _ => pss_one (ps_set (X := X.tr pn xe) (i := i) hN hi hy (pe_calX (X := X.tr pn xe) C hr hkj hg tk (ha W pn xe) hdb he hpl) hsw (.inr hy2)))
    (fun b oe cls d pn _ _ => pss_one (ps_set (X := X.suite b ((b, oe) :: pn)) (i := ic) hN hic hcl (pe_var (X := X.suite b ((b, oe) :: pn)) (i := j) hj hnl hd1 hd2) hsw2 (.inr hcl2)))
    hrn (fun b oe cls d pn hz hd => pss_hold_pin fun dd od fs e ho => hrx b dd oe od cls fs pn (e ▸ hz) hd ho)
/-! ### reading a pinned exception, wherever it is pinned -/
section
variable {X : Cx} {a dd : Addr} {oe od : Obj} {cls : Value} {fs : List (Str × V)}
theorem inst_atH (m1 : (a, oe) ∈ X.pn) (m2 : (dd, od) ∈ X.pn) {pins : List (Addr × Obj)} {σ : L2.St} {H : Hp} {s : Shared} {D : Addr} (hz : Zc (.ref D) (some dd) oe) (hf : ∃ vs, oe.data = .fields vs) (I : Inv X pins σ H s) : PySem.W.InstAt s.heap a oe D (some od) := by
  obtain ⟨ha, _⟩ := I.pin (a, oe) (List.mem_append_left _ m1)
  obtain ⟨ho, _⟩ := I.pin (dd, od) (List.mem_append_left _ m2)
  obtain ⟨vs, hd⟩ := hf
  exact ⟨ha, hz.1, by unfold PySem.W.notCls; rw [hd] <;> rfl, by rw [hz.2]; exact ho⟩
theorem pe_xfH {e : Expr} {te : TE} {pos : Pos} {n : Str} (m1 : (a, oe) ∈ X.pn) (m2 : (dd, od) ∈ X.pn) (hz : Zc cls (some dd) oe) (hf : ∃ vs, oe.data = .fields vs) (ho : OdOk od fs) (he : PE X e te) (hb : attributeBase e n X.env (eval e X.env) = eval e X.env := by rfl) :
    PE X (.Attribute e n pos) (tXfP X.K a cls fs n te) := by
  refine ⟨fun pins s σ H Q I h => ?_⟩
  refine attr_of hb (thn (he.run pins s σ H _ I h) fun u s1 ⟨x, H1, I1, rx, ex, C, v, ec, T, hno, l, q⟩ => ?_)
  subst ex ec
  obtain rfl : u = Value.ref a := rx
  obtain ⟨gv, hl, hr⟩ := ho.1 n
  obtain ⟨u, hu, ru⟩ := RelO.some_of (v := v) (o := gv) (by rw [← l]; exact hr)
  exact HandSPX.exc_get I1.kIn (inst_atH m1 m2 hz hf I1) T.ga T.gg T.exC (PySem.W.findObj_own T.hdC hno rfl (by rw [hl, hu])) (handed_of ru) ⟨v, H1, I1.tok _, ru, q⟩
theorem call_isEH (m1 : (a, oe) ∈ X.pn) (m2 : (dd, od) ∈ X.pn) (hz : Zc cls (some dd) oe) (hf : ∃ vs, oe.data = .fields vs) : CallR X (.builtin "isinstance") (rIsEP X.K a cls) := by
  intro pins s σ H xs us Q I r h
  obtain ⟨D, c, cv, b, rfl, C, rfl, hcv, e, q⟩ := h
  cases r with
  | cons rx rr =>
    cases rr with
    | cons rt rr =>
      cases rr
      cases rx
      have ec := hcv _ rt
      subst ec
      obtain ⟨cd, hc, _⟩ := PySem.W.any_some C.hd
      exact PySem.W.kia_one (PySem.W.kitx_exc (by rw [hc]; rfl) C.hg C.hk C.hs C.ha C.hn C.ht C.hm) I.kIn (inst_atH m1 m2 hz hf I) e (fun z => nomatch z) fun tk => ⟨.bl b, H, I.kept (t' := tk) fun _ _ z => z, rfl, q⟩
theorem call_isETH (m1 : (a, oe) ∈ X.pn) (m2 : (dd, od) ∈ X.pn) (hz : Zc cls (some dd) oe) (hf : ∃ vs, oe.data = .fields vs) : CallR X (.builtin "isinstance") (rIsETP X.K a cls) := by
  intro pins s σ H xs us Q I r h
  obtain ⟨D, tp, cs, ws, b, rfl, C, rfl, hT, k, e, q⟩ := h
  cases r with
  | cons rx rr =>
    cases rr with
    | cons rt rr =>
      cases rr
      cases rx
      cases rt
      obtain ⟨_, its, rv, o, h1, h2, n, h3⟩ := (show ObjOk X.prog X.w H s.heap tp (.tup cs) from I.hok tp _ hT)
      have e3 := ClsV.all k rv
      subst e3
      obtain ⟨oc, od', dt, sl⟩ := o
      simp only at h2 h3
      subst h2 h3
      obtain ⟨cd, hc, _⟩ := PySem.W.any_some C.hd
      exact PySem.W.kia_tup (PySem.W.kitx_exc (by rw [hc]; rfl) C.hg C.hk C.hs C.ha C.hn C.ht C.hm) I.kIn (inst_atH m1 m2 hz hf I) h1 e (fun z => nomatch z) fun tk => ⟨.bl b, H, I.kept (t' := tk) fun _ _ z => z, rfl, q⟩
end
section
variable {X : Cx} {a dd : Addr} {oe od : Obj} {cls : Value} {fs : List (Str × V)} {pn : List (Addr × Obj)}
theorem pe_xfK {e : Expr} {te : TE} {pos : Pos} {n : Str} (hz : Zc cls (some dd) oe) (hf : ∃ vs, oe.data = .fields vs) (ho : OdOk od fs) (he : PE (hold X ((a, oe) :: (dd, od) :: pn)) e te) (hb : attributeBase e n X.env (eval e X.env) = eval e X.env := by rfl) :
    PE (hold X ((a, oe) :: (dd, od) :: pn)) (.Attribute e n pos) (tXfP X.K a cls fs n te) := pe_xfH (X := hold X ((a, oe) :: (dd, od) :: pn)) List.mem_cons_self (List.mem_cons_of_mem _ List.mem_cons_self) hz hf ho he hb
theorem call_isEK (hz : Zc cls (some dd) oe) (hf : ∃ vs, oe.data = .fields vs) : CallR (hold X ((a, oe) :: (dd, od) :: pn)) (.builtin "isinstance") (rIsEP X.K a cls) := call_isEH (X := hold X ((a, oe) :: (dd, od) :: pn)) List.mem_cons_self (List.mem_cons_of_mem _ List.mem_cons_self) hz hf
theorem call_isETK (hz : Zc cls (some dd) oe) (hf : ∃ vs, oe.data = .fields vs) : CallR (hold X ((a, oe) :: (dd, od) :: pn)) (.builtin "isinstance") (rIsETP X.K a cls) := call_isETH (X := hold X ((a, oe) :: (dd, od) :: pn)) List.mem_cons_self (List.mem_cons_of_mem _ List.mem_cons_self) hz hf
end
/-! ### if c is None: return ..; rest -/
def tIfT (tc : TT) (t : TS) : TS := fun D σ H => tc σ H fun b H1 => b = true ∧ t { D with nx := fun _ _ => False } σ H1
def tIfF (tc : TT) (u : TS) : TS := fun D σ H => tc σ H fun b H1 => b = false ∧ u D σ H1
section
variable {X : Cx} {c : Expr} {a rest : List Stmt} {tc : TT} {t u : TS} {pos : Pos}
theorem pss_ifT (hc : PT X c tc) (ha : PSs X a t) : PSs X (.If c a [] pos :: rest) (tIfT tc t) := by
  refine ⟨fun pins s σ H D I h => ?_⟩
  refine wpAny_execs_cons (wpAny_If (thn (hc.run pins s σ H _ I h) fun d s1 ⟨H1, I1, q0, q1⟩ => ?_))
  subst q0
  refine thn (ha.run pins s1 σ H1 _ I1 q1) fun f s2 q => ?_
  cases f with
  | next => obtain ⟨_, _, _, z⟩ := q; exact z.elim
  | ret v => exact q
  | brk => exact q
  | cont => exact q
theorem pss_ifF (hc : PT X c tc) (hr : PSs X rest u) : PSs X (.If c a [] pos :: rest) (tIfF tc u) := by
  refine ⟨fun pins s σ H D I h => ?_⟩
  refine wpAny_execs_cons (wpAny_If (thn (hc.run pins s σ H _ I h) fun d s1 ⟨H1, I1, q0, q1⟩ => ?_))
  subst q0
  exact wpAny_execs_nil (hr.run pins s1 σ H1 D I1 q1)
end
section
variable {e : En} {E : XK} {te : TE} {tc : TT} {ta : TA} {t u tn : TS}
def sIfT (c : State → Option Bool) (s : State → Out) : State → Out := fun α => match c α with
  | some true => (match s α with | .nxt _ => .bad | o => o)
  | _ => .bad
theorem st_ifT {c : State → Option Bool} {s : State → Out} (hc : Evt e tc c) (hs : Sts e E t s) : Sts e E (tIfT tc t) (sIfT c s) := fun cn L S σ H α D R k => by
  unfold sIfT at k
  cases hb : c α with
  | none => rw [hb] at k; exact k.elim
  | some b =>
    rw [hb] at k
    cases b with
    | false => exact k.elim
    | true =>
      refine hc cn L S σ H α true R hb _ fun H1 e1 => ⟨rfl, ?_⟩
      refine hs cn L S σ H1 α _ (R.up e1) ?_
      dsimp only at k
      refine OutOk.mono (fz_same e1) ?_
      generalize s α = o at k
      cases o with
      | nxt β => exact k.elim
      | ret r β => exact k
      | brk β => exact k
      | cnt β => exact k
      | exc x => exact k
      | bad => exact k
/-- c holds an exception, so it is not None -/
def sIfA (i : Nat) (u : State → Out) : State → Out := fun α => match α[i]? with | some (some (.adr _)) => u α | _ => .bad
theorem st_ifA {i : Nat} {s : State → Out} (hs : Sts e E u s) : Sts e E (tIfF (tB (tIsN (tVar i))) u) (sIfA i s) := fun cn L S σ H α D R k => by
  unfold sIfA at k
  split at k
  · rename_i a ha
    obtain ⟨v, hv, rfl⟩ := R.slot i _ ha
    exact ⟨.ref a, hv, _, rfl, by simp, hs cn L S σ H α D R k⟩
  · exact k.elim
end
/-! ### try: x = f(..) except C as n: c = n; rest -/
open Classical in
noncomputable def exHold (j ic : Nat) (s : Addr → State → Out) : State → Out := fun α => if h : ∃ o, ∀ a : Addr, eraseO ic (s a (((α.set j (some (.adr a))).set ic (some (.adr a))).set j none)) = o then (match Classical.choose h with | .ret r β => .ret r β | .exc x => .exc x | _ => .bad) else .bad
theorem exHold_eq {j ic : Nat} {s : Addr → State → Out} {α : State} {r : RetV} {β : State} (h : ∀ a : Addr, eraseO ic (s a (((α.set j (some (.adr a))).set ic (some (.adr a))).set j none)) = .ret r β) : exHold j ic s α = .ret r β := by
  unfold exHold
  have hx : ∃ o, ∀ a : Addr, eraseO ic (s a (((α.set j (some (.adr a))).set ic (some (.adr a))).set j none)) = o := ⟨_, h⟩
  rw [dif_pos hx]
  have := Classical.choose_spec hx 0
  rw [h 0] at this
  rw [← this]
theorem exHold_spec {j ic : Nat} {s : Addr → State → Out} {α : State} (hb : exHold j ic s α ≠ .bad) (a : Addr) : eraseO ic (s a (((α.set j (some (.adr a))).set ic (some (.adr a))).set j none)) = exHold j ic s α ∧ (match exHold j ic s α with | .ret _ _ => True | .exc _ => True | _ => False) := by
  unfold exHold at hb ⊢
  split
  · rename_i h
    rw [dif_pos h] at hb
    have hs := Classical.choose_spec h a
    revert hs hb
    generalize Classical.choose h = o
    intro hb hs
    cases o with
    | ret r β => exact ⟨hs, trivial⟩
    | exc x => exact ⟨hs, trivial⟩
    | _ => exact absurd rfl hb
  · rename_i h
    rw [dif_neg h] at hb
    exact absurd rfl hb
noncomputable def sHold (i j ic : Nat) (m : List D → XR) (sa : State → Option (List D)) (caught : List String) (more : State → Out) (sx : Exn → Addr → State → Out) : State → Out := fun α => match bnd (sa α) (fun ds => some (m ds)) with
  | some (.ok d) => more (α.set i (some (.dat d)))
  | some (.exc x) => if x.name ∈ caught ∧ x.fs ≠ [] ∧ j < α.length then exHold j ic (sx x) α else .bad
  | _ => .bad
section
variable {e : En} {E : XK} {te : TE} {ta : TA} {tn : TS}
theorem out_eraseH {c : Cn} {D : Ends} {F : Hp} {j : Nat} : ∀ {o : Out}, (match eraseO j o with | .ret _ _ => True | .exc _ => True | _ => False) → OutOk e E c D F (eraseO j o) → OutOk e E c D F o
  | .nxt β, h, k => h.elim
  | .brk β, h, k => h.elim
  | .cnt β, h, k => h.elim
  | .ret r β, h, k => fun v L S σ H R rr => k v L S _ H (R.setN j) rr
  | .exc x, h, k => k
  | .bad, h, k => h.elim
theorem st_hold {i j ic : Nat} {m : List D → XR} {sa : State → Option (List D)} {more : State → Out} {sx : Exn → Addr → State → Out} {caught : List String} {c0 : Value} {K : PySem.W.Frag} {tr : Addr → Value → List (Str × V) → TS}
    (hx : ∀ nm ∈ caught, PySem.W.exmOne K (.ref (e.cls nm)) c0 = some true) (h : Eva e ta sa) (hm : Sts e E tn more)
    (hu : ∀ (x : Exn) (a : Addr) (gs : List (Str × V)) (F : Hp), x.name ∈ caught → RepF e F x.fs gs → Sts e E (tr a (.ref (e.cls x.name)) gs) (sx x a)) :
    Sts e E (fun D σ H => tAsg (tCallS (spX e m) (WE (wKeep K c0 j (fun a cls d => tAsg (tVar j) (gName ic)) (fun a cls d D σ H => ∃ dd fs, d = some dd ∧ H dd = some (.xd fs) ∧ tr a cls fs D σ (del H dd)) D)) ta) (gName i) { D with nx := tn D } σ H) (sHold i j ic m sa caught more sx) := fun c L S σ H α D R k => by
  unfold sHold at k
  cases hs : sa α with
  | none => rw [hs] at k; exact k.elim
  | some ds =>
    rw [hs] at k
    change OutOk e E c D (fz L H) (match some (m ds) with
      | some (.ok d) => more (α.set i (some (.dat d)))
      | some (.exc x) => if x.name ∈ caught ∧ x.fs ≠ [] ∧ j < α.length then exHold j ic (sx x) α else .bad
      | _ => .bad) at k
    refine h c L S σ H α ds R hs _ fun vs H1 e1 r1 => ?_
    have R1 := R.up e1
    refine ⟨L, ds, R1.dm, r1, fun d hd v H' s2 rv => ?_, fun x hd cls dd H' s2 xr fr => ?_, fun hd => ?_⟩
    · rw [hd] at k
      exact hm c L S _ H' _ D ((R1.up s2).setD rv) (k.mono (fz_same (e1.trans s2)))
    · rw [hd] at k
      dsimp only at k
      split at k
      · rename_i hc
        obtain ⟨h1, h2, hj⟩ := hc
        rw [← R.len] at hj
        obtain ⟨p, gs, rfl, hp, rf⟩ := xr.2.resolve_left h2
        have hp1 : H1 p = none := fr p rfl
        have s3 : Sm H1 (del H' p) := s2.del hp1 hp trivial
        have hnb : exHold j ic (sx x) α ≠ .bad := fun z => by rw [z] at k; exact k
        refine ⟨by rw [xr.1]; exact hx _ h1, fun a ha => ?_⟩
        refine ⟨.ref a, by rw [List.getElem?_set_self hj], ?_⟩
        refine ⟨p, gs, rfl, hp, ?_⟩
        rw [xr.1]
        refine hu x a gs _ h1 rf c L S _ _ _ _ ((((R1.up s3).setA j a).setA ic a).setN j) ?_
        obtain ⟨q1, q2⟩ := exHold_spec hnb a
        refine out_eraseH (j := ic) (by rw [q1]; exact q2) ?_
        rw [q1]
        exact k.mono (fz_same (e1.trans s3))
      · exact k.elim
    · rw [hd] at k; exact k.elim
end
section
variable {i j ic : Nat} {α : State} {sa : State → Option (List D)} {m : List D → XR} {more : State → Out} {sx : Exn → Addr → State → Out} {cs : List String} {c : State → Option Bool} {s : State → Out}
@[simp] theorem a_sHold : sHold i j ic m sa cs more sx α = (match bnd (sa α) (fun ds => some (m ds)) with
  | some (.ok d) => more (α.set i (some (.dat d)))
  | some (.exc x) => if x.name ∈ cs ∧ x.fs ≠ [] ∧ j < α.length then exHold j ic (sx x) α else .bad
  | _ => .bad) := (rfl)
@[simp] theorem a_sIfT : sIfT c s α = (match c α with | some true => (match s α with | .nxt _ => .bad | o => o) | _ => .bad) := (rfl)
@[simp] theorem a_sIfA : sIfA i s α = (match α[i]? with | some (some (.adr _)) => s α | _ => .bad) := (rfl)
end
end Ab
/-! ### list * int, the list a new one -/
namespace Ab
open PySem L2 PyProof.Rows PySem.Spec
def xRep (sl : State → Option (List D)) (sk : State → Option D) : State → Option (List D) := fun α => bnd (sl α) fun xs => match sk α with | some (.int k) => if rngOk k = true then lenOk (List.replicate k.toNat xs).flatten else none | _ => none
theorem Reps.rep {e : En} {F : Hp} {ds : List D} {vs : List V} (r : Reps e F ds vs) : ∀ n : Nat, Reps e F (List.replicate n ds).flatten (List.replicate n vs).flatten
  | 0 => by simp; exact Reps.nil
  | n + 1 => by rw [List.replicate_succ, List.replicate_succ, List.flatten_cons, List.flatten_cons]; exact r.append (Reps.rep r n)
theorem len_rep {β : Type} (xs : List β) : ∀ n : Nat, (List.replicate n xs).flatten.length = xs.length * n
  | 0 => by simp
  | n + 1 => by rw [List.replicate_succ, List.flatten_cons, List.length_append, len_rep xs n, Nat.mul_succ]; omega
theorem el_rep {e : En} {ta tb : TE} {sl : State → Option (List D)} {sk : State → Option D} (ha : Evl e ta sl) (hb : Evp e tb sk) : Evl e (tOp rRep ta tb) (xRep sl sk) := fun c L S σ H α d R q Q k => by
  obtain ⟨xs, h1, q⟩ := bnd_some q
  split at q
  · rename_i n hn
    split at q
    · rename_i hr
      obtain ⟨rfl, hz⟩ := lenOk_some q
      refine ha c L S σ H α xs R h1 _ fun p vs H1 e1 n1 hp r1 => ?_
      have R1 : Rel e c (p :: L) S σ H1 α := R.more e1 n1 hp
      refine hb c (p :: L) S σ H1 α _ R1 hn _ fun v H2 e2 r2 => ?_
      cases r2
      have hr := rngOk_iff.mp hr
      rw [len_rep] at hz
      have c1 : (-(2 ^ 63) : Int) ≤ -(2 ^ 62) := by decide
      have c2 : (2 ^ 62 : Int) ≤ 2 ^ 63 := by decide
      refine ⟨p, n, vs, rfl, rfl, e2.k _ _ hp (R1.nh p List.mem_cons_self), Int.le_trans c1 hr.1, Int.lt_of_lt_of_le hr.2 c2, by rw [r1.len]; exact sz_of hz, fun p2 hp2 => ?_⟩
      have s3 : Sm H2 (upd H2 p2 (.lst (List.replicate n.toNat vs).flatten)) := same_upd hp2
      have hH2 : H p2 = none := none_back R.inv (e1.trans e2) hp2
      refine k p2 _ _ (e1.trans (e2.trans s3)) hH2 upd_same ?_
      have r3 : Reps e (fz L H2) xs vs := (r1.up (fz_same e2)).up (fz_anti fun a m => List.mem_cons_of_mem _ m)
      exact (r3.rep n.toNat).up (fz_cons s3 hp2)
    · cases q
  · cases q
@[simp] theorem a_xRep {sl : State → Option (List D)} {sk : State → Option D} {α : State} : xRep sl sk α = bnd (sl α) fun xs => match sk α with | some (.int k) => if rngOk k = true then lenOk (List.replicate k.toNat xs).flatten else none | _ => none := (rfl)
end Ab
/-! ### t[k], t a tuple got with side effects -/
namespace Ab
open PySem L2 PyProof.Rows PySem.Spec
def rIxS (r : State → Res D) (sb : State → Option D) : State → Res D := fun α => match r α with
  | .ok (.tup xs) α1 => (match sb α1 with | some (.int i) => (match atI xs i with | some d => .ok d α1 | none => .bad) | _ => .bad)
  | .ok _ _ => .bad | .exc x => .exc x | .bad => .bad
theorem ee_ixS {e : En} {E : XK} {ta tb : TE} {r : State → Res D} {sb : State → Option D} (h : Eve e E ta r) (hb : Evp e tb sb) : Eve e E (tOp (rIxT e.K) ta tb) (rIxS r sb) := fun c L S σ H α R Q k kx nb => by
  unfold rIxS at k kx nb
  refine h c L S σ H α R _ (fun d α1 hs v H1 m1 R1 r1 => ?_) (fun x hx => kx x (by rw [hx])) (fun hb => nb (by rw [hb]))
  rw [hs] at k nb
  cases d with
  | tup xs =>
    dsimp only at k nb
    split at nb
    · rename_i i hi
      split at nb
      · rename_i d hd
        obtain ⟨a, vs, rfl, h1, h2⟩ := r1
        refine hb c L S σ H1 α1 _ R1 hi _ fun v H2 e2 r3 => ?_
        cases r3
        obtain ⟨v, q2, q3⟩ := atI_rep h2 hd
        simp only [hi, hd] at k
        exact ⟨a, vs, i, v, rfl, rfl, same_t fz_le (same_t (fz_same e2) h1), q2, k d α1 rfl v H2 (m1.trans (.of e2)) (R1.up e2) (q3.up (fz_same e2))⟩
      · exact absurd rfl nb
    · exact absurd rfl nb
  | _ => exact absurd rfl nb
@[simp] theorem a_rIxS {r : State → Res D} {sb : State → Option D} {α : State} : rIxS r sb α = (match r α with
  | .ok (.tup xs) α1 => (match sb α1 with | some (.int i) => (match atI xs i with | some d => .ok d α1 | none => .bad) | _ => .bad)
  | .ok _ _ => .bad | .exc x => .exc x | .bad => .bad) := (rfl)
end Ab
end
section
set_option maxRecDepth 100000
set_option maxHeartbeats 4000000
namespace Ab
open PySem PySem.SeqAt PySem.W PyProof.Rows
open AutoSeq1 (wpAny_loadPart')
open MeetsSeq MeetsSeq2 MeetsSeq3 SeqRoads2
variable [Hd]
/-! ### < of tuples and lists, where only the first places that differ need be comparable -/
def Same1 (e : Nat → Bool) (j : Nat) : Prop := ∀ i, i < j → e i = true
def LtAll (A : Around) (s : Shared) (xs ys : Array Value) (e r : Nat → Bool) : Prop :=
  (∀ j (h1 : j < xs.size) (h2 : j < ys.size), EqAt A s xs[j] ys[j] (e j)) ∧ ∀ j (h1 : j < xs.size) (h2 : j < ys.size), Same1 e j → e j = false → RcLt A s xs[j] ys[j] (r j)
def ltRes (e r : Nat → Bool) (n m : Nat) : Bool := firstLt e r (decide (n < m)) (List.range (min n m))
def ltRest (e r : Nat → Bool) (n m i : Nat) : Bool := firstLt e r (decide (n < m)) ((List.range (min n m)).drop i)
theorem ltRest_step {e r : Nat → Bool} {n m i : Nat} (h : i < min n m) : ltRest e r n m i = if e i = true then ltRest e r n m (i + 1) else r i := by
  unfold ltRest
  have hd : (List.range (min n m)).drop i = i :: (List.range (min n m)).drop (i + 1) := by simp [List.drop_eq_getElem_cons, h]
  rw [hd]; rfl
theorem ltRest_end {e r : Nat → Bool} {n m i : Nat} (h : min n m ≤ i) : ltRest e r n m i = decide (n < m) := by
  unfold ltRest
  rw [List.drop_of_length_le (by simpa using h)]; rfl
theorem tupLt (l b : Addr) (xs ys : Array Value) (n m : Nat) (dd dd2 : Option Addr) (sl sl2 : Array (Option Value)) (e r : Nat → Bool) :
    Meets (Builtin.«tuple.__lt__» ⟨[.ref l, .ref b], []⟩)
      (fun A R s => s.heap.get? l = some { cls := .type "tuple", dict := dd, data := .seq xs n, slots := sl } ∧ s.heap.get? b = some { cls := .type "tuple", dict := dd2, data := .seq ys m, slots := sl2 } ∧
        LtAll A.in1 s xs ys e r ∧ R (.ok (.ret (.bool (ltRest e r xs.size ys.size 0)))) s) :=
  .of_wp fun prog w A R s h => by
    obtain ⟨hp, g, d, tk, os⟩ := s
    obtain ⟨hl, hb, ⟨he, hr⟩, h⟩ := h
    have f2 := AutoSeq1.sub_tuple_tuple
    have hZ : (xs.toList.zip ys.toList).length = min xs.size ys.size := by simp
    wp_walk using wpAny_loadPart' hl, wpAny_loadPart' hb, wpAny_forIn_list _ (fun rest b s' => b.1 = none ∧ s' = ⟨hp, g, d, tk, os⟩ ∧ ∃ i, rest = (xs.toList.zip ys.toList).drop i ∧ Same1 e i ∧
      R (.ok (.ret (.bool (ltRest e r xs.size ys.size i)))) ⟨hp, g, d, tk, os⟩) _
    case turn =>
      rintro ⟨y, x⟩ rest b s' ⟨hb', rfl, i, hz, hs, hR⟩
      have hlt : i < (xs.toList.zip ys.toList).length := by
        rcases Nat.lt_or_ge i (xs.toList.zip ys.toList).length with h' | h'
        · exact h'
        · rw [List.drop_of_length_le h'] at hz; cases hz
      have hm : i < min xs.size ys.size := hZ ▸ hlt
      have h1 : i < xs.size := Nat.lt_of_lt_of_le hm (Nat.min_le_left _ _)
      have h2 : i < ys.size := Nat.lt_of_lt_of_le hm (Nat.min_le_right _ _)
      rw [List.drop_eq_getElem_cons hlt] at hz
      injection hz with hyx hrest
      have hy : y = xs[i] := by have := congrArg Prod.fst hyx; simpa using this
      have hx : x = ys[i] := by have := congrArg Prod.snd hyx; simpa using this
      subst hy hx
      rw [ltRest_step hm] at hR
      refine wpAny_bind (he i h1 h2 prog w _ _ ?_)
      cases hy : e i with
      | true =>
        rw [hy, if_pos rfl] at hR
        wp_walk
        exact ⟨rfl, rfl, i + 1, hrest, (fun k hk => (Nat.lt_succ_iff_lt_or_eq.mp hk).elim (hs k) fun q => q ▸ hy), hR⟩
      | false =>
        rw [hy, if_neg (by decide)] at hR
        show wpAny _ _ (rule "tuple.compare.by-the-first-pair-that-differs" >>= fun _ => richCompare CmpOp.Lt xs[i] ys[i] >>= fun v => ret v >>= fun q => pure (ForInStep.done (some q, ()))) _ _ _
        refine wpAny_bind (wpAny_rule (wpAny_bind (hr i h1 h2 hs hy prog w _ _ ?_)))
        wp_walk
        exact ⟨_, rfl, hR⟩
    case fin =>
      rintro ⟨b1, b2⟩ s' ⟨hb', rfl, i, hz, hs, hR⟩
      simp only at hb'
      subst hb'
      have hge : min xs.size ys.size ≤ i := by
        rcases Nat.lt_or_ge i (xs.toList.zip ys.toList).length with h' | h'
        · rw [List.drop_eq_getElem_cons h'] at hz; cases hz
        · exact hZ ▸ h'
      rw [ltRest_end hge] at hR
      wp_walk
      exact ⟨_, rfl, by simpa [Builtin.Tuple.tupleCompareSizes] using hR⟩
    case h =>
      exact ⟨rfl, rfl, 0, rfl, (fun _ h => absurd h (Nat.not_lt_zero _)), h⟩
theorem lstLoop (l b : Addr) (xs ys : Array Value) (n m : Nat) (dd dd2 : Option Addr) (sl sl2 : Array (Option Value)) (e r : Nat → Bool) (k : Nat) :
    ∀ i : Nat, min xs.size ys.size - i = k → Same1 e i → Meets (Builtin.«list.__eq__.loop» ⟨[.ref l, .ref b, rawInt i, rawInt 0], []⟩)
      (fun A R s => s.heap.get? l = some { cls := .type "list", dict := dd, data := .seq xs n, slots := sl } ∧ s.heap.get? b = some { cls := .type "list", dict := dd2, data := .seq ys m, slots := sl2 } ∧
        LtAll A.in1 s xs ys e r ∧ R (.ok (.ret (.bool (ltRest e r xs.size ys.size i)))) s) := by
  induction k with
  | zero =>
    intro i hk hs prog w A R s h
    obtain ⟨hp, g, d, tk, os⟩ := s
    obtain ⟨hl, hb, ⟨he, hr⟩, h⟩ := h
    rw [ltRest_end (by omega)] at h
    wp_walk using wpAny_loadPart' hl, wpAny_loadPart' hb
    by_cases h1 : xs.size ≤ i
    · have hi1 : xs[((i : Nat) : Int).toNat]? = none := by simp; omega
      rw [hi1]
      wp_walk using wpAny_loadPart' hl, wpAny_loadPart' hb
      exact h
    · have hlt : i < xs.size := by omega
      have hi1 : xs[((i : Nat) : Int).toNat]? = some xs[i] := by simp [hlt]
      have hi2 : ys[((i : Nat) : Int).toNat]? = none := by simp; omega
      rw [hi1, hi2]
      wp_walk using wpAny_loadPart' hl, wpAny_loadPart' hb
      exact h
  | succ k ih =>
    intro i hk hs prog w A R s h
    obtain ⟨hp, g, d, tk, os⟩ := s
    obtain ⟨hl, hb, ⟨he, hr⟩, h⟩ := h
    wp_walk using wpAny_loadPart' hl, wpAny_loadPart' hb
    have hm : i < min xs.size ys.size := by omega
    have hlt : i < xs.size := Nat.lt_of_lt_of_le hm (Nat.min_le_left _ _)
    have hlt2 : i < ys.size := Nat.lt_of_lt_of_le hm (Nat.min_le_right _ _)
    have hi1 : xs[((i : Nat) : Int).toNat]? = some xs[i] := by simp [hlt]
    have hi2 : ys[((i : Nat) : Int).toNat]? = some ys[i] := by simp [hlt2]
    have hc : ((i : Int) + 1) = ((i + 1 : Nat) : Int) := by push_cast; rfl
    rw [ltRest_step hm] at h
    rw [hi1, hi2]
    refine wpAny_bind (he i hlt hlt2 prog w _ _ ?_)
    cases hb' : e i with
    | true =>
      rw [hb', if_pos rfl] at h
      wp_walk
      rw [hc]
      exact ⟨plainId_quiet plain_eq_loop _, codeAny_builtin entry_eq_loop (by
        rw [Around.under_plainId plain_eq_loop _]
        exact ih (i + 1) (by omega) (fun k hk => (Nat.lt_succ_iff_lt_or_eq.mp hk).elim (hs k) fun q => q ▸ hb') prog w A R _ ⟨hl, hb, ⟨he, hr⟩, h⟩)⟩
    | false =>
      rw [hb', if_neg (by decide)] at h
      wp_walk using wpAny_loadPart' hl, wpAny_loadPart' hb
      rw [hi1, hi2]
      show wpAny _ _ (richCompare CmpOp.Lt xs[i] ys[i] >>= fun v => ret v) _ _ _
      refine wpAny_bind (hr i hlt hlt2 hs hb' prog w _ _ ?_)
      wp_walk
      exact h
theorem lstLt (l b : Addr) (xs ys : Array Value) (n m : Nat) (dd dd2 : Option Addr) (sl sl2 : Array (Option Value)) (e r : Nat → Bool) :
    Meets (Builtin.«list.__lt__» ⟨[.ref l, .ref b], []⟩)
      (fun A R s => s.heap.get? l = some { cls := .type "list", dict := dd, data := .seq xs n, slots := sl } ∧ s.heap.get? b = some { cls := .type "list", dict := dd2, data := .seq ys m, slots := sl2 } ∧
        LtAll A.in1 s xs ys e r ∧ R (.ok (.ret (.bool (ltRest e r xs.size ys.size 0)))) s) := by
  intro prog w A R s h
  obtain ⟨hp, g, d, tk, os⟩ := s
  obtain ⟨hl, hb, hr, h⟩ := h
  have f3 := AutoSeq1.sub_list_list
  wp_walk using wpAny_loadPart' hl, wpAny_loadPart' hb
  exact ⟨plainId_quiet plain_eq_loop _, codeAny_builtin entry_eq_loop (by
    rw [Around.under_plainId plain_eq_loop _]
    exact lstLoop l b xs ys n m dd dd2 sl sl2 e r _ 0 rfl (fun _ h => absurd h (Nat.not_lt_zero _)) prog w A R _ ⟨hl, hb, hr, h⟩)⟩
section
variable {A : Around} {s : Shared}
theorem rcTup {l b : Addr} {xs ys : Array Value} {e r : Nat → Bool} (hl : s.heap.IsTuple l xs) (hb : s.heap.IsTuple b ys) (hu : A.units < cLine) (h : LtAll A.in1 s xs ys e r) :
    RcLt A s (.ref l) (.ref b) (ltRest e r xs.size ys.size 0) := fun prog w E Q q => by
  obtain ⟨⟨cls, dd, data, sl⟩, ho, hc, n, hd⟩ := id hl
  obtain ⟨⟨cls2, dd2, data2, sl2⟩, ho2, hc2, n2, hd2⟩ := id hb
  simp only at hc hd hc2 hd2
  subst hc hd hc2 hd2
  refine richCompare_meets_room (op := .Lt) ⟨_, ho, rfl⟩ ⟨_, ho2, rfl⟩ F.slot_tuple_lt F.entry_tuple_lt (F.args_tuple_lt_2 _ _) (tupLt l b xs ys n n2 dd dd2 sl sl2 e r) ⟨ho, ho2, h, ?_⟩ hu
  exact ⟨(fun x => nomatch x), q⟩
theorem rcLst {l b : Addr} {xs ys : Array Value} {e r : Nat → Bool} (hl : s.heap.IsList l xs) (hb : s.heap.IsList b ys) (hu : A.units < cLine) (h : LtAll A.in1 s xs ys e r) :
    RcLt A s (.ref l) (.ref b) (ltRest e r xs.size ys.size 0) := fun prog w E Q q => by
  obtain ⟨⟨cls, dd, data, sl⟩, ho, hc, n, hd⟩ := id hl
  obtain ⟨⟨cls2, dd2, data2, sl2⟩, ho2, hc2, n2, hd2⟩ := id hb
  simp only at hc hd hc2 hd2
  subst hc hd hc2 hd2
  refine richCompare_meets_room (op := .Lt) ⟨_, ho, rfl⟩ ⟨_, ho2, rfl⟩ F.slot_list_lt F.entry_list_lt (F.args_list_lt_2 _ _) (lstLt l b xs ys n n2 dd dd2 sl sl2 e r) ⟨ho, ho2, h, ?_⟩ hu
  exact ⟨(fun x => nomatch x), q⟩
end
/-! ### data that can be compared -/
mutual
def alL : PyData → PyData → Bool
  | .bool _, .bool _ => true
  | .int _, .int _ => true
  | .str _, .str _ => true
  | .list xs, .list ys => alLs xs ys
  | .tuple xs, .tuple ys => alLs xs ys
  | _, _ => false
def alLs : List PyData → List PyData → Bool
  | x :: xs, y :: ys => alL x y && (!PyData.eqv x y || alLs xs ys)
  | [], _ => true
  | _ :: _, [] => true
end
theorem alLs_cons {x y : PyData} {xs ys : List PyData} (h : alLs (x :: xs) (y :: ys) = true) : alL x y = true ∧ (PyData.eqv x y = true → alLs xs ys = true) := by
  rw [alLs, Bool.and_eq_true, Bool.or_eq_true, Bool.not_eq_true'] at h
  exact ⟨h.1, fun e => h.2.elim (fun z => by rw [e] at z; cases z) id⟩
mutual
theorem tokL : ∀ (x y : PyData), alL x y = true → (PyData.eqv x y = true → keyToks x = keyToks y) ∧ (PyData.eqv x y = false → ∀ l m, PyProof.Rows.lexLt itemOrd (keyToks x ++ l) (keyToks y ++ m) = PyProof.Rows.lexLt itemOrd (keyToks x) (keyToks y))
  | .bool a, .bool b, h => toks_eqv _ _ (by simp [alike])
  | .int a, .int b, h => toks_eqv _ _ (by simp [alike])
  | .str a, .str b, h => toks_eqv _ _ (by simp [alike])
  | .list xs, .list ys, h => by
    have t := toksL xs ys (by simpa [alL] using h)
    simp only [keyToks, PyData.eqv]
    exact t
  | .tuple xs, .tuple ys, h => by
    have t := toksL xs ys (by simpa [alL] using h)
    simp only [keyToks, PyData.eqv]
    exact t
  | .none, y, h => by cases y <;> simp [alL] at h
  | .dict _, y, h => by cases y <;> simp [alL] at h
  | .bool _, .none, h => by simp [alL] at h
  | .bool _, .int _, h => by simp [alL] at h
  | .bool _, .str _, h => by simp [alL] at h
  | .bool _, .list _, h => by simp [alL] at h
  | .bool _, .tuple _, h => by simp [alL] at h
  | .bool _, .dict _, h => by simp [alL] at h
  | .int _, .none, h => by simp [alL] at h
  | .int _, .bool _, h => by simp [alL] at h
  | .int _, .str _, h => by simp [alL] at h
  | .int _, .list _, h => by simp [alL] at h
  | .int _, .tuple _, h => by simp [alL] at h
  | .int _, .dict _, h => by simp [alL] at h
  | .str _, .none, h => by simp [alL] at h
  | .str _, .bool _, h => by simp [alL] at h
  | .str _, .int _, h => by simp [alL] at h
  | .str _, .list _, h => by simp [alL] at h
  | .str _, .tuple _, h => by simp [alL] at h
  | .str _, .dict _, h => by simp [alL] at h
  | .list _, .none, h => by simp [alL] at h
  | .list _, .bool _, h => by simp [alL] at h
  | .list _, .int _, h => by simp [alL] at h
  | .list _, .str _, h => by simp [alL] at h
  | .list _, .tuple _, h => by simp [alL] at h
  | .list _, .dict _, h => by simp [alL] at h
  | .tuple _, .none, h => by simp [alL] at h
  | .tuple _, .bool _, h => by simp [alL] at h
  | .tuple _, .int _, h => by simp [alL] at h
  | .tuple _, .str _, h => by simp [alL] at h
  | .tuple _, .list _, h => by simp [alL] at h
  | .tuple _, .dict _, h => by simp [alL] at h
theorem toksL : ∀ (xs ys : List PyData), alLs xs ys = true → (PyData.eqvAll xs ys = true → keyToksAll xs = keyToksAll ys) ∧ (PyData.eqvAll xs ys = false → ∀ l m, PyProof.Rows.lexLt itemOrd (keyToksAll xs ++ l) (keyToksAll ys ++ m) = PyProof.Rows.lexLt itemOrd (keyToksAll xs) (keyToksAll ys))
  | [], [], _ => ⟨fun _ => rfl, fun e => absurd e (by simp [PyData.eqvAll])⟩
  | [], y :: ys, _ => ⟨fun e => absurd e (by simp [PyData.eqvAll]), fun _ l m => by
      simp only [keyToksAll, List.cons_append, List.nil_append]
      exact (lex_atom (by simp) _ _).trans (lex_atom (by simp) _ _).symm⟩
  | x :: xs, [], _ => ⟨fun e => absurd e (by simp [PyData.eqvAll]), fun _ l m => by
      simp only [keyToksAll, List.cons_append, List.nil_append]
      exact (lex_atom (by simp) _ _).trans (lex_atom (by simp) _ _).symm⟩
  | x :: xs, y :: ys, h => by
    obtain ⟨hx, hr⟩ := alLs_cons h
    obtain ⟨a1, a2⟩ := tokL x y hx
    rw [eqv_all_cons, toks_all_cons, toks_all_cons]
    cases he : PyData.eqv x y with
    | true =>
      obtain ⟨b1, b2⟩ := toksL xs ys (hr he)
      rw [a1 he, Bool.true_and]
      refine ⟨fun e => by rw [b1 e], fun e l m => ?_⟩
      simp only [List.cons_append, List.append_assoc]
      exact (lex_self (O := itemOrd) _ _ _).trans ((lex_pre _ _ _).trans ((b2 e l m).trans ((lex_pre _ _ _).symm.trans (lex_self (O := itemOrd) _ _ _).symm)))
    | false =>
      rw [Bool.false_and]
      refine ⟨fun e => absurd e Bool.false_ne_true, fun _ l m => ?_⟩
      simp only [List.cons_append, List.append_assoc]
      exact (lex_self (O := itemOrd) _ _ _).trans ((a2 he _ _).trans ((a2 he _ _).symm.trans (lex_self (O := itemOrd) _ _ _).symm))
end
theorem allYes {x y : PyData} {xs ys : List PyData} (h : alL x y = true) (e : PyData.eqv x y = true) : PyProof.Rows.lexLt itemOrd (keyToksAll (x :: xs)) (keyToksAll (y :: ys)) = PyProof.Rows.lexLt itemOrd (keyToksAll xs) (keyToksAll ys) := by
  rw [toks_all_cons, toks_all_cons, (tokL x y h).1 e]
  exact (lex_self (O := itemOrd) _ _ _).trans (lex_pre _ _ _)
theorem allNo {x y : PyData} {xs ys : List PyData} (h : alL x y = true) (e : PyData.eqv x y = false) : PyProof.Rows.lexLt itemOrd (keyToksAll (x :: xs)) (keyToksAll (y :: ys)) = dataLt x y := by
  rw [toks_all_cons, toks_all_cons]
  exact (lex_self (O := itemOrd) _ _ _).trans ((tokL x y h).2 e _ _)
theorem firstL : ∀ (xs ys : List PyData), alLs xs ys = true →
    firstLt (pairEq xs ys) (fun j => dataLt (xs.getD j .none) (ys.getD j .none)) (decide (xs.length < ys.length)) (List.range (min xs.length ys.length)) = PyProof.Rows.lexLt itemOrd (keyToksAll xs) (keyToksAll ys)
  | [], [], _ => by simp [firstLt, keyToksAll, lex_irrefl]
  | [], y :: ys, _ => by
    rw [toks_all_cons]
    simp only [keyToksAll]
    rw [lex_diff (O := itemOrd) (by simp)]
    simp [firstLt, itemLt]
  | x :: xs, [], _ => by
    rw [toks_all_cons]
    simp only [keyToksAll]
    rw [lex_diff (O := itemOrd) (by simp)]
    simp [firstLt, itemLt]
  | x :: xs, y :: ys, h => by
    obtain ⟨h1, h2⟩ := alLs_cons h
    have em : min (x :: xs).length (y :: ys).length = min xs.length ys.length + 1 := by
      rw [List.length_cons, List.length_cons]; omega
    have ed : decide ((x :: xs).length < (y :: ys).length) = decide (xs.length < ys.length) := by
      rw [List.length_cons, List.length_cons]
      exact decide_eq_decide.mpr (by omega)
    rw [em, ed, List.range_succ_eq_map]
    cases hx : PyData.eqv x y with
    | true =>
      have ih := firstL xs ys (h2 hx)
      rw [firstLt_yes (show pairEq (x :: xs) (y :: ys) 0 = true from hx), firstLt_map, allYes h1 hx, ← ih]
      rfl
    | false =>
      rw [firstLt_no (show pairEq (x :: xs) (y :: ys) 0 = false from hx), allNo h1 hx]
      rfl
mutual
/-- a < b of comparable data -/
theorem rcL : ∀ (da db : PyData) (A : Around) (s : Shared) (a b : Value) (as bs : List Addr), Reads s.heap a da as → Reads s.heap b db bs → da.canLay0 = true → db.canLay0 = true → alL da db = true → A.units + min da.depth db.depth < cLine → RcLt A s a b (dataLt da db)
  | .bool x, db, A, s, a, b, as, bs, ra, rb, ca, cb, h, hu => by
    cases db with
    | bool y => exact rcLt_alike _ _ A s a b as bs ra rb (by simp [alike]) (by simp) hu
    | _ => exact absurd h (by simp [alL])
  | .int x, db, A, s, a, b, as, bs, ra, rb, ca, cb, h, hu => by
    cases db with
    | int y => exact rcLt_alike _ _ A s a b as bs ra rb (by simp [alike]) (by simp) hu
    | _ => exact absurd h (by simp [alL])
  | .str x, db, A, s, a, b, as, bs, ra, rb, ca, cb, h, hu => by
    cases db with
    | str y => exact rcLt_alike _ _ A s a b as bs ra rb (by simp [alike]) (by simp) hu
    | _ => exact absurd h (by simp [alL])
  | .list xs, db, A, s, a, b, as, bs, ra, rb, ca, cb, h, hu => by
    cases db with
    | list ys =>
      have hal : alLs xs ys = true := by simpa [alL] using h
      have ca' : PyData.canLayAll0 xs = true := by simpa [PyData.canLay0] using ca
      have cb' : PyData.canLayAll0 ys = true := by simpa [PyData.canLay0] using cb
      cases ra with
      | @list l o vs n _ as₁ h1 h2 h3 h4 =>
        cases rb with
        | @list l' o' vs' n' _ bs₁ k1 k2 k3 k4 =>
          have n1 : vs.size = xs.length := by simpa using ReadsAll.length _ _ _ h4
          have n2 : vs'.size = ys.length := by simpa using ReadsAll.length _ _ _ k4
          rw [dataLt_list, ← firstL xs ys hal, ← n1, ← n2]
          refine rcLst ⟨_, h1, h2, _, h3⟩ ⟨_, k1, k2, _, k3⟩ (room_here hu) ⟨fun j j1 j2 => ?_, fun j j1 j2 hp hj => ?_⟩
          · have := eqAt_readsAll xs ys A.in1 s vs.toList vs'.toList _ _ h4 k4 ca' cb' (room_in hu) j (by simpa using j1) (by simpa using j2)
            simpa using this
          · have := rcLs xs ys A.in1 s vs.toList vs'.toList _ _ h4 k4 ca' cb' hal (room_in hu) j (by simpa using j1) (by simpa using j2) hp hj
            simpa using this
    | _ => exact absurd h (by simp [alL])
  | .tuple xs, db, A, s, a, b, as, bs, ra, rb, ca, cb, h, hu => by
    cases db with
    | tuple ys =>
      have hal : alLs xs ys = true := by simpa [alL] using h
      have ca' : PyData.canLayAll0 xs = true := by simpa [PyData.canLay0] using ca
      have cb' : PyData.canLayAll0 ys = true := by simpa [PyData.canLay0] using cb
      cases ra with
      | @tuple l o vs n _ as₁ h1 h2 h3 h4 =>
        cases rb with
        | @tuple l' o' vs' n' _ bs₁ k1 k2 k3 k4 =>
          have n1 : vs.size = xs.length := by simpa using ReadsAll.length _ _ _ h4
          have n2 : vs'.size = ys.length := by simpa using ReadsAll.length _ _ _ k4
          rw [dataLt_tuple, ← firstL xs ys hal, ← n1, ← n2]
          refine rcTup ⟨_, h1, h2, _, h3⟩ ⟨_, k1, k2, _, k3⟩ (room_here hu) ⟨fun j j1 j2 => ?_, fun j j1 j2 hp hj => ?_⟩
          · have := eqAt_readsAll xs ys A.in1 s vs.toList vs'.toList _ _ h4 k4 ca' cb' (room_in hu) j (by simpa using j1) (by simpa using j2)
            simpa using this
          · have := rcLs xs ys A.in1 s vs.toList vs'.toList _ _ h4 k4 ca' cb' hal (room_in hu) j (by simpa using j1) (by simpa using j2) hp hj
            simpa using this
    | _ => exact absurd h (by simp [alL])
  | .none, db, _, _, _, _, _, _, _, _, _, _, h, _ => absurd h (by cases db <;> simp [alL])
  | .dict _, db, _, _, _, _, _, _, _, _, _, _, h, _ => absurd h (by cases db <;> simp [alL])
theorem rcLs : ∀ (xs ys : List PyData) (A : Around) (s : Shared) (vs ws : List Value) (as bs : List Addr), ReadsAll s.heap vs xs as → ReadsAll s.heap ws ys bs → PyData.canLayAll0 xs = true → PyData.canLayAll0 ys = true → alLs xs ys = true →
    A.units + min (PyData.depthAll xs) (PyData.depthAll ys) < cLine → ∀ j (h1 : j < vs.length) (h2 : j < ws.length), Same1 (pairEq xs ys) j → pairEq xs ys j = false → RcLt A s vs[j] ws[j] (dataLt (xs.getD j .none) (ys.getD j .none))
  | [], _, _, _, _, _, _, _, ra, _, _, _, _, _, j, h1, _, _, _ => by cases ra; exact absurd h1 (Nat.not_lt_zero _)
  | _ :: _, [], _, _, _, _, _, _, _, rb, _, _, _, _, j, _, h2, _, _ => by cases rb; exact absurd h2 (Nat.not_lt_zero _)
  | x :: xs, y :: ys, A, s, _, _, _, _, ra, rb, ca, cb, h, hu, j, h1, h2, hp, hj => by
    have ca' : x.canLay0 = true ∧ PyData.canLayAll0 xs = true := by simpa [PyData.canLayAll0] using ca
    have cb' : y.canLay0 = true ∧ PyData.canLayAll0 ys = true := by simpa [PyData.canLayAll0] using cb
    cases ra with
    | cons r rs =>
      cases rb with
      | cons r' rs' =>
        cases j with
        | zero => exact rcL x y A s _ _ _ _ r r' ca'.1 cb'.1 (alLs_cons h).1 (room_head hu)
        | succ j =>
          refine rcLs xs ys A s _ _ _ _ rs rs' ca'.2 cb'.2 ((alLs_cons h).2 (hp 0 (Nat.succ_pos _))) (room_tail hu) j (Nat.lt_of_succ_lt_succ h1) (Nat.lt_of_succ_lt_succ h2) (fun i hi => ?_) hj
          exact hp (i + 1) (Nat.succ_lt_succ hi)
end
end Ab
end
section
set_option maxRecDepth 100000
set_option maxHeartbeats 1000000
namespace Ab
open PySem L2 PyProof.Rows PySem.Spec
variable [Hd]
/-! ### own dicts become data: from here on they are locked -/
def tLockP (t : TS) : TS := fun D σ H => ∃ d u, H d = some u ∧ Mut (some u) ∧ ∀ od, t D σ (upd H d (.frz od u))
theorem pss_lockP {X : Cx} {body : List Stmt} {t : TS} (h : PSs X body t) : PSs X body (tLockP t) := by
  refine ⟨fun pins s σ H D I hw => ?_⟩
  obtain ⟨d, u, hd, mu, hw⟩ := hw
  obtain ⟨od, I1⟩ := I.lock hd mu
  exact h.run pins s σ _ D I1 (hw od)
def frzK (i : Nat) (α : State) : Option State := match α[i]? with
  | some (some (.own (.dic kvs))) => some (α.set i (some (.dat (.dic kvs))))
  | _ => none
def sFrzK (i : Nat) (s : State → Out) : State → Out := fun α => match frzK i α with | some β => s β | none => .bad
section
variable {e : En} {E : XK} {te tk tx ta : TE} {ts : TS} {s : State → Out}
theorem Rel.frzW {c : Cn} {L S : List Addr} {σ : L2.St} {H : Hp} {α : State} (r : Rel e c L S σ H α) {i : Nat} {ct : Ct} {d : D} {p : Addr} {o : HO} (ha : α[i]? = some (some (.own ct))) (h1 : σ[i]? = some (some (.ref p))) (n0 : c.H0 p = none) (mL : p ∈ L)
    (hd : Rep e (fz (L.filter (· ≠ p)) (upd H p o)) d (.ref p)) : Rel e c (L.filter (· ≠ p)) (S.filter (· ≠ p)) σ (upd H p o) (α.set i (some (.dat d))) ∧ Same (fz L H) (fz (L.filter (· ≠ p)) (upd H p o)) := by
  have anti : Same (fz L H) (fz (L.filter (· ≠ p)) (upd H p o)) := fun a u q => by
    obtain ⟨m, nh⟩ := fz_nh q
    have hne : a ≠ p := fun z => m (z ▸ mL)
    exact fz_at (by rw [upd_ne hne]; exact fz_le _ _ q) (fun z => m (List.mem_filter.mp z).1) nh
  have iv : Hd.inv (upd H p o) := by
    obtain ⟨p', o', hp', mS, ho', rcO⟩ := r.at (ct := ct) (by rw [ha]; rfl)
    rw [h1] at hp'; cases hp'
    exact Hd.chg r.inv (r.nh p mL) ho' (RepC.pl rcO)
  have slotp : ∀ j, isOwn α[j]? = true → i ≠ j → σ[j]? ≠ some (some (.ref p)) := fun j hj hn z => hn (r.sep i j p (by rw [ha]; rfl) hj h1 z)
  refine ⟨⟨fun j a q => ?_, fun j k q hj hk sj sk => ?_, iv, r.h1, fun q m => r.nh q (List.mem_filter.mp m).1, fun q m z => ?_, fun q m => ?_, fun q m => ?_, fun q m => r.l1 q (List.mem_filter.mp m).1, fun q m => r.s1 q (List.mem_filter.mp m).1, ⟨fun a u q n nh => ?_, fun _ => iv⟩, r.s0, r.d0, by rw [List.length_set]; exact r.len⟩, anti⟩
  · rw [getset] at q
    by_cases e1 : i = j
    · rw [if_pos e1] at q
      split at q
      · cases q
        subst e1
        exact ⟨_, h1, hd⟩
      · cases q
    · rw [if_neg e1] at q
      obtain ⟨v, k1, k2⟩ := r.slot j a q
      refine ⟨v, k1, ?_⟩
      cases a with
      | dat d => exact Rep.up (d := d) k2 anti
      | adr _ => exact k2
      | own ct =>
        obtain ⟨p', o', rfl, m, n, ho, rc⟩ := k2
        have : p' ≠ p := fun z => slotp j (by rw [q]; rfl) e1 (by rw [k1, z])
        exact ⟨p', o', rfl, List.mem_filter.mpr ⟨m, by simpa using this⟩, n, by rw [upd_ne this]; exact ho, rc.up anti⟩
      | inn ct =>
        obtain ⟨p', o', rfl, m, n, ho, rc⟩ := k2
        have : p' ≠ p := fun z => slotp j (by rw [q]; rfl) e1 (by rw [k1, z])
        exact ⟨p', o', rfl, List.mem_filter.mpr ⟨m, by simpa using this⟩, n, by rw [upd_ne this]; exact ho, rc.up anti⟩
  · have un : ∀ j, isOwn (α.set i (some (.dat d)))[j]? = true → isOwn α[j]? = true := fun j hj => by
      rw [getset] at hj
      split at hj
      · split at hj <;> simp [isOwn] at hj
      · exact hj
    exact r.sep j k q (un j hj) (un k hk) sj sk
  · obtain ⟨m1, m2⟩ := List.mem_filter.mp m
    have : q ≠ p := by simpa using m2
    rw [upd_ne this] at z
    exact r.dom q m1 z
  · obtain ⟨m1, m2⟩ := List.mem_filter.mp m
    exact List.mem_filter.mpr ⟨r.sub q m1, m2⟩
  · refine List.mem_filter.mpr ⟨r.l0 q m, ?_⟩
    simp only [decide_eq_true_eq]
    rintro rfl
    exact r.d0 q m n0
  · have hne : a ≠ p := fun z => by rw [z, n0] at q; cases q
    rw [upd_ne hne]
    exact r.md.k a u q n nh
theorem st_frzK {i : Nat} (h : Sts e E ts s) : Sts e E (tLockP ts) (sFrzK i s) := fun c L S σ H α D R k => by
  unfold sFrzK frzK at k
  split at k
  · rename_i β hβ
    split at hβ
    · rename_i kvs hx
      cases hβ
      obtain ⟨v, h1, p, o, rfl, mS, n0, ho, gs, rfl, rr⟩ := R.slot i _ hx
      have mL := R.sub p mS
      refine ⟨p, .dK gs, ho, trivial, fun od => ?_⟩
      have anti : Same (fz L H) (fz (L.filter (· ≠ p)) (upd H p (.frz od (.dK gs)))) := fz_swap mL
      have hin : fz (L.filter (· ≠ p)) (upd H p (.frz od (.dK gs))) p = some (.frz od (.dK gs)) := fz_out (R.nh p mL)
      obtain ⟨R2, _⟩ := R.frzW (d := .dic kvs) hx h1 n0 mL ⟨p, od, gs, rfl, hin, RepD.mono anti _ _ rr.toD⟩
      exact h c _ _ σ _ _ D R2 (OutOk.mono anti k)
    · cases hβ
  · exact k.elim
/-! ### a dict that is data, read -/
def EvqD (e : En) (te : TE) (s : State → Option (List (Key × D))) : Prop := ∀ c L S σ H α kvs, Rel e c L S σ H α → s α = some kvs → ∀ Q : VK, (∀ a od gs H', Sm H H' → fz L H' a = some (.frz od (.dK gs)) → RepD e (fz L H') kvs gs → Q (.ref a) H') → te σ H Q
def qD (s : State → Option D) : State → Option (List (Key × D)) := fun α => match s α with | some (.dic kvs) => some kvs | _ => none
theorem eq_D {sd : State → Option D} (h : Evp e te sd) : EvqD e te (qD sd) := fun c L S σ H α kvs R q Q k => by
  unfold qD at q
  split at q
  · rename_i ys hs
    cases q
    refine h c L S σ H α _ R hs _ fun v H' e1 ⟨a, od, gs, e2, r1, r2⟩ => ?_
    subst e2
    exact k a od gs H' e1 r1 r2
  · cases q
theorem rd_frz {L : List Addr} {H : Hp} {a : Addr} {od : Obj} {u : HO} (h : fz L H a = some (.frz od u)) : Rd H a u := .inr ⟨od, fz_le _ _ h⟩
theorem dget_frz {L : List Addr} {H H2 : Hp} {a : Addr} {od : Obj} {gs : List (Key × V)} {k : Key} (h : fz L H a = some (.frz od (.dK gs))) (s : Sm H H2) : DGet H2 a (kV k) (valV gs k) := .inl ⟨gs, k, .inr ⟨od, s.k _ _ (fz_le _ _ h) (fz_nh h).2⟩, rfl, rfl⟩
variable {sq : State → Option (List (Key × D))} {sk sx : State → Option D}
def xGetD (sq : State → Option (List (Key × D))) (sk : State → Option D) : State → Option D := fun α => bnd (sq α) fun kvs => bnd (bnd (sk α) keyD) fun k => valD k kvs
def xInD (sk : State → Option D) (sq : State → Option (List (Key × D))) : State → Option D := fun α => bnd (bnd (sk α) keyD) fun k => bnd (sq α) fun kvs => some (.bl (valD k kvs).isSome)
def xNotInD (sk : State → Option D) (sq : State → Option (List (Key × D))) : State → Option D := fun α => bnd (bnd (sk α) keyD) fun k => bnd (sq α) fun kvs => some (.bl (!(valD k kvs).isSome))
def xGet1D (sq : State → Option (List (Key × D))) (sk : State → Option D) : State → Option D := fun α => bnd (sq α) fun kvs => bnd (bnd (sk α) keyD) fun k => some ((valD k kvs).getD .non)
def xGet2D (sq : State → Option (List (Key × D))) (sk sx : State → Option D) : State → Option D := fun α => bnd (sq α) fun kvs => bnd (bnd (sk α) keyD) fun k => bnd (sx α) fun x => some ((valD k kvs).getD x)
def xKeysD (sq : State → Option (List (Key × D))) : State → Option (List D) := fun α => bnd (sq α) fun kvs => if kvs.length ≤ 100000 then some (kvs.map fun kv => keyOf kv.1) else none
theorem ev_getD (h : EvqD e te sq) (hk : Evp e tk sk) : Evp e (tDGet te tk) (xGetD sq sk) := fun c L S σ H α d R q Q k => by
  obtain ⟨kvs, h1, q⟩ := bnd_some q
  obtain ⟨kk, h2, q⟩ := bnd_some q
  obtain ⟨dk, h3, h4⟩ := bnd_some h2
  refine h c L S σ H α kvs R h1 _ fun a od gs H1 e1 ha r1 => ?_
  refine hk c L S σ H1 α dk (R.up e1) h3 _ fun y H2 e2 ry => ?_
  have hy := rep_key h4 ry
  subst hy
  obtain ⟨v, h5, h6⟩ := (repK_val (k := kk) r1.toK).1 d q
  exact ⟨a, v, rfl, by rw [← h5]; exact dget_frz ha e2, k v H2 (e1.trans e2) (h6.up (fz_same e2))⟩
theorem isSomeV {F : Hp} {kvs : List (Key × D)} {gs : List (Key × V)} (r : RepD e F kvs gs) (k : Key) : (valV gs k).isSome = (valD k kvs).isSome := by
  obtain ⟨i1, i2⟩ := repK_val (k := k) r.toK
  cases hv : valD k kvs with
  | none => rw [i2 hv]; rfl
  | some d => obtain ⟨v, h5, _⟩ := i1 d hv; rw [h5]; rfl
theorem ev_inD (hk : Evp e tk sk) (h : EvqD e te sq) : Evp e (tDIn tk te) (xInD sk sq) := fun c L S σ H α d R q Q k => by
  obtain ⟨kk, h2, q⟩ := bnd_some q
  obtain ⟨kvs, h1, q⟩ := bnd_some q
  obtain ⟨dk, h3, h4⟩ := bnd_some h2
  cases q
  refine hk c L S σ H α dk R h3 _ fun y H1 e1 ry => ?_
  have hy := rep_key h4 ry
  subst hy
  refine h c L S σ H1 α kvs (R.up e1) h1 _ fun a od gs H2 e2 ha r1 => ?_
  exact ⟨a, _, rfl, dget_frz ha (Sm.refl _), k _ H2 (e1.trans e2) (by rw [isSomeV r1]; exact rfl)⟩
theorem ev_notInD (hk : Evp e tk sk) (h : EvqD e te sq) : Evp e (tDNotIn tk te) (xNotInD sk sq) := fun c L S σ H α d R q Q k => by
  obtain ⟨kk, h2, q⟩ := bnd_some q
  obtain ⟨kvs, h1, q⟩ := bnd_some q
  obtain ⟨dk, h3, h4⟩ := bnd_some h2
  cases q
  refine hk c L S σ H α dk R h3 _ fun y H1 e1 ry => ?_
  have hy := rep_key h4 ry
  subst hy
  refine h c L S σ H1 α kvs (R.up e1) h1 _ fun a od gs H2 e2 ha r1 => ?_
  exact ⟨a, _, rfl, dget_frz ha (Sm.refl _), k _ H2 (e1.trans e2) (by rw [isSomeV r1]; exact rfl)⟩
theorem getD_rep {F : Hp} {kvs : List (Key × D)} {gs : List (Key × V)} (r : RepD e F kvs gs) (k : Key) {x : D} {z : V} (rx : Rep e F x z) : Rep e F ((valD k kvs).getD x) ((valV gs k).getD z) := by
  obtain ⟨i1, i2⟩ := repK_val (k := k) r.toK
  cases hv : valD k kvs with
  | none => rw [i2 hv]; exact rx
  | some d => obtain ⟨v, h5, h6⟩ := i1 d hv; rw [h5]; exact h6
theorem isD_frz {L : List Addr} {H : Hp} {a : Addr} {od : Obj} {gs : List (Key × V)} (h : fz L H a = some (.frz od (.dK gs))) : IsD H a := .inl ⟨gs, rd_frz h⟩
theorem ev_get1D (h : EvqD e te sq) (hk : Evp e tk sk) : Evp e (tDGet1 te tk) (xGet1D sq sk) := fun c L S σ H α d R q Q k => by
  obtain ⟨kvs, h1, q⟩ := bnd_some q
  obtain ⟨kk, h2, q⟩ := bnd_some q
  obtain ⟨dk, h3, h4⟩ := bnd_some h2
  cases q
  refine h c L S σ H α kvs R h1 _ fun a od gs H1 e1 ha r1 => ⟨a, rfl, isD_frz ha, ?_⟩
  refine hk c L S σ H1 α dk (R.up e1) h3 _ fun y H2 e2 ry => ?_
  have hy := rep_key h4 ry
  subst hy
  exact ⟨_, dget_frz ha e2, k _ H2 (e1.trans e2) (getD_rep (RepD.mono (fz_same e2) _ _ r1) kk rfl)⟩
theorem ev_get2D (h : EvqD e te sq) (hk : Evp e tk sk) (hx : Evp e tx sx) : Evp e (tDGet2 te tk tx) (xGet2D sq sk sx) := fun c L S σ H α d R q Q k => by
  obtain ⟨kvs, h1, q⟩ := bnd_some q
  obtain ⟨kk, h2, q⟩ := bnd_some q
  obtain ⟨dx, h5, q⟩ := bnd_some q
  obtain ⟨dk, h3, h4⟩ := bnd_some h2
  cases q
  refine h c L S σ H α kvs R h1 _ fun a od gs H1 e1 ha r1 => ⟨a, rfl, isD_frz ha, ?_⟩
  refine hk c L S σ H1 α dk (R.up e1) h3 _ fun y H2 e2 ry => ?_
  have hy := rep_key h4 ry
  subst hy
  refine hx c L S σ H2 α dx ((R.up e1).up e2) h5 _ fun z H3 e3 rz => ?_
  exact ⟨_, dget_frz ha (e2.trans e3), k _ H3 ((e1.trans e2).trans e3) (getD_rep (RepD.mono (fz_same (e2.trans e3)) _ _ r1) kk rz)⟩
theorem el_keysD (h : EvqD e te sq) : Evl e (tCB (fun xs H Q => ∃ (a : Addr) (kvs : List (Key × V)), xs = [.ref a] ∧ Rd H a (.dK kvs) ∧ ∀ p, H p = none → Q (.ref p) (upd H p (.lst (kvs.map fun kv => kV kv.1)))) (tCons te tNil)) (xKeysD sq) := fun c L S σ H α xs R q Q k => by
  obtain ⟨kvs, h1, q⟩ := bnd_some q
  split at q
  · cases q
    refine h c L S σ H α kvs R h1 _ fun a od gs H1 e1 ha r1 => ?_
    refine ⟨a, gs, rfl, rd_frz ha, fun q hq => ?_⟩
    have s4 : Sm H1 (upd H1 q (.lst (gs.map fun kv => kV kv.1))) := .of fun b o z => by rw [upd_ne (ne_of_none z hq)]; exact z
    exact k q _ _ (e1.trans s4) (none_back R.inv e1 hq) upd_same ((repK_keys r1.toK).up (fz_cons s4 hq))
  · cases q
/-! ### an own dict lent for a flat answer -/
def lendK (i : Nat) (α : State) : Option State := match α[i]? with
  | some (some (.own (.dic kvs))) => some (α.set i (some (.dat (.dic kvs))))
  | some (some (.inn (.dic kvs))) => some (α.set i (some (.dat (.dic kvs))))
  | _ => none
def xLendK (i : Nat) (s : State → Option D) : State → Option D := fun α => bnd (lendK i α) fun β => match s β with | some d => if flat d = true then some d else none | none => none
theorem Rel.lendW {c : Cn} {L S : List Addr} {σ : L2.St} {H : Hp} {α : State} (r : Rel e c L S σ H α) {i : Nat} {ct : Ct} {d : D} {p : Addr} {o : HO} (ha : ctOf α[i]? = some ct) (h1 : σ[i]? = some (some (.ref p))) (mL : p ∈ L)
    (hd : Rep e (fz (L.filter (· ≠ p)) (upd H p o)) d (.ref p)) : Rel e ⟨[], [], hz (upd H p o), σ⟩ (L.filter (· ≠ p)) (S.filter (· ≠ p)) σ (upd H p o) (α.set i (some (.dat d))) := by
  have anti : Same (fz L H) (fz (L.filter (· ≠ p)) (upd H p o)) := fun a u q => by
    obtain ⟨m, nh⟩ := fz_nh q
    have hne : a ≠ p := fun z => m (z ▸ mL)
    exact fz_at (by rw [upd_ne hne]; exact fz_le _ _ q) (fun z => m (List.mem_filter.mp z).1) nh
  have iv : Hd.inv (upd H p o) := by
    obtain ⟨p', o', hp', mS, ho', rcO⟩ := r.at (ct := ct) ha
    rw [h1] at hp'; cases hp'
    exact Hd.chg r.inv (r.nh p mL) ho' (RepC.pl rcO)
  have slotp : ∀ j, isOwn α[j]? = true → i ≠ j → σ[j]? ≠ some (some (.ref p)) := fun j hj hn z => hn (r.sep i j p (isOwn_ct ha) hj h1 z)
  refine ⟨fun j a q => ?_, fun j k q hj hk sj sk => ?_, iv, hz_al iv, fun q m => r.nh q (List.mem_filter.mp m).1, fun q m z => ?_, fun q m => ?_, (fun q m => nomatch m), (fun q m => .inr (hz_none (r.nh q (List.mem_filter.mp m).1))), (fun q m => .inr (hz_none (r.nh q (r.sub q (List.mem_filter.mp m).1)))), hz_mod iv, (fun q m => nomatch m), (fun q m => nomatch m), by rw [List.length_set]; exact r.len⟩
  · rw [getset] at q
    by_cases e1 : i = j
    · rw [if_pos e1] at q
      split at q
      · cases q
        subst e1
        exact ⟨_, h1, hd⟩
      · cases q
    · rw [if_neg e1] at q
      obtain ⟨v, k1, k2⟩ := r.slot j a q
      refine ⟨v, k1, ?_⟩
      cases a with
      | dat d => exact Rep.up (d := d) k2 anti
      | adr _ => exact k2
      | own ct =>
        obtain ⟨p', o', rfl, m, n, ho, rc⟩ := k2
        have : p' ≠ p := fun z => slotp j (by rw [q]; rfl) e1 (by rw [k1, z])
        exact ⟨p', o', rfl, List.mem_filter.mpr ⟨m, by simpa using this⟩, hz_none (r.nh _ (r.sub _ m)), by rw [upd_ne this]; exact ho, rc.up anti⟩
      | inn ct =>
        obtain ⟨p', o', rfl, m, n, ho, rc⟩ := k2
        have : p' ≠ p := fun z => slotp j (by rw [q]; rfl) e1 (by rw [k1, z])
        exact ⟨p', o', rfl, List.mem_filter.mpr ⟨m, by simpa using this⟩, k1, by rw [upd_ne this]; exact ho, rc.up anti⟩
  · have un : ∀ j, isOwn (α.set i (some (.dat d)))[j]? = true → isOwn α[j]? = true := fun j hj => by
      rw [getset] at hj
      split at hj
      · split at hj <;> simp [isOwn] at hj
      · exact hj
    exact r.sep j k q (un j hj) (un k hk) sj sk
  · obtain ⟨m1, m2⟩ := List.mem_filter.mp m
    have : q ≠ p := by simpa using m2
    rw [upd_ne this] at z
    exact r.dom q m1 z
  · obtain ⟨m1, m2⟩ := List.mem_filter.mp m
    exact List.mem_filter.mpr ⟨r.sub q m1, m2⟩
theorem ev_lendK (i : Nat) {sd : State → Option D} (h : Evp e te sd) : Evp e (tLockE te) (xLendK i sd) := fun c L S σ H α d R q Q k => by
  obtain ⟨β, hβ, q⟩ := bnd_some q
  obtain ⟨kvs, hc, rfl⟩ : ∃ kvs, ctOf α[i]? = some (.dic kvs) ∧ β = α.set i (some (.dat (.dic kvs))) := by
    unfold lendK at hβ
    split at hβ
    · rename_i kvs hx; cases hβ; exact ⟨kvs, by rw [hx]; rfl, rfl⟩
    · rename_i kvs hx; cases hβ; exact ⟨kvs, by rw [hx]; rfl, rfl⟩
    · cases hβ
  obtain ⟨p, o, h1, mS, ho, gs, rfl, rr⟩ := R.at hc
  have mL := R.sub p mS
  refine ⟨p, .dK gs, ho, trivial, fun od => ?_⟩
  have anti : Same (fz L H) (fz (L.filter (· ≠ p)) (upd H p (.frz od (.dK gs)))) := fz_swap mL
  have hin : fz (L.filter (· ≠ p)) (upd H p (.frz od (.dK gs))) p = some (.frz od (.dK gs)) := fz_out (R.nh p mL)
  have R2 := R.lendW (d := .dic kvs) hc h1 mL ⟨p, od, gs, rfl, hin, RepD.mono anti _ _ rr.toD⟩
  split at q
  · rename_i d' hs
    split at q
    · rename_i hf
      cases q
      refine h _ _ _ σ _ _ d R2 hs _ fun v H' e1 r1 => ⟨e1.k _ _ upd_same (R.nh p mL), k v _ ⟨fun a u z nh => ?_, fun h => Hd.chg (e1.i (Hd.chg h (R.nh p mL) ho trivial)) (R.nh p mL) (e1.k _ _ upd_same (R.nh p mL)) trivial⟩ (by rw [rep_flat hf r1]; exact rep_of_flat hf)⟩
      by_cases hp : a = p
      · subst hp; rw [upd_same]; rw [ho] at z; exact z
      · rw [upd_ne hp]; exact e1.k _ _ (by rw [upd_ne hp]; exact z) nh
    · cases q
  · cases q
/-! ### walking a dict that is data -/
def xKeyI (sq : State → Option (List (Key × D))) : State → Option (List D) := fun α => bnd (sq α) fun kvs => some (kvs.map fun kv => keyOf kv.1)
def xValI (sq : State → Option (List (Key × D))) : State → Option (List D) := fun α => bnd (sq α) fun kvs => some (kvs.map (·.2))
def xItmI (sq : State → Option (List (Key × D))) : State → Option (List D) := fun α => bnd (sq α) fun kvs => some (kvs.map fun kv => .tup [keyOf kv.1, kv.2])
theorem RepD.len {F : Hp} {kvs : List (Key × D)} {gs : List (Key × V)} (r : RepD e F kvs gs) : gs.length = kvs.length := RepK.len r.toK
theorem RepD.get {F : Hp} : ∀ {kvs : List (Key × D)} {gs : List (Key × V)} {i : Nat} {k : Key} {v : V}, RepD e F kvs gs → gs[i]? = some (k, v) → ∃ d, kvs[i]? = some (k, d) ∧ Rep e F d v
  | [], _, i, k, v, r, h => by cases r; simp at h
  | (k', d') :: kvs, _, 0, k, v, ⟨v', r', q, r1, r2⟩, h => by subst q; simp at h; obtain ⟨rfl, rfl⟩ := h; exact ⟨d', rfl, r1⟩
  | (k', d') :: kvs, _, i + 1, k, v, ⟨v', r', q, r1, r2⟩, h => by subst q; obtain ⟨d, h1, h2⟩ := RepD.get (i := i) r2 (by simpa using h); exact ⟨d, by simpa using h1, h2⟩
theorem ei_keysD (h : EvqD e te sq) : Evi e (iKeys te) (xKeyI sq) := fun c L S σ H α xs R q W k => by
  obtain ⟨kvs, h1, q⟩ := bnd_some q
  cases q
  refine h c L S σ H α kvs R h1 _ fun a od gs H1 e1 ha r1 => ⟨a, od, rfl, .inl ⟨gs, fz_le _ _ ha, k _ H1 e1 fun L2 H2 s2 _ i => ?_⟩⟩
  have t2 : H2 a = some (.frz od (.dK gs)) := fz_le _ _ (s2 _ _ ha)
  rw [List.length_map]
  refine ⟨fun hi => ⟨t2, by rw [r1.len]; exact hi⟩, fun hi => ⟨t2, by rw [r1.len]; exact hi⟩, fun x v H3 hx ⟨e3, kk, vv, hg, hv⟩ => ?_⟩
  subst e3 hv
  obtain ⟨d, h2, h3⟩ := r1.get hg
  rw [List.getElem?_map, h2] at hx
  cases hx
  exact ⟨Sm.refl _, rep_keyOf kk⟩
theorem ei_valsD (h : EvqD e te sq) : Evi e (iVals te) (xValI sq) := fun c L S σ H α xs R q W k => by
  obtain ⟨kvs, h1, q⟩ := bnd_some q
  cases q
  refine h c L S σ H α kvs R h1 _ fun a od gs H1 e1 ha r1 => ⟨a, od, gs, rfl, fz_le _ _ ha, k _ H1 e1 fun L2 H2 s2 _ i => ?_⟩
  have t2 : H2 a = some (.frz od (.dK gs)) := fz_le _ _ (s2 _ _ ha)
  rw [List.length_map]
  refine ⟨fun hi => ⟨t2, by rw [r1.len]; exact hi⟩, fun hi => ⟨t2, by rw [r1.len]; exact hi⟩, fun x v H3 hx ⟨e3, kk, hg⟩ => ?_⟩
  subst e3
  obtain ⟨d, h2, h3⟩ := r1.get hg
  rw [List.getElem?_map, h2] at hx
  cases hx
  exact ⟨Sm.refl _, h3.up s2⟩
theorem ei_itemsD (h : EvqD e te sq) : Evi e (iItems te) (xItmI sq) := fun c L S σ H α xs R q W k => by
  obtain ⟨kvs, h1, q⟩ := bnd_some q
  cases q
  refine h c L S σ H α kvs R h1 _ fun a od gs H1 e1 ha r1 => ⟨a, od, gs, rfl, fz_le _ _ ha, k _ H1 e1 fun L2 H2 s2 dm i => ?_⟩
  have t2 : H2 a = some (.frz od (.dK gs)) := fz_le _ _ (s2 _ _ ha)
  rw [List.length_map]
  refine ⟨fun hi => ⟨t2, by rw [r1.len]; exact hi⟩, fun hi => ⟨t2, by rw [r1.len]; exact hi⟩, fun x v H3 hx ⟨T, kk, vv, hg, hv, hn, e3⟩ => ?_⟩
  subst e3 hv
  obtain ⟨d, h2, h3⟩ := r1.get hg
  rw [List.getElem?_map, h2] at hx
  cases hx
  have s3 : Sm H2 (upd H2 T (.tup [kV kk, vv])) := same_upd hn
  exact ⟨s3, T, _, rfl, .inl (.inl (fz_new (fresh_nL dm hn) upd_same)), Reps.cons (rep_keyOf kk) (Reps.cons (h3.up (s2.trans (fz_same s3))) Reps.nil)⟩
end
/-! ### evaluation -/
section
variable {sq : State → Option (List (Key × D))} {sk sx sd : State → Option D} {α : State} {i : Nat} {s : State → Out}
@[simp] theorem a_sFrzK : sFrzK i s α = (match frzK i α with | some β => s β | none => .bad) := (rfl)
@[simp] theorem a_frzK : frzK i α = (match α[i]? with
  | some (some (.own (.dic kvs))) => some (α.set i (some (.dat (.dic kvs))))
  | _ => none) := (rfl)
@[simp] theorem a_qD : qD sd α = (match sd α with | some (.dic kvs) => some kvs | _ => none) := (rfl)
@[simp] theorem a_xGetD : xGetD sq sk α = (bnd (sq α) fun kvs => bnd (bnd (sk α) keyD) fun k => valD k kvs) := (rfl)
@[simp] theorem a_xInD : xInD sk sq α = (bnd (bnd (sk α) keyD) fun k => bnd (sq α) fun kvs => some (.bl (valD k kvs).isSome)) := (rfl)
@[simp] theorem a_xNotInD : xNotInD sk sq α = (bnd (bnd (sk α) keyD) fun k => bnd (sq α) fun kvs => some (.bl (!(valD k kvs).isSome))) := (rfl)
@[simp] theorem a_xGet1D : xGet1D sq sk α = (bnd (sq α) fun kvs => bnd (bnd (sk α) keyD) fun k => some ((valD k kvs).getD .non)) := (rfl)
@[simp] theorem a_xGet2D : xGet2D sq sk sx α = (bnd (sq α) fun kvs => bnd (bnd (sk α) keyD) fun k => bnd (sx α) fun x => some ((valD k kvs).getD x)) := (rfl)
@[simp] theorem a_xKeysD : xKeysD sq α = (bnd (sq α) fun kvs => if kvs.length ≤ 100000 then some (kvs.map fun kv => keyOf kv.1) else none) := (rfl)
@[simp] theorem a_xLendK : xLendK i sd α = (bnd (lendK i α) fun β => match sd β with | some d => if flat d = true then some d else none | none => none) := (rfl)
@[simp] theorem a_lendK : lendK i α = (match α[i]? with
  | some (some (.own (.dic kvs))) => some (α.set i (some (.dat (.dic kvs))))
  | some (some (.inn (.dic kvs))) => some (α.set i (some (.dat (.dic kvs))))
  | _ => none) := (rfl)
@[simp] theorem a_xKeyI : xKeyI sq α = (bnd (sq α) fun kvs => some (kvs.map fun kv => keyOf kv.1)) := (rfl)
@[simp] theorem a_xValI : xValI sq α = (bnd (sq α) fun kvs => some (kvs.map (·.2))) := (rfl)
@[simp] theorem a_xItmI : xItmI sq α = (bnd (sq α) fun kvs => some (kvs.map fun kv => .tup [keyOf kv.1, kv.2])) := (rfl)
end
/-! ### any(truths), min(numbers, default=None) -/
theorem any_q {X : Cx} {K : PySem.W.Frag} (h : X.K = K) (hc : X.calm = true) : CallR X (.builtin "any") (rAny K) := h ▸ cr_any hc
section
variable {e : En} {te : TE} {sq : State → Option (List D)}
def xAny (sq : State → Option (List D)) : State → Option D := fun α => bnd (sq α) fun ds => (dbls ds).map fun bs => .bl (bs.any id)
theorem ev_any (h : EvqL e te sq) : Evp e (tCB (rAny e.K) (tCons te tNil)) (xAny sq) := fun c L S σ H α d R q Q k => by
  obtain ⟨ds, h1, q⟩ := bnd_some q
  cases hd : dbls ds with
  | none => rw [hd] at q; cases q
  | some bs =>
    rw [hd] at q; cases q
    refine h c L S σ H α ds R h1 _ fun a vs H1 e1 r1 r2 => ?_
    exact ⟨a, bs, rfl, by rw [← dbls_rep hd r2]; exact fz_le.seq r1, k _ H1 e1 rfl⟩
@[simp] theorem a_xAny {α : State} : xAny sq α = bnd (sq α) fun ds => (dbls ds).map fun bs => .bl (bs.any id) := (rfl)
def minOr : List Int → V
  | [] => .non | n :: ns => .int (ns.foldl min n)
def rMinDef (K : PySem.W.Frag) : List V → List V → Hp → VK → Prop := fun vs zs H Q => ∃ (a : Addr) (ns : List Int), vs = [V.ref a] ∧ zs = [.non] ∧ SqL K H a (ns.map V.int) ∧ Q (minOr ns) H
theorem reads_ints {h : Heap} : ∀ {ns : List Int} {us : List Value}, Vals (ns.map V.int) us → ReadsAll h us (ns.map .int) []
  | [], _, .nil => .nil
  | n :: ns, _, .cons r t => by
    obtain ⟨k, rfl⟩ := r
    exact ReadsAll.cons (as := []) (bs := []) (.int n k) (reads_ints t)
theorem depth_intsA : ∀ ns : List Int, PyData.depthAll (ns.map .int) = 0
  | [] => rfl
  | n :: ns => by simp only [List.map_cons, PyData.depthAll, PyData.depth, depth_intsA ns]; rfl
theorem cr_minDef {X : Cx} (hc : X.calm = true) (hu : X.A.units + 200 < cLine) : CallRK X (.builtin "min") [Str.ofString "default"] (rMinDef X.K) := by
  intro pins s σ H vs zs us ws Q I r rz h
  obtain ⟨a, ns, rfl, rfl, hs, q⟩ := h
  obtain rfl := Vals.ref1 r
  obtain ⟨w1, rfl, e1⟩ := vals1 rz
  obtain rfl : w1 = Value.none := e1
  obtain ⟨its, rv, hl, hz⟩ := I.list hs
  have hr : ReadsAll s.heap its.toArray.toList (ns.map .int) [] := by simpa using reads_ints rv
  refine PySem.W.min_list_default (I.ok.hd hc) hl.isList hr ⟨fun x hx y hy => ?_, fun x hx => ?_⟩ (by rw [depth_intsA]; omega) (fun h0 h' tk hk => ?_) (fun y ys i v h' tk bs hxs hv hrd hk => ?_)
  · obtain ⟨n, _, rfl⟩ := List.mem_map.mp hx
    obtain ⟨m, _, rfl⟩ := List.mem_map.mp hy
    simp [PySem.W.alike]
  · obtain ⟨n, _, rfl⟩ := List.mem_map.mp hx
    simp
  · cases ns with
    | nil => exact ⟨.non, H, I.kept hk, rfl, q⟩
    | cons n ns => cases h0
  · cases ns with
    | nil => cases hxs
    | cons n ns =>
      simp only [List.map_cons, List.cons.injEq] at hxs
      obtain ⟨rfl, rfl⟩ := hxs
      rw [PySem.W.minD_ints] at hrd
      cases hrd
      exact ⟨.int _, H, I.kept hk, ⟨_, rfl⟩, q⟩
theorem minDef_q {X : Cx} {K : PySem.W.Frag} (h : X.K = K) (hc : X.calm = true) (hu : X.A.units + 200 < cLine) : CallRK X (.builtin "min") [Str.ofString "default"] (rMinDef K) := h ▸ cr_minDef hc hu
def minOrD : List Int → D
  | [] => .non | n :: ns => .int (ns.foldl min n)
def xMinDef (sq : State → Option (List D)) : State → Option D := fun α => bnd (sq α) fun ds => (dints ds).map minOrD
theorem ev_minDef (h : EvqL e te sq) : Evp e (tCKw (rMinDef e.K) (tCons te tNil) (tCons (tC .non) tNil)) (xMinDef sq) := fun c L S σ H α d R q Q k => by
  obtain ⟨ds, h1, q⟩ := bnd_some q
  cases hd : dints ds with
  | none => rw [hd] at q; cases q
  | some ns =>
    rw [hd] at q; cases q
    refine h c L S σ H α ds R h1 _ fun a vs H1 e1 r1 r2 => ?_
    exact ⟨a, ns, rfl, rfl, by rw [← dints_rep hd r2]; exact fz_le.seq r1, k _ H1 e1 (by cases ns <;> exact rfl)⟩
@[simp] theorem a_xMinDef {α : State} : xMinDef sq α = bnd (sq α) fun ds => (dints ds).map minOrD := (rfl)
end
end Ab
end
section
set_option maxRecDepth 100000
set_option maxHeartbeats 1000000
namespace Ab
open PySem L2 PyProof.Rows PySem.Spec
variable [Hd]
section
variable {e : En} {E : XK} {te tk tx ta : TE} {ts tr : TS} {s sr : State → Out}
theorem Rel.forget {c : Cn} {L S : List Addr} {σ : L2.St} {H : Hp} {α : State} (r : Rel e c L S σ H α) (i : Nat) : Rel e c L S σ H (α.set i none) := by
  have un : ∀ j, isOwn (α.set i none)[j]? = true → isOwn α[j]? = true := fun j hj => by
    rw [getset] at hj
    split at hj
    · split at hj <;> simp [isOwn] at hj
    · exact hj
  refine ⟨fun j a q => ?_, fun j k q hj hk sj sk => r.sep j k q (un j hj) (un k hk) sj sk, r.inv, r.h1, r.nh, r.dom, r.sub, r.l0, r.l1, r.s1, r.md, r.s0, r.d0, by rw [List.length_set]; exact r.len⟩
  rw [getset] at q
  split at q
  · split at q <;> cases q
  · exact r.slot j a q
def noOwn (α : State) : Bool := α.all fun x => match x with | some (.own _) => false | some (.inn _) => false | _ => true
theorem noOwn_at {α : State} (h : noOwn α = true) (j : Nat) : isOwn α[j]? = false := by
  cases q : α[j]? with
  | none => rfl
  | some x =>
    have := List.all_eq_true.mp h x (List.mem_of_getElem? q)
    cases x with
    | none => rfl
    | some a => cases a <;> first | rfl | cases this
/-- what is hidden may be written -/
theorem Rel.hid {c : Cn} {L S : List Addr} {σ : L2.St} {H : Hp} {α : State} (r : Rel e c L S σ H α) (hn : noOwn α = true) {p : Addr} {o u : HO} (mS : p ∈ S) (h0 : H p = some u) (pl : Pl u) : Rel e c L S σ (upd H p o) α := by
  have mL := r.sub p mS
  have iv : Hd.inv (upd H p o) := Hd.chg r.inv (r.nh p mL) h0 pl
  have fzs : Same (fz L H) (fz L (upd H p o)) := fz_mut fun a u q n _ => by rw [upd_ne (fun z => n (by rw [z]; exact mL))]; exact q
  refine ⟨fun j a q => ?_, r.sep, iv, r.h1, r.nh, fun q m z => ?_, r.sub, r.l0, r.l1, r.s1, ⟨fun a u q n nh => ?_, fun _ => iv⟩, r.s0, r.d0, r.len⟩
  · obtain ⟨v, h1, h2⟩ := r.slot j a q
    refine ⟨v, h1, ?_⟩
    have hno := noOwn_at hn j
    cases a with
    | dat d => exact Rep.up (d := d) h2 fzs
    | adr _ => exact h2
    | own ct => rw [q] at hno; cases hno
    | inn ct => rw [q] at hno; cases hno
  · by_cases e1 : q = p
    · subst e1; rw [upd_same] at z; cases z
    · rw [upd_ne e1] at z; exact r.dom q m z
  · have hne : a ≠ p := fun z => by
      rcases r.s1 p mS with h | h
      · exact n (z ▸ h)
      · rw [z, h] at q; cases q
    rw [upd_ne hne]; exact r.md.k a u q n nh
theorem Rel.hideNew {c : Cn} {L S : List Addr} {σ : L2.St} {H H' : Hp} {α : State} (r : Rel e c L S σ H α) (hn : noOwn α = true) {p : Addr} (s : Sm H H') (n : H p = none) (hp : H' p ≠ none) : Rel e c (p :: L) (p :: S) σ H' α := by
  have fzs : Same (fz L H) (fz (p :: L) H') := fz_cons s n
  refine ⟨fun j a q => ?_, r.sep, s.i r.inv, r.h1, fun q m z => ?_, fun q m z => ?_, fun q m => ?_, fun q m => List.mem_cons_of_mem _ (r.l0 q m), fun q m => ?_, fun q m => ?_, r.md.trans (.of s), r.s0, r.d0, r.len⟩
  · obtain ⟨v, h1, h2⟩ := r.slot j a q
    refine ⟨v, h1, ?_⟩
    have hno := noOwn_at hn j
    cases a with
    | dat d => exact Rep.up (d := d) h2 fzs
    | adr _ => exact h2
    | own ct => rw [q] at hno; cases hno
    | inn ct => rw [q] at hno; cases hno
  · rcases List.mem_cons.mp m with rfl | m
    · exact Hd.al r.inv z n
    · exact r.nh q m z
  · rcases List.mem_cons.mp m with rfl | m
    · exact hp z
    · exact (r.up s).dom q m z
  · rcases List.mem_cons.mp m with rfl | m
    · simp
    · exact List.mem_cons_of_mem _ (r.sub q m)
  · rcases List.mem_cons.mp m with rfl | m
    · exact .inr (r.h0 n)
    · exact r.l1 q m
  · rcases List.mem_cons.mp m with rfl | m
    · exact .inr (r.h0 n)
    · exact r.s1 q m
theorem lookup_putF {f : Str} {v : V} : ∀ gs : List (Str × V), (putF f v gs).lookup f = some v
  | [] => by unfold putF; rw [List.lookup_cons, beq_self_eq_true]
  | (g, x) :: r => by
    unfold putF
    by_cases h : g = f
    · rw [if_pos h, h, List.lookup_cons, beq_self_eq_true]
    · rw [if_neg h, List.lookup_cons, beq_eq_false_iff_ne.mpr (Ne.symm h)]
      exact lookup_putF r
theorem length_putF {f : Str} {v : V} : ∀ gs : List (Str × V), (putF f v gs).length ≤ gs.length + 1
  | [] => by simp [putF]
  | (g, x) :: r => by
    unfold putF
    split
    · simp
    · have := @length_putF f v r; simp; omega
/-! ### self.f = {}; for x, y in l: if x in self.f: raise N(x); self.f[x] = y; and the dict is written no more -/
def fillK (nm : String) (fl : Str) : List D → List (Key × D) → Option (Sum Exn (List (Key × D)))
  | [], kvs => some (.inr kvs)
  | .tup [.str z, d] :: r, kvs => if (valD (.inr z) kvs).isSome = true then some (.inl ⟨nm, [(fl, .str z)]⟩) else if kvs.length < 100000 then fillK nm fl r (putKD kvs (.inr z) d) else none
  | _ :: _, _ => none
def sFillD (i j a b : Nat) (c : String) (f : Str) (nm : String) (fl : Str) (sr : State → Out) : State → Out := fun α => match α[i]?, α[j]? with
  | some (some (.inn (.obj c' fs))), some (some (.dat (.lst xs))) => if c' = c ∧ fs.length < 900 ∧ noOwn (α.set i none) = true ∧ a < α.length ∧ b < α.length then (match fillK nm fl xs [] with
    | some (.inr kvs) => sr ((((α.set i none).set a none).set b none).set i (some (.inn (.obj c (putD f (.dic kvs) fs)))))
    | some (.inl x) => .exc x
    | none => .bad) else .bad
  | _, _ => .bad
theorem valD_put {kvs : List (Key × D)} : True := trivial
theorem st_fillD {i j a b : Nat} {c : String} {f : Str} {nm : String} {fl : Str} {g : TG} (hc : Cls e.K (e.cls c)) (hn : NoAttr e.K (e.cls c) f) (hij : i ≠ j) (hia : i ≠ a) (hib : i ≠ b) (hja : j ≠ a) (hjb : j ≠ b) (hab : a ≠ b)
    (hg : Etg e g (gT 2 (gsC (gN a) (gsC (gN b) gsN))) ([a] ++ ([b] ++ []))) (hr : Sts e E tr sr) :
    Sts e E (tSeq (sFld e.K (tVar i) tDNewK f) (tSeq (tFor (iList e.K (tVar j)) g (tSeq (tIfS (tB (tDIn (tVar a) (tFld e.K (tVar i) f))) (fun _ σ H => tMkO (e.cls nm) (spXI (e.cls nm) fl) [] (tCons (tVar a) tNil) σ H fun cls d H' => E cls d H') tNext) (sDPut (tFld e.K (tVar i) f) (tVar a) (tVar b)))) (tLockP tr)))
      (sFillD i j a b c f nm fl sr) := fun cn L S σ H α D R k => by
  unfold sFillD at k
  split at k
  · rename_i c' fs xs hi hj
    split at k
    · rename_i hcc
      obtain ⟨rfl, hfl, hno, hal, hbl⟩ := hcc
      obtain ⟨v0, h0, p, o, rfl, mS, hinn, ho, dx, gs, rfl, rF⟩ := R.slot i _ hi
      have mL := R.sub p mS
      intro q hq
      refine ⟨.ref p, h0, p, _, dx, gs, rfl, by rw [upd_ne (ne_of_none ho hq)]; exact ho, hc, hn, by rw [repF_len rF]; omega, ?_⟩
      have hqn := fresh_nL R.dm hq
      have hqL : q ∉ L := hqn.1
      have hpq : p ≠ q := ne_of_none ho hq
      have h0q : cn.H0 q = none := R.h0 hq
      have Ra := R.forget i
      have s1 : Sm H (upd H q (.dK [])) := .of fun b o z => by rw [upd_ne (ne_of_none z hq)]; exact z
      have Rb := Ra.hideNew hno s1 hq (by rw [upd_same]; simp)
      have Rc := Rb.hid hno (p := p) (o := .ins (e.cls c') dx (putF f (.ref q) gs)) (List.mem_cons_of_mem _ mS) (u := .ins (e.cls c') dx gs) (by rw [upd_ne (ne_of_none ho hq)]; exact ho) trivial
      obtain ⟨vj, hσj, aj, vs, rfl, hsl, hvs⟩ := R.slot j _ hj
      generalize hH1 : upd (upd H q (.dK [])) p (.ins (e.cls c') dx (putF f (.ref q) gs)) = H1 at Rc ⊢
      have hp1 : H1 p = some (.ins (e.cls c') dx (putF f (.ref q) gs)) := by rw [← hH1, upd_same]
      have hq1 : H1 q = some (.dK []) := by rw [← hH1, upd_ne (Ne.symm hpq), upd_same]
      have fz1 : Same (fz L H) (fz (q :: L) H1) := fun a u z => by
        obtain ⟨m, nh⟩ := fz_nh z
        have z := fz_le _ _ z
        have ap : a ≠ p := fun y => m (y ▸ mL)
        have aq : a ≠ q := ne_of_none z hq
        exact fz_at (by rw [← hH1, upd_ne ap, upd_ne aq]; exact z) (by simp [aq, m]) nh
      have rF1 : RepF e (fz (q :: L) H1) fs gs := RepF.mono fz1 _ _ rF
      have hj1 : (α.set i none)[j]? = some (some (.dat (.lst xs))) := by rw [getset, if_neg hij]; exact hj
      have hq' : qL (xVar j) (α.set i none) = some xs := by unfold qL xVar; rw [hj1]
      have hlen := R.len
      dsimp only [tSeq, tFor]
      refine ei_list (sq := qL (xVar j)) (ev_var j) rfl cn _ _ σ H1 _ xs Rc hq' _ fun J H2 e2 hW => ?_
      -- the loop's state
      let α2 : State := ((α.set i none).set a none).set b none
      have hno2 : noOwn α2 = true := by
        refine List.all_eq_true.mpr fun x m => ?_
        have : ∀ {l : State} {n : Nat} {y : Option A}, y ∈ l.set n none → y ∈ l ∨ y = none := fun {l n y} h => by
          obtain ⟨k, hk⟩ := List.mem_iff_getElem?.mp h
          rw [getset] at hk
          split at hk
          · split at hk
            · cases hk; exact .inr rfl
            · cases hk
          · exact .inl (List.mem_of_getElem? hk)
        rcases this m with m | rfl
        · rcases this m with m | rfl
          · exact List.all_eq_true.mp hno x m
          · rfl
        · rfl
      let IW : Nat → Nat → L2.St → Hp → Prop := fun n m σ' H' => m = xs.length - n ∧ ∃ kvs hs_, fillK nm fl (xs.drop n) kvs = fillK nm fl xs [] ∧ Rel e cn (q :: L) (q :: S) σ' H' α2 ∧ σ'[i]? = some (some (.ref p)) ∧ H' p = some (.ins (e.cls c') dx (putF f (.ref q) gs)) ∧ H' q = some (.dK hs_) ∧ RepK e (fz (q :: L) H') kvs hs_ ∧ Same (fz (q :: L) H2) (fz (q :: L) H')
      have hp2 : H2 p = some (.ins (e.cls c') dx (putF f (.ref q) gs)) := e2.k _ _ hp1 (R.nh p mL)
      have hq2 : H2 q = some (.dK []) := e2.k _ _ hq1 hqn.2
      have R2 : Rel e cn (q :: L) (q :: S) σ H2 α2 := ((Rc.up e2).forget a).forget b
      refine ⟨IW, ⟨_, rfl, [], [], rfl, R2, h0, hp2, hq2, repK_nil, Same.refl _⟩, ?_⟩
      rintro n m σ' H' ⟨rfl, kvs, hs_, hfk, R', h0', hp', hq', rk, sm⟩
      obtain ⟨w1, w2, w3⟩ := hW (q :: L) H' sm R'.dm n
      by_cases hnx : n < xs.length
      · refine .inr ⟨w1 hnx, fun σ'' H'' => IW (n + 1) (xs.length - (n + 1)) σ'' H'', fun σ'' H'' h => ⟨_, by omega, h⟩, fun x H3 hy => ?_⟩
        have hxn : xs[n]? = some xs[n] := List.getElem?_eq_getElem hnx
        have hdrop : xs.drop n = xs[n] :: xs.drop (n + 1) := List.drop_eq_getElem_cons hnx
        rw [hdrop] at hfk
        obtain ⟨s3, rx⟩ := w3 _ x H3 hxn hy
        generalize xs[n] = y at *
        -- the item is a pair
        obtain ⟨z, d, rfl⟩ : ∃ z d, y = .tup [.str z, d] := by
          rw [← hfk] at k
          unfold fillK at k
          split at k
          · rename_i kvs' hk'
            split at hk'
            · rename_i hh; cases hh
            · rename_i z d r hh; cases hh; exact ⟨z, d, rfl⟩
            · cases hk'
          · rename_i x' hk'
            split at hk'
            · rename_i hh; cases hh
            · rename_i z d r hh; cases hh; exact ⟨z, d, rfl⟩
            · cases hk'
          · exact k.elim
        have hg2 : gT 2 (gsC (gN a) (gsC (gN b) gsN)) (.tup [.str z, d]) α2 = some ((α2.set a (some (.dat (.str z)))).set b (some (.dat d))) := rfl
        refine hg cn _ _ σ' H3 α2 _ x _ (R'.up s3) rx hg2 _ fun σ2 hl2 hσ2 R3 => ?_
        have h02 : σ2[i]? = some (some (.ref p)) := by rw [hσ2 i (by simp [hia, hib])]; exact h0'
        have hp3 := s3.k _ _ hp' (R.nh p mL)
        have hq3 := s3.k _ _ hq' hqn.2
        have rk3 : RepK e (fz (q :: L) H3) kvs hs_ := ⟨rk.1, rk.2.up (fz_same s3)⟩
        have hl2' : α2.length = α.length := by simp [α2]
        have h3b : ((α2.set a (some (.dat (.str z)))).set b (some (.dat d)))[b]? = some (some (.dat d)) := by rw [getset, if_pos rfl, if_pos (by simpa [hl2'] using hbl)]
        have h3a : ((α2.set a (some (.dat (.str z)))).set b (some (.dat d)))[a]? = some (some (.dat (.str z))) := by
          rw [getset, if_neg (Ne.symm hab), getset, if_pos rfl, if_pos (by simpa [hl2'] using hal)]
        obtain ⟨va, ha2, ra⟩ := R3.slot a _ h3a
        obtain ⟨vb, hb2, rb⟩ := R3.slot b _ h3b
        cases (show va = .str z from ra)
        have Rz : Rel e cn (q :: L) (q :: S) σ2 H3 α2 := by
          have := (R3.forget a).forget b
          have e3 : (((α2.set a (some (.dat (.str z)))).set b (some (.dat d))).set a none).set b none = α2 := by
            apply List.ext_getElem?
            intro n
            simp only [α2, getset, List.length_set]
            by_cases h1 : b = n
            · subst h1; simp
            · by_cases h2 : a = n
              · subst h2; simp [h1]
              · simp [h1, h2]
          rwa [e3] at this
        have hval := isSomeV rk3.toD (.inr z)
        dsimp only [tIfS, tB, tDIn]
        refine ⟨_, ha2, .ref p, h02, p, _, dx, _, .ref q, rfl, hp3, hc, hn, lookup_putF gs, q, _, rfl, DGet.k (k := .inr z) hq3, _, rfl, ?_⟩
        by_cases hs : (valD (.inr z) kvs).isSome = true
        · have hx : fillK nm fl xs [] = some (.inl ⟨nm, [(fl, .str z)]⟩) := by
            rw [← hfk]; unfold fillK; rw [if_pos hs]
          rw [hx] at k
          rw [hval, if_pos hs]
          refine st_raise1 (nm := nm) (f := fl) (ev_var a) cn _ _ σ2 H3 _ D R3 ?_
          have : sRaise1 nm fl (xVar a) ((α2.set a (some (.dat (.str z)))).set b (some (.dat d))) = .exc ⟨nm, [(fl, .str z)]⟩ := by
            unfold sRaise1 xVar; rw [h3a]
          rw [this]
          exact k
        · rw [hval, if_neg hs]
          have hlt : kvs.length < 100000 := by
            by_cases hl : kvs.length < 100000
            · exact hl
            · have hx : fillK nm fl xs [] = none := by
                rw [← hfk]; unfold fillK; rw [if_neg hs, if_neg hl]
              rw [hx] at k; exact k.elim
          have hfk2 : fillK nm fl (xs.drop (n + 1)) (putKD kvs (.inr z) d) = fillK nm fl xs [] := by
            rw [← hfk]; conv => rhs; unfold fillK
            rw [if_neg hs, if_pos hlt]
          have Rw := Rz.hid hno2 (p := q) (o := .dK (putK hs_ (.inr z) vb)) List.mem_cons_self hq3 trivial
          dsimp only [tNext, sDPut]
          refine ⟨_, hb2, .ref p, h02, p, _, dx, _, .ref q, rfl, hp3, hc, hn, lookup_putF gs, _, ha2, q, _, rfl, DPut.k (k := .inr z) hq3 (by rw [rk3.len]; exact sz_lt hlt), rfl, _, _, hfk2, Rw, h02, ?_, upd_same, ?_, ?_⟩
          · rw [upd_ne hpq]; exact hp3
          · have s4 : Same (fz (q :: L) H3) (fz (q :: L) (upd H3 q (.dK (putK hs_ (.inr z) vb)))) := fz_mut fun a u y n _ => by rw [upd_ne (fun w => n (by rw [w]; exact List.mem_cons_self))]; exact y
            exact repK_put (Rep.up (d := d) rb s4) ⟨rk3.1, rk3.2.up s4⟩
          · have s4 : Same (fz (q :: L) H3) (fz (q :: L) (upd H3 q (.dK (putK hs_ (.inr z) vb)))) := fz_mut fun a u y n _ => by rw [upd_ne (fun w => n (by rw [w]; exact List.mem_cons_self))]; exact y
            exact (sm.trans (fz_same s3)).trans s4
      · have hend : fillK nm fl xs [] = some (.inr kvs) := by
          rw [← hfk, List.drop_of_length_le (by omega)]; rfl
        rw [hend] at k
        refine .inl ⟨w2 (by omega), q, .dK hs_, hq', trivial, fun od => ?_⟩
        -- the dict is data from here on
        have sEnd : Same (fz (q :: L) H') (fz L (upd H' q (.frz od (.dK hs_)))) := fun a u y => by
          obtain ⟨m, nh⟩ := fz_nh y
          have m' : a ≠ q ∧ a ∉ L := by simpa using m
          exact fz_at (by rw [upd_ne m'.1]; exact fz_le _ _ y) m'.2 nh
        have hin : fz L (upd H' q (.frz od (.dK hs_))) q = some (.frz od (.dK hs_)) := fz_at upd_same hqL hqn.2
        have hpE : upd H' q (.frz od (.dK hs_)) p = some (.ins (e.cls c') dx (putF f (.ref q) gs)) := by rw [upd_ne hpq]; exact hp'
        have rD : Rep e (fz L (upd H' q (.frz od (.dK hs_)))) (.dic kvs) (.ref q) := ⟨q, od, hs_, rfl, hin, RepD.mono sEnd _ _ rk.toD⟩
        have rFE : RepF e (fz L (upd H' q (.frz od (.dK hs_)))) (putD f (.dic kvs) fs) (putF f (.ref q) gs) := repF_put rD (RepF.mono (((fz_same e2).trans sm).trans sEnd) _ _ rF1)
        have RE : Rel e cn L S σ' (upd H' q (.frz od (.dK hs_))) (α2.set i (some (.inn (.obj c' (putD f (.dic kvs) fs))))) := by
          have own1 : ∀ k, isOwn (α2.set i (some (.inn (.obj c' (putD f (.dic kvs) fs)))))[k]? = true → k = i := fun k hk => by
            rw [getset] at hk
            by_cases h1 : i = k
            · exact h1.symm
            · rw [if_neg h1, noOwn_at hno2] at hk; cases hk
          have ivE : Hd.inv (upd H' q (.frz od (.dK hs_))) := Hd.chg R'.inv hqn.2 hq' trivial
          refine ⟨fun k' a' qk => ?_, fun k1 k2 p' h1 h2 _ _ => by rw [own1 k1 h1, own1 k2 h2], ivE, R.h1, R.nh, fun p' m z => ?_, R.sub, R.l0, R.l1, R.s1, ⟨fun a' u y n' nh => ?_, fun _ => ivE⟩, R.s0, R.d0, by rw [List.length_set]; exact R'.len⟩
          · rw [getset] at qk
            by_cases h1 : i = k'
            · rw [if_pos h1] at qk
              split at qk
              · cases qk
                subst h1
                exact ⟨_, h0', p, _, rfl, mS, hinn, hpE, dx, _, rfl, rFE⟩
              · cases qk
            · rw [if_neg h1] at qk
              obtain ⟨v, y1, y2⟩ := R'.slot k' a' qk
              refine ⟨v, y1, ?_⟩
              have hno := noOwn_at hno2 k'
              cases a' with
              | dat d => exact Rep.up (d := d) y2 sEnd
              | adr _ => exact y2
              | own ct => rw [qk] at hno; cases hno
              | inn ct => rw [qk] at hno; cases hno
          · by_cases h1 : p' = q
            · exact hqL (h1 ▸ m)
            · rw [upd_ne h1] at z
              exact R'.dom p' (List.mem_cons_of_mem _ m) z
          · have h1 : a' ≠ q := fun w => by rw [w, h0q] at y; cases y
            rw [upd_ne h1]
            exact R'.md.k a' u y n' nh
        refine hr cn L S σ' _ _ D RE (OutOk.mono ?_ k)
        exact (fz1.trans ((fz_same e2).trans sm)).trans sEnd
    · exact k.elim
  · exact k.elim
@[simp] theorem a_sFillD {i j a b : Nat} {c : String} {f : Str} {nm : String} {fl : Str} {α : State} : sFillD i j a b c f nm fl sr α = (match α[i]?, α[j]? with
  | some (some (.inn (.obj c' fs))), some (some (.dat (.lst xs))) => if c' = c ∧ fs.length < 900 ∧ noOwn (α.set i none) = true ∧ a < α.length ∧ b < α.length then (match fillK nm fl xs [] with
    | some (.inr kvs) => sr ((((α.set i none).set a none).set b none).set i (some (.inn (.obj c (putD f (.dic kvs) fs)))))
    | some (.inl x) => .exc x
    | none => .bad) else .bad
  | _, _ => .bad) := (rfl)
end
end Ab
end
section
set_option maxRecDepth 100000
set_option maxHeartbeats 1000000
namespace Ab
open PySem L2 PyProof.Rows PySem.Spec
variable [Hd]
section
variable {e : En} {E : XK} {te tk : TE} {ts : TS}
/-! ### an own object lent for a new list of flat things -/
def xLendL (i : Nat) (s : State → Option (List D)) : State → Option (List D) := fun α => bnd (lendD i α) fun β => match s β with | some xs => if xs.all flat = true then some xs else none | none => none
theorem reps_flat_any {F F' : Hp} : ∀ {ds : List D} {vs : List V}, ds.all flat = true → Reps e F ds vs → Reps e F' ds vs
  | [], _, _, r => by cases r; exact Reps.nil
  | d :: ds, _, h, ⟨v, w, q, r1, r2⟩ => by
    subst q
    rw [List.all_cons, Bool.and_eq_true] at h
    refine Reps.cons ?_ (reps_flat_any h.2 r2)
    rw [rep_flat h.1 r1]; exact rep_of_flat h.1
theorem el_lend (i : Nat) {s : State → Option (List D)} (h : Evl e te s) : Evl e te (xLendL i s) := fun c L S σ H α xs R q Q k => by
  obtain ⟨β, h1, q⟩ := bnd_some q
  obtain ⟨c', L', S', R'⟩ := R.lendD h1
  split at q
  · rename_i ys hs
    split at q
    · rename_i hf
      cases q
      exact h c' L' S' σ H β _ R' hs Q fun p vs H' e1 n hp r1 => k p vs H' e1 n hp (reps_flat_any hf r1)
    · cases q
  · cases q
@[simp] theorem a_xLendL {i : Nat} {s : State → Option (List D)} {α : State} : xLendL i s α = bnd (lendD i α) fun β => match s β with | some xs => if xs.all flat = true then some xs else none | none => none := (rfl)
/-- an own dict lent for a test -/
def tLockT (t : TT) : TT := fun σ H Q => tLockE (fun σ H Q' => t σ H fun b H1 => Q' (.bl b) H1) σ H fun v H1 => ∃ b, v = .bl b ∧ Q b H1
/-! ### range(a, b, c), 1 ≤ c -/
def rngC (lo c : Int) (n : Nat) : List D := (List.range n).map fun (k : Nat) => D.int (lo + (k : Int) * c)
theorem walks_rngC {lo c : Int} {n : Nat} {F : Hp} : Walks e (Itc lo c n) F (rngC lo c n) := fun L H s2 _ i => by
  refine ⟨fun hi => by show i < n; simpa [rngC] using hi, fun hi => by show n ≤ i; simpa [rngC] using hi, fun x v H3 hx ⟨e3, y⟩ => ?_⟩
  subst e3 y
  refine ⟨Sm.refl _, ?_⟩
  unfold rngC at hx
  rw [List.getElem?_map] at hx
  cases hr : (List.range n)[i]? with
  | none => rw [hr] at hx; cases hx
  | some j =>
    rw [hr] at hx
    cases hx
    obtain ⟨hlt, hj⟩ := List.getElem?_eq_some_iff.mp hr
    rw [List.getElem_range] at hj
    subst hj
    rfl
/-- how many: 0 ≤ a, b ≤ 1000000, 1 ≤ c ≤ 1000000 -/
def xRng3 (sr : State → Option (List D)) : State → Option (List D) := fun α => match sr α with
  | some [.int a, .int b, .int c] => if 0 ≤ a ∧ a ≤ 1000000 ∧ 0 ≤ b ∧ b ≤ 1000000 ∧ 1 ≤ c ∧ c ≤ 1000000 then some (rngC a c (Builtin.Range.rangeSize a b c).toNat) else none
  | _ => none
theorem rgC_up {a b c : Int} (h : 0 ≤ a ∧ a ≤ 1000000 ∧ 0 ≤ b ∧ b ≤ 1000000 ∧ 1 ≤ c ∧ c ≤ 1000000) : RgC a b c (Builtin.Range.rangeSize a b c).toNat := by
  obtain ⟨h1, h2, h3, h4, h5, h6⟩ := h
  have q0 : a < b → 0 ≤ (b - a - 1) / c ∧ (b - a - 1) / c ≤ 1000000 := fun hl =>
    ⟨Int.ediv_nonneg (by omega) (by omega), Int.le_trans (Int.ediv_le_self _ (by omega)) (by omega)⟩
  have e : Builtin.Range.rangeSize a b c = if a < b then (b - a - 1) / c + 1 else 0 := by
    unfold Builtin.Range.rangeSize
    rw [if_pos (show c > 0 by omega)]
  generalize (b - a - 1) / c = q at *
  refine ⟨by omega, by omega, ?_, ?_⟩
  · unfold Builtin.Range.small
    rw [e]
    simp only [Builtin.Range.rangeFitsLong, Bool.and_eq_true, Bool.or_eq_true, decide_eq_true_eq, beq_iff_eq, show c > 0 by omega, if_true]
    split
    · rename_i hl
      have := q0 hl
      omega
    · omega
  · rw [e]
    split
    · rename_i hl
      have := q0 hl
      omega
    · rfl
theorem ei_rng3 {tr : TA} {sr : State → Option (List D)} (h : Eva e tr sr) : Evi e (iRng3 tr) (xRng3 sr) := fun c L S σ H α xs R q W k => by
  unfold xRng3 at q
  split at q
  · rename_i a b cc hs
    split at q
    · rename_i hn
      cases q
      refine h c L S σ H α _ R hs _ fun vs H' e1 ⟨v, _, e2, r1, ⟨v', _, e3, r2, ⟨v'', _, e4, r3, r4⟩⟩⟩ => ?_
      cases r1; cases r2; cases r3; cases r4; subst e4; subst e3; subst e2
      exact ⟨a, b, cc, _, rfl, rgC_up hn, k _ H' e1 walks_rngC⟩
    · cases q
  · cases q
@[simp] theorem a_xRng3 {sr : State → Option (List D)} {α : State} : xRng3 sr α = (match sr α with
  | some [.int a, .int b, .int c] => if 0 ≤ a ∧ a ≤ 1000000 ∧ 0 ≤ b ∧ b ≤ 1000000 ∧ 1 ≤ c ∧ c ≤ 1000000 then some (rngC a c (Builtin.Range.rangeSize a b c).toNat) else none
  | _ => none) := (rfl)
/-! ### len of a dict that is data -/
def rLenD : List V → Hp → VK → Prop := fun xs H Q => ∃ (a : Addr) (kvs : List (Key × V)), xs = [.ref a] ∧ Rd H a (.dK kvs) ∧ Q (.int kvs.length) H
theorem cr_lenD {X : Cx} : CallR X (.builtin "len") rLenD := by
  intro pins s σ H xs us Q I r h
  obtain ⟨a, kvs, rfl, hd, q⟩ := h
  obtain ⟨u, rfl, rx⟩ := vals1 r
  cases rx
  exact d_len I hd fun t s' J => ⟨.int kvs.length, H, J, ⟨_, rfl⟩, q⟩
def xLenD (sq : State → Option (List (Key × D))) : State → Option D := fun α => bnd (sq α) fun kvs => some (.int kvs.length)
theorem ev_lenD {sq : State → Option (List (Key × D))} (h : EvqD e te sq) : Evp e (tCB rLenD (tCons te tNil)) (xLenD sq) := fun c L S σ H α d R q Q k => by
  obtain ⟨kvs, h1, q⟩ := bnd_some q
  cases q
  refine h c L S σ H α kvs R h1 _ fun a od gs H' e1 hf r => ⟨a, gs, rfl, rd_frz hf, ?_⟩
  refine k _ H' e1 ?_
  rw [RepD.len r]; rfl
@[simp] theorem a_xLenD {sq : State → Option (List (Key × D))} {α : State} : xLenD sq α = bnd (sq α) fun kvs => some (.int kvs.length) := (rfl)
/-! ### x.pop(k), x an own dict, the value dropped -/
def dropD (kvs : List (Key × D)) (k : Key) : List (Key × D) := kvs.filter fun kv => decide (kv.1 ≠ k)
theorem repK_drop {F : Hp} {k : Key} : ∀ {kvs : List (Key × D)} {gs : List (Key × V)}, RepK e F kvs gs → RepK e F (dropD kvs k) (dropK gs k)
  | [], gs, r => by
    obtain ⟨h1, h2⟩ := r
    have : gs = [] := by simpa using h1
    subst this; exact repK_nil
  | (j, d) :: kvs, gs, r => by
    obtain ⟨v, gs', rfl, r1, r2⟩ := repK_inv r
    have ih := repK_drop (k := k) r2
    unfold dropD dropK at ih ⊢
    by_cases c : j = k
    · rw [List.filter_cons_of_neg (by simpa using c), List.filter_cons_of_neg (by simpa using c)]; exact ih
    · rw [List.filter_cons_of_pos (by simpa using c), List.filter_cons_of_pos (by simpa using c)]; exact repK_cons r1 ih
def sPopK (i : Nat) (sk : State → Option D) : State → Out := fun α => match bnd (sk α) keyD, ctOf α[i]? with
  | some k, some (.dic kvs) => if (valD k kvs).isSome = true then .nxt (putC α i (.dic (dropD kvs k))) else .bad
  | _, _ => .bad
theorem st_popK {i : Nat} {sk : State → Option D} (hk : Evp e tk sk) : Sts e E (tDrop (tDPop1 (tVar i) tk)) (sPopK i sk) := fun c L S σ H α D R k => by
  unfold sPopK at k
  split at k
  · rename_i kk kvs hkk hx
    split at k
    · rename_i hz
      obtain ⟨dk, h1, h2⟩ := bnd_some hkk
      obtain ⟨p, o, h3, m1, ho, gs, rfl, r1⟩ := R.at hx
      refine ⟨.ref p, h3, p, rfl, .inl ⟨gs, .inl ho⟩, ?_⟩
      refine hk c L S σ H α dk R h1 _ fun y H2 e2 ry => ?_
      have hy := rep_key h2 ry
      subst hy
      obtain ⟨d0, hd0⟩ := Option.isSome_iff_exists.mp hz
      obtain ⟨v0, hv0, _⟩ := (repK_val (k := kk) r1).1 d0 hd0
      refine ⟨gs, kk, v0, e2.k _ _ ho (R.nh _ (R.sub _ m1)), rfl, hv0, ?_⟩
      have rr : RepK e (fz L H2) (dropD kvs kk) (dropK gs kk) := repK_drop ⟨r1.1, r1.2.up (fz_same e2)⟩
      obtain ⟨R3, m3⟩ := (R.up e2).mut hx h3 (o := .dK (dropK gs kk)) (ct' := .dic (dropD kvs kk)) ⟨_, rfl, rr⟩
      exact k L S σ _ ((fz_same e2).trans (fz_mod m3 (R.up e2).sub)) R3
    · exact k.elim
  · exact k.elim
@[simp] theorem a_sPopK {i : Nat} {sk : State → Option D} {α : State} : sPopK i sk α = (match bnd (sk α) keyD, ctOf α[i]? with
  | some k, some (.dic kvs) => if (valD k kvs).isSome = true then .nxt (putC α i (.dic (dropD kvs k))) else .bad
  | _, _ => .bad) := (rfl)
/-! ### len(set(xs)), texts -/
def rLenSetSt (P : Program) (w : World) : List V → Hp → VK → Prop := fun vs H Q => ∃ (a : Addr) (S : Str → Bool) (n : Nat), vs = [V.ref a] ∧ H a = some (SetSO P w a S n) ∧ n < 1000 ∧
  ∀ (zs : List Str), zs.Nodup → (∀ z, z ∈ zs ↔ S z = true) → Q (.int zs.length) H
theorem cr_lenSetSt {X : Cx} (hc : X.calm = true) : CallR X (.builtin "len") (rLenSetSt X.prog X.w) := by
  intro pins s σ H xs us Q I r q
  obtain ⟨a, S, n, ex, ha, h64, q⟩ := q
  subst ex
  obtain ⟨u, eu, rx⟩ := vals1 r
  subst eu
  cases rx
  obtain ⟨o, es, ep, t, R⟩ := (I.hok a _ ha).1
  have hall : ∀ v ∈ es.toList.map (·.2), ∃ k t, v = Value.str k t := fun v hv => by
    obtain ⟨e, he, q⟩ := List.mem_map.mp hv
    obtain ⟨⟨k, hk, _⟩, _⟩ := R.el e he
    obtain ⟨t, ht⟩ := Value.isStrOf_shape (x := k) (v := e.2) hk
    exact ⟨k, t, by rw [← q]; exact ht⟩
  obtain ⟨zs, hS⟩ := strs_some hall
  have hnd : zs.Nodup := strs_apart (P := X.prog) (w := X.w) hS (List.pairwise_map.mpr R.ap)
  have hmm : ∀ z, z ∈ zs ↔ S z = true := fun z => by
    rw [strsAre_mem (P := X.prog) (w := X.w) hS z, R.mm z]
    constructor
    · rintro ⟨u, m, h⟩
      obtain ⟨e, he, q⟩ := List.mem_map.mp m
      exact ⟨e, he, by rw [q]; exact h⟩
    · rintro ⟨e, m, h⟩
      exact ⟨e.2, List.mem_map_of_mem m, h⟩
  have hl : es.size = zs.length := by have := hS.length; rw [List.length_map, Array.length_toList] at this; exact this
  refine call_len_set R.ho R.ex R.hd R.ft (by rw [R.sz]; omega) ⟨.int zs.length, H, I.tok _, ⟨_, by rw [hl]⟩, q zs hnd hmm⟩
theorem lenSetSt_q {X : Cx} {P : Program} {w : World} (hP : X.prog = P) (hw : X.w = w) (hc : X.calm = true) : CallR X (.builtin "len") (rLenSetSt P w) := by
  subst hP; subst hw; exact cr_lenSetSt hc
def xLenSet (sq : State → Option (List D)) : State → Option D := fun α => bnd (bnd (sq α) dstrsL) fun zs => if zs.length < 64 then some (.int (nubS zs).length) else none
theorem ev_lenSet {sq : State → Option (List D)} {P : Program} {w : World} (h : EvqL e te sq) : Evp e (tCB (rLenSetSt P w) (tCons (tCB (rSetSt e.K P w) (tCons te tNil)) tNil)) (xLenSet sq) := fun c L S σ H α d R q Q k => by
  unfold xLenSet at q
  obtain ⟨zs, hz, q⟩ := bnd_some q
  obtain ⟨ds, h1, h2⟩ := bnd_some hz
  split at q
  · rename_i hl
    cases q
    refine h c L S σ H α ds R h1 _ fun a vs H' e1 sl r => ?_
    have hv := rep_dstrs h2 r
    subst hv
    refine ⟨a, zs, rfl, fz_le.seq sl, by omega, fun b S n hb hS hn => ?_⟩
    have s3 : Sm H' (upd H' b (SetSO P w b S n)) := .of fun x o z => by rw [upd_ne (ne_of_none z hb)]; exact z
    refine ⟨b, S, n, rfl, upd_same, by omega, fun ys nd mm => ?_⟩
    have hys : ys.length = (nubS zs).length := (perm_of_mem nd (nubS_nodup zs) fun z => by rw [mm z, hS z, nubS_mem]).length_eq
    exact k _ _ (e1.trans s3) (by rw [hys]; rfl)
  · cases q
@[simp] theorem a_xLenSet {sq : State → Option (List D)} {α : State} : xLenSet sq α = bnd (bnd (sq α) dstrsL) fun zs => if zs.length < 64 then some (.int (nubS zs).length) else none := (rfl)
end
end Ab
end
section
set_option maxRecDepth 100000
set_option maxHeartbeats 1000000
namespace Ab
open PySem L2 PyProof.Rows PySem.Spec
variable [Hd]
/-! ### data does not lean on exceptions' dicts -/
def SameX (F F' : Hp) : Prop := ∀ a o, F a = some o → (∀ fs, o ≠ HO.xd fs) → F' a = some o
theorem seqX {K : PySem.W.Frag} {F F' : Hp} {a : Addr} {vs : List V} (h : SameX F F') (t : SqL K F a vs) : SqL K F' a vs := by
  rcases t with (t | ⟨o, t⟩) | t
  · exact .inl (.inl (h _ _ t fun _ z => nomatch z))
  · exact .inl (.inr ⟨o, h _ _ t fun _ z => nomatch z⟩)
  · exact .inr t
theorem tupX {K : PySem.W.Frag} {F F' : Hp} {a : Addr} {vs : List V} (h : SameX F F') (t : SqT K F a vs) : SqT K F' a vs := by
  rcases t with (t | ⟨o, t⟩) | t
  · exact .inl (.inl (h _ _ t fun _ z => nomatch z))
  · exact .inl (.inr ⟨o, h _ _ t fun _ z => nomatch z⟩)
  · exact .inr t
mutual
theorem Rep.monoX {e : En} {F F' : Hp} (h : SameX F F') : ∀ (d : D) (v : V), Rep e F d v → Rep e F' d v
  | .non, _, r => r
  | .bl _, _, r => r
  | .int _, _, r => r
  | .str _, _, r => r
  | .ty _, _, r => r
  | .cls _, _, r => r
  | .tup ds, _, ⟨a, vs, q, t, r⟩ => ⟨a, vs, q, tupX h t, Reps.monoX h ds vs r⟩
  | .lst ds, _, ⟨a, vs, q, t, r⟩ => ⟨a, vs, q, seqX h t, Reps.monoX h ds vs r⟩
  | .ins c fs, _, ⟨a, dx, gs, q, t, r⟩ => ⟨a, dx, gs, q, h _ _ t (fun _ z => nomatch z), RepF.monoX h fs gs r⟩
  | .dic kvs, _, ⟨a, od, gs, q, t, r⟩ => ⟨a, od, gs, q, h _ _ t (fun _ z => nomatch z), RepD.monoX h kvs gs r⟩
theorem Reps.monoX {e : En} {F F' : Hp} (h : SameX F F') : ∀ (ds : List D) (vs : List V), Reps e F ds vs → Reps e F' ds vs
  | [], _, r => r
  | d :: ds, _, ⟨v, r, q, x, y⟩ => ⟨v, r, q, Rep.monoX h d v x, Reps.monoX h ds r y⟩
theorem RepF.monoX {e : En} {F F' : Hp} (h : SameX F F') : ∀ (fs : List (Str × D)) (gs : List (Str × V)), RepF e F fs gs → RepF e F' fs gs
  | [], _, r => r
  | (x, d) :: fs, _, ⟨v, r, q, y, z⟩ => ⟨v, r, q, Rep.monoX h d v y, RepF.monoX h fs r z⟩
theorem RepD.monoX {e : En} {F F' : Hp} (h : SameX F F') : ∀ (fs : List (Key × D)) (gs : List (Key × V)), RepD e F fs gs → RepD e F' fs gs
  | [], _, r => r
  | (x, d) :: fs, _, ⟨v, r, q, y, z⟩ => ⟨v, r, q, Rep.monoX h d v y, RepD.monoX h fs r z⟩
end
theorem sameX_del {L : List Addr} {H : Hp} {p : Addr} {fs : List (Str × V)} (hp : H p = some (.xd fs)) : SameX (fz L H) (fz L (del H p)) := fun a o q no => by
  obtain ⟨m, nh⟩ := fz_nh q
  have q := fz_le _ _ q
  have hne : a ≠ p := fun z => by rw [z, hp] at q; exact no fs (Option.some.inj q).symm
  exact fz_at (by rw [del_ne hne]; exact q) m nh
/-! ### classes whose __init__ may raise -/
structure CalIX (P : Program) (w : World) (K : PySem.W.Frag) (mg : Str → Option Value) (base : Heap) (x : Str) (C : Addr) (ps : List Str) (k : Nat) (sp : Sp) : Prop where
  ex : ∃ f fd, FnOk P w K mg base (L2.CX P w) k f fd ps sp ∧ Mk K C f ∧ Binds K fd ps [] ∧ mg x = some (.ref C)
def tMakeS (C : Addr) (sp : Sp) (E : L2.St → XK) (t : TA) : TE := fun σ H Q => t σ H fun vs H1 => ∀ x dx, H1 x = none → H1 dx = none → dx ≠ x →
  sp (.ref x :: vs) (upd (upd H1 dx (.own x)) x (.ins C dx [])) (fun v H2 => v = .non ∧ Q (.ref x) H2) (E σ)
section
variable {X : Cx} {C : Addr} {x : Str} {ps : List Str} {k j : Nat} {sp : Sp} {e : Expr} {es : List Expr} {t : TA} {p pos : Pos} {W : WX}
theorem pe_caliS (M : CalIX X.prog X.w X.K X.mg X.base x C ps k sp) (hr : Room j X.A) (hkj : k + 1 ≤ j) (hg : Gl X x) (tk : Takes X W) (ha : PA X (e :: es) t) (hdb : (x == ("__debug__" : Str)) = false := by decide) (he : starEach (e :: es) X.env = (false, eval e X.env) :: starEach es X.env := by rfl) (hpl : (backTo pos (starEach es X.env)).any (·.1) = false := by rfl) :
    PE X (.Call (.Name x p) (e :: es) [] pos) (tMakeS C sp (WE W) t) := by
  obtain ⟨f, fd, F, M, hb, hm⟩ := M.ex
  refine ⟨fun pins s σ H Q I h => ?_⟩
  refine wpAny_Call_Name_kw (ld_glob I hg hm ?_ hdb)
  refine PySem.W.callWith_K (h₀ := X.base) I.ok.mod.kin M.kp (thn (ha.run pos pins s σ H _ I h) fun us s1 ⟨vs, H1, I1, r, q⟩ => ⟨I1.kIn, ?_⟩) he hpl
  have hq := q (s1.heap.objs.size + 1) s1.heap.objs.size (I1.hok.fresh (Nat.le_succ _)) (I1.hok.fresh (Nat.le_refl _)) (Nat.ne_of_lt (Nat.lt_succ_self _))
  have I2 := Inv.made (C := C) I1
  have r2 : Vals (V.ref (s1.heap.objs.size + 1) :: vs) (Value.ref (s1.heap.objs.size + 1) :: us) := .cons rfl r
  have hl : (Value.ref (s1.heap.objs.size + 1) :: us).length = ps.length := by
    have e := r2.length
    rw [F.len _ _ _ _ hq] at e
    exact e.symm
  have b := hb _ (Value.ref (s1.heap.objs.size + 1) :: us) I2.kIn (by rw [List.append_nil]; exact hl)
  rw [List.append_nil] at b
  refine wpAny_call (make_map (f := f) I1.kIn M.makes M.init (beq_iff_eq.mp M.fn) (codeAny_mono (F.run _ X.stack _ _ ⟨Value.ref (s1.heap.objs.size + 1) :: us, []⟩ (Value.ref (s1.heap.objs.size + 1) :: us) _ _ (WE W σ) ((hr.mono hkj).make C us [])
    (I2.env0.make C us []) b r2 hq) fun r s' hq' => ?_))
  cases r with
  | error e => exact passAt tk σ pins _ _ e s' I2 hq'
  | ok fl =>
    cases fl with
    | ret u =>
      obtain ⟨v, H', I3, rv, ev, q3⟩ := I2.after hq'
      subst ev
      exact ⟨rv, ⟨V.ref (s1.heap.objs.size + 1), H', I3, rfl, q3⟩⟩
    | next => exact False.elim hq'
    | brk => exact False.elim hq'
    | cont => exact False.elim hq'
theorem pe_caliX0 (M : CalIX X.prog X.w X.K X.mg X.base x C ps k sp) (hr : Room j X.A) (hkj : k + 1 ≤ j) (hg : Gl X x) (ha : PA X (e :: es) t) (hdb : (x == ("__debug__" : Str)) = false := by decide) (he : starEach (e :: es) X.env = (false, eval e X.env) :: starEach es X.env := by rfl) (hpl : (backTo pos (starEach es X.env)).any (·.1) = false := by rfl) :
    PE X (.Call (.Name x p) (e :: es) [] pos) (tMake C sp [] E0 t) := by
  obtain ⟨f, fd, G, M, hb, hm⟩ := M.ex
  exact pe_make M G (hr.mono hkj) hg hm hb .nil passL ha hdb he hpl
end
/-- what a making gives, or raises -/
def mkX (c : String) (m : List A → MRes) (ds : List D) : XR := match m (.inn (.obj c []) :: ds.map .dat) with
  | .ok (.dat .non) (.inn (.obj c' fs) :: _) => if c' = c then .ok (.ins c fs) else .bad
  | .exc x => .exc x
  | _ => .bad
section
variable {e : En} {E : XK} {ta : TA}
theorem mkX_call {c : String} {m : List A → MRes} {sa : State → Option (List D)} {W : L2.St → XK} (h : Eva e ta sa) {cn : Cn} {L S : List Addr} {σ : L2.St} {H : Hp} {α : State} {ds : List D} (R : Rel e cn L S σ H α) (hs : sa α = some ds) {Q : VK}
    (hok : ∀ d, mkX c m ds = .ok d → ∀ v H', Sm H H' → Rel e cn L S σ H' α → Rep e (fz L H') d v → Q v H')
    (hex : ∀ x, mkX c m ds = .exc x → ∀ cls dd H', Sm H H' → Rel e cn L S σ H' α → XRep e (fz L H') H' x cls dd → (∀ p, dd = some p → H p = none) → W σ cls dd H') (hb : mkX c m ds ≠ .bad) :
    tMakeS (e.cls c) (spM e m) W ta σ H Q := by
  refine h cn L S σ H α ds R hs _ fun vs H1 e1 r1 => fun p dx hp hdx hne => ?_
  have R1 := R.up e1
  have hpL : p ∉ L ∧ ¬ Hd.hid p := fresh_nL R1.dm hp
  have sN : Sm H1 (upd (upd H1 dx (.own p)) p (.ins (e.cls c) dx [])) := .of fun b o z => by rw [upd_ne (ne_of_none z hp), upd_ne (ne_of_none z hdx)]; exact z
  have back : ∀ {H' : Hp}, Mod [p] (upd (upd H1 dx (.own p)) p (.ins (e.cls c) dx [])) H' → Sm H1 H' := fun {H'} md => sN.thenM md hp
  unfold mkX at hok hex hb
  refine ⟨p :: L, [p], .inn (.obj c []) :: ds.map .dat, R1.dm.new sN hp upd_same, fun b hb => by simp at hb; subst hb; simp, by simp only [innCount, count_dats]; omega, ⟨.ref p, vs, rfl, ⟨p, _, rfl, by simp, upd_same, ⟨dx, [], rfl, rfl⟩⟩, asrep_dats (r1.up (fz_cons sN hp))⟩, ?_, ?_, ?_⟩
  · intro r as' hm v H' md ar rr
    rw [hm] at hok hb
    cases r with
    | lst xs => exact absurd rfl hb
    | dat d =>
      cases d with
      | non =>
        cases as' with
        | nil => exact absurd rfl hb
        | cons a as' =>
          cases a with
          | inn ct =>
            cases ct with
            | obj c' fs =>
              dsimp only at hok hb
              by_cases hc : c' = c
              · subst hc
                rw [if_pos rfl] at hok
                obtain ⟨v0, w0, q0, ⟨p0, o0, q1, m0, ho, rc⟩, _⟩ := ar
                cases q0
                cases q1
                obtain ⟨dx', gs, rfl, rF⟩ := rc
                refine ⟨rr, hok _ rfl _ H' (e1.trans (back md)) (R1.up (back md)) ⟨p, dx', gs, rfl, fz_new hpL ho, RepF.mono (fz_anti fun a m => List.mem_cons_of_mem _ m) _ _ rF⟩⟩
              · rw [if_neg hc] at hb; exact absurd rfl hb
            | _ => exact absurd rfl hb
          | _ => exact absurd rfl hb
      | _ => exact absurd rfl hb
  · intro x' hm cls dd H' md xr fr
    rw [hm] at hex
    refine hex x' rfl cls dd H' (e1.trans (back md)) (R1.up (back md)) ⟨xr.1, xr.2.elim .inl fun ⟨q, gs, a1, a2, a3⟩ => .inr ⟨q, gs, a1, a2, RepF.mono (fz_anti fun a m => List.mem_cons_of_mem _ m) _ _ a3⟩⟩ (fun q hq => none_back R.inv (e1.trans sN) (fr q hq))
  · intro hm
    rw [hm] at hb
    exact hb rfl
/-- x = C(..), nothing raised -/
def xMakeX (c : String) (m : List A → MRes) (sa : State → Option (List D)) : State → Option D := fun α => bnd (sa α) fun ds => match mkX c m ds with | .ok d => some d | _ => none
theorem ev_makeX {c : String} {m : List A → MRes} {sa : State → Option (List D)} (h : Eva e ta sa) : Evp e (tMake (e.cls c) (spM e m) [] E0 ta) (xMakeX c m sa) := fun cn L S σ H α d R q Q k => by
  obtain ⟨ds, h1, q⟩ := bnd_some q
  cases hm : mkX c m ds with
  | ok d' =>
    rw [hm] at q; cases q
    have := mkX_call (W := fun _ => E0) (Q := Q) h R h1 (fun d' hd v H' s _ rv => k v H' s (by rw [hm] at hd; cases hd; exact rv)) (fun x hx => by rw [hm] at hx; cases hx) (by rw [hm]; simp)
    unfold tMakeS at this
    unfold tMake
    simpa using this
  | exc x => rw [hm] at q; cases q
  | bad => rw [hm] at q; cases q
@[simp] theorem a_xMakeX {c : String} {m : List A → MRes} {sa : State → Option (List D)} {α : State} : xMakeX c m sa α = bnd (sa α) fun ds => match mkX c m ds with | .ok d => some d | _ => none := (rfl)
end
/-! ### try: body except C as n: .. except D as k: .. -/
structure HI where
  c : Value
  i : Nat
  ts : Addr → Value → Option Addr → TS
inductive HOk (X : Cx) : List ExceptHandler → List HI → Prop
  | nil : HOk X [] []
  | cons {x n : Str} {c : Value} {i : Nat} {b₀ : Stmt} {suite : List Stmt} {np pos : Pos} {ts : Addr → Value → Option Addr → TS} {hs : List ExceptHandler} {his : List HI} (hi : X.N[i]? = some n) (hln : X.env.kindOf n = some .local) (hc : Names X x c)
      (hsu : ∀ (a : Addr) (oe : Obj) (cls : Value) (d : Option Addr) (pn : List (Addr × Obj)), Zc cls d oe → (∃ vs, oe.data = .fields vs) → PSs (X.suite a ((a, oe) :: pn)) (b₀ :: suite) (ts a cls d)) (r : HOk X hs his) :
      HOk X (.ExceptHandler (some (.Name x np)) (some n) (b₀ :: suite) pos :: hs) (⟨c, i, ts⟩ :: his)
def wMany (K : PySem.W.Frag) : List HI → Ends → WX
  | [], _ => fun _ _ _ _ => False
  | h :: r, D => fun cls d σ H => ∃ b, PySem.W.exmOne K cls h.c = some b ∧
    (b = true → ∀ a, H a = none → h.ts a cls d { nx := fun σ' H' => D.nx (σ'.set h.i none) H', rt := D.rt, bk := fun σ' H' => D.bk (σ'.set h.i none) H', ct := fun σ' H' => D.ct (σ'.set h.i none) H' } (σ.set h.i (some (.ref a))) H) ∧ (b = false → wMany K r D cls d σ H)
section
variable {X : Cx} {body : List Stmt} {h₀ : ExceptHandler} {hs : List ExceptHandler} {his : List HI} {pos : Pos} {tb : WX → TS}
theorem handle_many (hst : X.stack = X.env :: X.outer) (hN : X.N.Nodup) {pins : List (Addr × Obj)} {σ' : L2.St} {H' : Hp} {sI s' : Shared} {B h3 : Heap} {a : Addr} {cls : Value} {d : Option Addr} {D : Ends} (J : Inv X pins σ' H' sI)
    (nb : ∀ b o, sI.heap.get? b = some o → b ∉ frs X.stack → B.get? b = some o) (upA : sI.heap.UpToSlots h3) (os : s'.os = sI.os) (ag : AllBare s'.gens) (na : H' a = none) (hf : X.env.frame = some X.env.locals)
    (fl3 : HandSPX.FlyingZ B (X.env :: X.outer) a (Zc cls d) h3) : ∀ {hs : List ExceptHandler} {his : List HI}, HOk X hs his → wMany X.K his D cls d σ' H' →
    wpAny (model X.prog X.w) X.A (handleBy (.ref a) X.env hs) (SP X pins D) X.xe { s' with heap := h3 }
  | _, _, .nil, w => w.elim
  | _, _, .cons (x := x) (n := n) (c := c) (i := i) (b₀ := b₀) (suite := suite) (np := np) (pos := pos') (ts := ts) hi hln hc hsu r, ⟨b, hb1, hyes, hno⟩ => by
    have ok := J.ok
    have hloc : Loc X.env.scope n := .inl hln
    have J3 : Inv X pins σ' H' { s' with heap := h3 } := J.landed nb fl3.1 upA os ag
    obtain ⟨oe3, vs3, he3, hz3, hd3⟩ := fl3.there
    have notFr : ∀ {h : Heap} {o : Obj} {vs : Array Value}, h.FunFrames B (X.env :: X.outer) → h.get? a = some o → o.data = .fields vs → a ∉ frs (X.env :: X.outer) := fun {h o vs} ff e dd hm => by
      obtain ⟨_, o', e', hnf⟩ := ff.mem hm
      rw [e] at e'; cases e'
      exact hnf _ dd
    have nfr := notFr fl3.2.2.1 he3 hd3
    have nL : a ≠ X.env.locals := fun z => nfr (List.mem_filterMap.mpr ⟨X.env, List.mem_cons_self, by rw [hf, z]⟩)
    have nF : a ∉ X.fs := fun hm => by
      obtain ⟨e, he, q⟩ := List.mem_filterMap.mp hm
      exact nfr (List.mem_filterMap.mpr ⟨e, List.mem_cons_of_mem _ he, q⟩)
    have S3 := J3.suite he3 hd3 na nL nF
    refine wpAny_handleBy_cons (codeAny_handlers_test ?_) (by intro q; cases q)
    have LT : PySem.W.Looks (model X.prog X.w) h3 (typeOf (.ref a)) cls := fun A Q E s k q => wpAny_typeOf_ref (k _ _ he3) (by rw [hz3.1]; exact q)
    have LM := PySem.W.exm_one (M := model X.prog X.w) (J3.kIn) LT hb1
    have test : ∀ {Q : Value → Shared → Prop} {E : Value → Shared → Prop}, Q c { s' with heap := h3 } → wpAny (model X.prog X.w) (X.A.mark (some (.ref a))) (eval (.Name x np) X.env) Q E { s' with heap := h3 } := fun {Q E} q => by
      obtain ⟨hg, hdbg, hm | ⟨hm, hv, hnn⟩⟩ := hc
      · exact ld_glob (X := X.suite a ((a, oe3) :: (X.pn ++ pins))) S3 hg hm q hdbg
      · exact ld_blt (X := X.suite a ((a, oe3) :: (X.pn ++ pins))) S3 hg hm hv q hnn hdbg
    refine test (LM.here ?_)
    cases b with
    | true =>
      refine codeAny_handlers_suite_as ?_
      refine HandSPX.lands_againZ fl3 fun h4 fl4 up4 => ?_
      have J4 : Inv X pins σ' H' { s' with heap := h4 } := J.landed nb fl4.1 (upA.trans up4) os ag
      obtain ⟨oe4, vs4, he4, hz4, hd4⟩ := fl4.there
      have S4 := J4.suite he4 hd4 na nL nF
      refine store_ok (X := X.suite a ((a, oe4) :: (X.pn ++ pins))) (v := .ref a) S4 hN hi hloc rfl (fun s5 S5 => ?_) (.inr hln)
      refine wpAny_mono ((hsu a oe4 cls d (X.pn ++ pins) hz4 ⟨_, hd4⟩).run [] s5 _ H' _ S5 (hyes rfl a na)) (fun f s6 hsp => ?_) (fun _ _ z => False.elim z)
      have end_ : ∀ {σ6 : L2.St} {H6 : Hp} {Q : Shared → Prop}, Inv (X.suite a ((a, oe4) :: (X.pn ++ pins))) [] σ6 H6 s6 → (∀ s7, Inv X pins (σ6.set i none) H6 s7 → Q s7) →
          wpAny (model X.prog X.w) X.A (do bindName X.env n .none; unbindBehindTheSuite X.env n pos') (fun _ s7 => Q s7) X.xe s6 := fun {σ6 H6 Q} S6 hq => gone_ok (S6.unsuite ok) hN hi hln hq
      cases f with
      | next =>
        obtain ⟨σ6, H6, S6, q6⟩ := hsp
        exact end_ S6 fun s7 J7 => ⟨_, _, J7, q6⟩
      | brk =>
        obtain ⟨σ6, H6, S6, q6⟩ := hsp
        exact end_ S6 fun s7 J7 => ⟨_, _, J7, q6⟩
      | cont =>
        obtain ⟨σ6, H6, S6, q6⟩ := hsp
        exact end_ S6 fun s7 J7 => ⟨_, _, J7, q6⟩
      | ret u =>
        obtain ⟨v6, σ6, H6, S6, r6, q6⟩ := hsp
        exact end_ S6 fun s7 J7 => ⟨_, _, _, J7, r6, q6⟩
    | false => exact handle_many hst hN J nb upA os ag na hf fl3 r (hno rfl)
theorem ps_try_many (hst : X.stack = X.env :: X.outer) (hf : X.env.frame = some X.env.locals) (hN : X.N.Nodup) (hh : HOk X (h₀ :: hs) his)
    (hb : ∀ (W : WX) (pn : List (Addr × Obj)) (xe : Value → Shared → Prop), Takes (X.tr pn xe) W → PassesOwn (model X.prog X.w) X.A X.env xe → PSs (X.tr pn xe) body (tb W)) :
    PS X (.Try body (h₀ :: hs) [] [] pos) (fun D σ H => tb (wMany X.K his D) D σ H) := by
  refine ⟨fun pins s σ H D I h => ?_⟩
  have ok := I.ok
  have hfr : X.A.frames = some (X.env :: X.outer) := by rw [ok.frames, hst]
  refine wpAny_Try_except ?_
  refine wpAny_mono ((hb (wMany X.K his D) (X.pn ++ pins) (fun e s₁ => wpAny (model X.prog X.w) X.A (noteFrame e X.env) (fun _ s₂ => wpAny (model X.prog X.w) X.A (setFlight e none) (fun _ s₃ =>
    wpAny (model X.prog X.w) X.A (handleBy e X.env (h₀ :: hs)) (SP X pins D) X.xe s₃) X.xe s₂) X.xe s₁) (fun u s' xx => ?_) PassesOwn.looking).run [] s σ H D (I.toTry _) h) (fun f s1 hsp => ?_) (fun e s1 he => he)
  · obtain ⟨a, B, sI, pins', σ', H', cls, d, rfl, J', nb, up, sky, na, os, ag, w⟩ := xx
    have J : Inv X pins σ' H' sI := J'.ofTry ok
    have sky' : Sky B (X.env :: X.outer) a (Zc cls d) X.env.locals s'.heap := by rw [← hst]; exact sky
    show wpAny (model X.prog X.w) X.A (noteFrame (.ref a) X.env) _ _ _
    refine Sky.land Zc.steady hfr hf sky' fun h3 fl3 up3 => ?_
    exact handle_many hst hN J nb (up.trans up3) os ag na hf fl3 hh w
  · cases f with
    | next =>
      obtain ⟨σ', H', J', q⟩ := hsp
      exact wpAny_execs_nil ⟨σ', H', J'.ofTry ok, q⟩
    | brk =>
      obtain ⟨σ', H', J', q⟩ := hsp
      exact ⟨σ', H', J'.ofTry ok, q⟩
    | cont =>
      obtain ⟨σ', H', J', q⟩ := hsp
      exact ⟨σ', H', J'.ofTry ok, q⟩
    | ret u =>
      obtain ⟨v, σ', H', J', r, q⟩ := hsp
      exact ⟨v, σ', H', J'.ofTry ok, r, q⟩
end
/-! ### a suite, read -/
/-- a suite at its entry: the exception's fields stand as told -/
def SuR (e : En) (E : XK) (fs : List (Str × D)) (gs : List (Str × V)) (ts : TS) (s : State → Out) : Prop := ∀ c L S σ H α D, RepF e (fz L H) fs gs → Rel e c L S σ H α → OutOk e E c D (fz L H) (s α) → ts D σ H
abbrev HS := List String × Nat × (Exn → Addr → State → Out)
noncomputable def pickH : List HS → Exn → State → Out
  | [], _ => fun _ => .bad
  | (cs, j, su) :: r, x => if x.name ∈ cs then exAs j (su x) else pickH r x
noncomputable def sTryMk (mk : List D → XR) (sa : State → Option (List D)) (all : List String) (hs : List HS) : State → Out := fun α => match bnd (sa α) (fun ds => some (mk ds)) with
  | some (.ok _) => .nxt α
  | some (.exc x) => if x.name ∈ all ∧ x.fs ≠ [] then pickH hs x α else .bad
  | _ => .bad
section
variable {e : En} {E : XK} {ta : TA} {tu : TS}
theorem su_of {fs : List (Str × D)} {gs : List (Str × V)} {ts : TS} {s : State → Out} (h : ∀ F : Hp, RepF e F fs gs → Sts e E ts s) : SuR e E fs gs ts s := fun c L S σ H α D rf R k => h _ rf c L S σ H α D R k
inductive HMatch (e : En) (E : XK) (K : PySem.W.Frag) (all : List String) : List HI → List HS → Prop
  | nil : HMatch e E K all [] []
  | cons {c : Value} {j : Nat} {ts : Addr → Value → List (Str × V) → TS} {cs : List String} {su : Exn → Addr → State → Out} {his : List HI} {hs : List HS} (hx : ∀ nm ∈ all, PySem.W.exmOne K (.ref (e.cls nm)) c = some (decide (nm ∈ cs)))
      (hu : ∀ (x : Exn) (a : Addr) (gs : List (Str × V)), x.name ∈ cs → SuR e E x.fs gs (ts a (.ref (e.cls x.name)) gs) (su x a)) (r : HMatch e E K all his hs) : HMatch e E K all (⟨c, j, pinR ts⟩ :: his) ((cs, j, su) :: hs)
theorem wMany_pick {K : PySem.W.Frag} {all : List String} {x : Exn} {c : Cn} {L S : List Addr} {σ : L2.St} {H0 H' : Hp} {α : State} {p : Addr} {gs : List (Str × V)} {DE : Ends} (hall : x.name ∈ all) (R : Rel e c L S σ (del H' p) α) (hp : H' p = some (.xd gs)) (rf : RepF e (fz L H') x.fs gs) (s0 : Same (fz L H0) (fz L (del H' p))) :
    ∀ {his : List HI} {hs : List HS}, HMatch e E K all his hs → OutOk e E c DE (fz L H0) (pickH hs x α) → wMany K his DE (.ref (e.cls x.name)) (some p) σ H'
  | _, _, .nil, k => k.elim
  | _, _, .cons (c := c0) (j := j) (ts := ts) (cs := cs) (su := su) hx hu r, k => by
    refine ⟨_, hx _ hall, fun hc a ha => ⟨p, gs, rfl, hp, ?_⟩, fun hc => ?_⟩
    · have hc : x.name ∈ cs := of_decide_eq_true hc
      unfold pickH at k
      rw [if_pos hc] at k
      have hnb : exAs j (su x) α ≠ .bad := fun z => by rw [z] at k; exact k
      refine hu x a gs hc c L S _ _ _ _ (RepF.monoX (sameX_del hp) _ _ rf) (R.setA j a) ?_
      have k' : OutOk e E c DE (fz L H0) (eraseO j (su x a (α.set j (some (.adr a))))) := by rw [exAs_spec hnb a]; exact k
      exact (out_erase k').mono s0
    · have hc : ¬ x.name ∈ cs := of_decide_eq_false hc
      unfold pickH at k
      rw [if_neg hc] at k
      exact wMany_pick hall R hp rf s0 r k
theorem st_tryMk {c : String} {m : List A → MRes} {sa : State → Option (List D)} {K : PySem.W.Frag} {all : List String} {his : List HI} {hs : List HS} (hm : HMatch e E K all his hs) (h : Eva e ta sa) :
    Sts e E (fun D σ H => tDrop (tMakeS (e.cls c) (spM e m) (WE (wMany K his D)) ta) D σ H) (sTryMk (mkX c m) sa all hs) := fun cn L S σ H α D R k => by
  unfold sTryMk at k
  cases hs' : sa α with
  | none => rw [hs'] at k; exact k.elim
  | some ds =>
    rw [hs'] at k
    change OutOk e E cn D (fz L H) (match some (mkX c m ds) with
      | some (.ok _) => .nxt α
      | some (.exc x) => if x.name ∈ all ∧ x.fs ≠ [] then pickH hs x α else .bad
      | _ => .bad) at k
    refine mkX_call h R hs' (fun d hd v H' s2 R2 rv => ?_) (fun x hx cls dd H' s2 R2 xr fr => ?_) (fun hd => ?_)
    · rw [hd] at k
      exact k L S σ H' (fz_same s2) R2
    · rw [hx] at k
      dsimp only at k
      split at k
      · rename_i hc
        obtain ⟨p, gs, rfl, hp, rf⟩ := xr.2.resolve_left hc.2
        have hp1 : H p = none := fr p rfl
        have s3 : Sm H (del H' p) := s2.del hp1 hp trivial
        show wMany K his D cls (some p) σ H'
        rw [xr.1]
        exact wMany_pick hc.1 (R.up s3) hp rf (fz_same s3) hm k
      · exact k.elim
    · rw [hd] at k; exact k.elim
end
end Ab
end
section
set_option maxRecDepth 100000
set_option maxHeartbeats 1000000
namespace Ab
open PySem L2 PyProof.Rows PySem.Spec
variable [Hd]
/-! ### __init__(self, x): B.__init__(self, ".."); self.f = list(x) -/
def rListC (K : PySem.W.Frag) : List V → Hp → VK → Prop := fun xs H Q => ∃ p ys, xs = [.ref p] ∧ (SqL K H p ys ∨ SqT K H p ys) ∧ ∀ l, H l = none → Q (.ref l) (upd H l (.lst ys))
def spXIL (K : PySem.W.Frag) (C : Addr) (f : Str) : Sp := fun vs H Q _ => ∃ a l xs, vs = [.ref a, .ref l] ∧ SqL K H l xs ∧ H a = some (exo a C none) ∧ ∀ p, H p = none → ∀ dx, (upd H p (.lst xs)) dx = none → dx ≠ a →
  Q .non (upd (upd (upd H p (.lst xs)) dx (exd dx [(f, .ref p)])) a (exo a C (some dx)))
section
variable {P : Program} {w : World} {K : PySem.W.Frag} {mg : Str → Option Value} {base : Heap}
theorem fn_XIL {x qual : Str} {st : Stmt} {f C : Addr} {fd : FuncData} {a fl : Str} {tx : V} {k : Nat} (F : Fun K x qual st f fd) (S : FnScope ["self", a] ["self", a] (defScope st)) (T : OexC K C) (hno : PySem.W.findIn K (.ref C) fl = some none)
    (hbody : ∀ (cdv : Value) (A : Around) (outer : List Env) (s0 : Shared) (H : Hp) (E : XK), Room k (A.deeper (envOfC qual (defScope st) s0.heap.objs.size f cdv)) →
      PSs (cxOf CX0 P w K mg base ["self", a] qual (defScope st) f cdv A outer s0 H E).nox (defBody st) (tSeq (tDrop (tVeI K (tCons (tVar 0) (tCons (tC tx) tNil)))) (tOst K fl (tVar 0) (tCB (rListC K) (tCons (tVar 1) tNil))))) :
    FnOk P w K mg base CX0 (k + 1) f fd ["self", a] (spXIL K C fl) := by
  refine F.ok S (fun vs H Q E ⟨p, l, xs, h, _⟩ => by rw [h]; rfl) (fun cdv A outer s0 H vs Q E hr h => ?_)
  obtain ⟨p, l, xs, rfl, sl, hp, q⟩ := h
  refine ⟨_, hbody cdv A outer s0 H E hr, ?_⟩
  refine ⟨.ref p, rfl, p, C, [tx], rfl, Nat.le_of_ble_eq_true rfl, T, hp, ?_⟩
  refine ⟨.ref l, rfl, l, xs, rfl, .inl sl, fun pn hpn => ⟨.ref p, rfl, p, C, rfl, T, hno, .inl ⟨?_, fun dx h1 h2 => q pn hpn dx h1 h2⟩⟩⟩
  rw [upd_ne (ne_of_none hp hpn)]; exact hp
end
/-- own exceptions as facts, by their promise -/
structure ExMS (P : Program) (w : World) (K : PySem.W.Frag) (mg : Str → Option Value) (base : Heap) (x : Str) (C : Addr) (sp : Sp) (k : Nat) : Prop where
  T : OexC K C
  ex : ∃ fI fd a, PySem.W.findIn K (.ref C) "__init__" = some (some (.ref fI)) ∧ PySem.W.typeIn K (.ref fI) = some (.type "function") ∧ FnOk P w K mg base CX0 k fI fd ["self", a] sp ∧ Binds K fd ["self", a] []
  gC : mg x = some (.ref C)
theorem pmk_exms {X : Cx} {x : Str} {C : Addr} {sp : Sp} {k j : Nat} {e : Expr} {es : List Expr} {ta : TA} {p pos : Pos} (M : ExMS X.prog X.w X.K X.mg X.base x C sp k) (hr : Room j X.A) (hkj : k + 1 ≤ j) (hg : Gl X x) (ha : PA X (e :: es) ta)
    (hdb : (x == ("__debug__" : Str)) = false := by decide) (he : starEach (e :: es) X.env = (false, eval e X.env) :: starEach es X.env := by rfl) (hpl : (backTo pos (starEach es X.env)).any (·.1) = false := by rfl) :
    PMk X (.Call (.Name x p) (e :: es) [] pos) (tMkO C sp [] ta) := by
  obtain ⟨fI, fd, a, h1, h2, h3, h4⟩ := M.ex
  exact pmk_oex M.T h1 h2 h3 (hr.mono hkj) h4 .nil pass00 hg M.gC ha hdb he hpl
/-- raise C(e), e a list that C keeps anew -/
def sRaise1L (nm : String) (f : Str) (s : State → Option D) : State → Out := fun α => match s α with | some (.lst ds) => .exc ⟨nm, [(f, .lst ds)]⟩ | _ => .bad
section
variable {e : En} {E : XK} {te : TE} {t1 tu : TS}
theorem st_raise1L {nm : String} {f : Str} {s : State → Option D} (h : Evp e te s) : Sts e E (fun _ σ H => tMkO (e.cls nm) (spXIL e.K (e.cls nm) f) [] (tCons te tNil) σ H fun cls d H' => E cls d H') (sRaise1L nm f s) := fun c L S σ H α D R k => by
  unfold sRaise1L at k
  split at k
  · rename_i ds hs
    refine h c L S σ H α _ R hs _ fun v H1 e1 r1 => ⟨by show 1 ≤ 1000; decide, fun a ha => ?_⟩
    obtain ⟨l, xs, rfl, sl, rr⟩ := r1
    have sA : Sm H1 (upd H1 a (exo a (e.cls nm) none)) := .of fun b o z => by rw [upd_ne (ne_of_none z ha)]; exact z
    refine ⟨a, l, xs, rfl, (fz_le.seq ((fz_same sA).seq sl)), upd_same, fun p hp dx hdx hne => ⟨rfl, dx, [(f, .ref p)], upd_same, ?_, ?_, ?_⟩⟩
    · rw [upd_ne hne, upd_same]
    · have hpa : a ≠ p := fun z => by rw [← z, upd_same] at hp; cases hp
      by_cases hdp : dx = p
      · rw [hdp, upd_same] at hdx; cases hdx
      · rw [upd_ne hdp, upd_ne hne] at hdx; exact hdx
    · have hpa : p ≠ a := fun z => by rw [z, upd_same] at hp; cases hp
      have hp1 : H1 p = none := by rw [upd_ne hpa] at hp; exact hp
      have hdp : dx ≠ p := fun z => by rw [z, upd_same] at hdx; cases hdx
      have hd1 : H1 dx = none := by rw [upd_ne hdp, upd_ne hne] at hdx; exact hdx
      have same : Sm H1 (upd (del (upd (upd (upd (upd H1 a (exo a (e.cls nm) none)) p (.lst xs)) dx (exd dx [(f, .ref p)])) a (exo a (e.cls nm) (some dx))) a) dx (.xd [(f, .ref p)])) := .of fun b o hb => by
        have hba : b ≠ a := ne_of_none hb ha
        have hbd : b ≠ dx := ne_of_none hb hd1
        have hbp : b ≠ p := ne_of_none hb hp1
        rw [upd_ne hbd, del_ne hba, upd_ne hba, upd_ne hbd, upd_ne hbp, upd_ne hba]
        exact hb
      have hpl : (upd (del (upd (upd (upd (upd H1 a (exo a (e.cls nm) none)) p (.lst xs)) dx (exd dx [(f, .ref p)])) a (exo a (e.cls nm) (some dx))) a) dx (.xd [(f, .ref p)])) p = some (.lst xs) := by
        rw [upd_ne (Ne.symm hdp), del_ne hpa, upd_ne hpa, upd_ne (Ne.symm hdp), upd_same]
      have hpL0 := R.n0 ((R.up e1).h0 hp1)
      refine k _ _ _ (R.md.trans (.of (e1.trans same))) ⟨rfl, .inr ⟨dx, [(f, .ref p)], rfl, upd_same, .ref p, [], rfl, ⟨p, xs, rfl, .inl (.inl (fz_new hpL0 hpl)), Reps.mono ((fz_same same).trans (fz_anti R.l0)) _ _ rr⟩, rfl⟩⟩ (fun q hq => by cases hq; exact (R.up e1).h0 hd1)
  · exact k.elim
/-! ### suites that read their exception's field, whatever it is -/
theorem su_seq {fs : List (Str × D)} {gs : List (Str × V)} {s1 su : State → Out} (h1 : Sts e E t1 s1) (h2 : SuR e E fs gs tu su) : SuR e E fs gs (tSeq t1 tu) (sSeq s1 su) := fun c L S σ H α D rf R k => by
  refine h1 c L S σ H α { D with nx := tu D } R ?_
  unfold sSeq at k
  cases hs : s1 α with
  | nxt β =>
    rw [hs] at k
    intro L' S' σ' H' sm R'
    exact h2 c L' S' σ' H' β D (RepF.mono sm _ _ rf) R' (k.mono sm)
  | ret r β => rw [hs] at k; exact k
  | brk β => rw [hs] at k; exact k
  | cnt β => rw [hs] at k; exact k
  | exc x => rw [hs] at k; exact k
  | bad => rw [hs] at k; exact k.elim
def sXF (a : Addr) (j : Nat) (f : Str) (fs : List (Str × D)) (i : Nat) : State → Out := fun α => match α[j]? with
  | some (some (.adr b)) => if b = a then (match fs.lookup f with | some d => .nxt (α.set i (some (.dat d))) | none => .bad) else .bad
  | _ => .bad
theorem su_xf {nm : String} {a : Addr} {i j : Nat} {f : Str} {fs : List (Str × D)} {gs : List (Str × V)} (T : XfC e.K (e.cls nm)) (hno : PySem.W.findIn e.K (.ref (e.cls nm)) f = some none) :
    SuR e E fs gs (tAsg (tXfP e.K a (.ref (e.cls nm)) gs f (tVar j)) (gName i)) (sXF a j f fs i) := fun c L S σ H α D rf R k => by
  unfold sXF at k
  split at k
  · rename_i b hb
    split at k
    · rename_i hba
      subst hba
      cases hl : fs.lookup f with
      | none => rw [hl] at k; exact k.elim
      | some d0 =>
        rw [hl] at k
        obtain ⟨v, h1, h2⟩ := repF_lookup rf hl
        exact ⟨.ref b, adr_at R hb, rfl, _, v, rfl, T, hno, h1, k L S _ H (Same.refl _) (R.setD h2)⟩
    · exact k.elim
  · exact k.elim
@[simp] theorem a_sXF {a : Addr} {i j : Nat} {f : Str} {fs : List (Str × D)} {α : State} : sXF a j f fs i α = (match α[j]? with
  | some (some (.adr b)) => if b = a then (match fs.lookup f with | some d => .nxt (α.set i (some (.dat d))) | none => .bad) else .bad
  | _ => .bad) := (rfl)
@[simp] theorem a_sRaise1L {nm : String} {f : Str} {s : State → Option D} {α : State} : sRaise1L nm f s α = (match s α with | some (.lst ds) => .exc ⟨nm, [(f, .lst ds)]⟩ | _ => .bad) := (rfl)
@[simp] theorem a_sTryMk {mk : List D → XR} {sa : State → Option (List D)} {all : List String} {hs : List HS} {α : State} : sTryMk mk sa all hs α = (match bnd (sa α) (fun ds => some (mk ds)) with
  | some (.ok _) => .nxt α
  | some (.exc x) => if x.name ∈ all ∧ x.fs ≠ [] then pickH hs x α else .bad
  | _ => .bad) := (rfl)
end
end Ab
end
section
set_option maxRecDepth 100000
set_option maxHeartbeats 1000000
namespace Ab
open PySem L2 PyProof.Rows PySem.Spec
variable [Hd]
theorem hok_cons {X : Cx} {x n : Str} {c : Value} {i : Nat} {b₀ : Stmt} {suite : List Stmt} {np pos : Pos} {ts : Addr → Value → List (Str × V) → TS} {hs : List ExceptHandler} {his : List HI} (hi : X.N[i]? = some n) (hln : X.env.kindOf n = some .local) (hc : Names X x c)
    (hsu : ∀ (b dd : Addr) (oe od : Obj) (cls : Value) (fs : List (Str × V)) (pn : List (Addr × Obj)), Zc cls (some dd) oe → (∃ vs, oe.data = .fields vs) → OdOk od fs → PSs (X.suite b ((b, oe) :: (dd, od) :: pn)) (b₀ :: suite) (ts b cls fs)) (r : HOk X hs his) :
    HOk X (.ExceptHandler (some (.Name x np)) (some n) (b₀ :: suite) pos :: hs) (⟨c, i, pinR ts⟩ :: his) :=
  .cons hi hln hc (fun b oe cls d pn hz hd => pss_pin fun dd od fs e ho => hsu b dd oe od cls fs pn (e ▸ hz) hd ho) r
theorem hx_of {K : PySem.W.Frag} {cls : String → Addr} {nm : String} {c : Value} {cs : List String} {b : Bool} (h : PySem.W.exmOne K (.ref (cls nm)) c = some b) (hb : decide (nm ∈ cs) = b) : PySem.W.exmOne K (.ref (cls nm)) c = some (decide (nm ∈ cs)) := by rw [hb]; exact h
theorem hmatch_cons {e : En} {E : XK} {K : PySem.W.Frag} {all : List String} {c : Value} {j : Nat} {ts : Addr → Value → List (Str × V) → TS} {cs : List String} {su : Exn → Addr → State → Out} {his : List HI} {hs : List HS} (hx : ∀ nm ∈ all, PySem.W.exmOne K (.ref (e.cls nm)) c = some (decide (nm ∈ cs)))
      (hu : ∀ (x : Exn) (a : Addr) (gs : List (Str × V)), x.name ∈ cs → SuR e E x.fs gs (ts a (.ref (e.cls x.name)) gs) (su x a)) (r : HMatch e E K all his hs) : HMatch e E K all (⟨c, j, pinR ts⟩ :: his) ((cs, j, su) :: hs) := .cons hx hu r
theorem pe_bmK {X : Cx} {K : PySem.W.Frag} (h : X.K = K) {o e : Expr} {es : List Expr} {to : TE} {t : TA} {name : Str} {apos cpos : Pos} {T id : String} {r : V → List V → Hp → VK → Prop}
  (pa : PlainAttrs T) (slot : Slot T name id) (hty : typeOf (.builtin id) = pure (.type "method_descriptor")) (hm : MtR X id r) (ho : PE X o to) (ha : PA X (e :: es) t)
  (h1 : attributeBase o name X.env (eval o X.env) = eval o X.env := by rfl)
  (h2 : (((((backTo cpos (starEach (e :: es) X.env)).all fun x => !x.fst) && (backToKw cpos (keywordEach [] X.env)).all fun x => x.fst.isSome) && decide (((e :: es).length + ([] : List Keyword).length + if ([] : List Keyword).isEmpty = true then 0 else 1) < 30)) = true) := by rfl)
  (h3 : (apos.endLine == cpos.line) = true := by rfl) (h4 : starEach (e :: es) X.env = (false, eval e X.env) :: starEach es X.env := by rfl) (h5 : ((backTo cpos (starEach es X.env)).any fun x => x.fst) = false := by rfl) :
  PE X (.Call (.Attribute o name apos) (e :: es) [] cpos) (tBM K T r to t) := by subst h; exact pe_bm pa slot hty hm ho ha h1 h2 h3 h4 h5
theorem lenD_q {X : Cx} : CallR X (.builtin "len") rLenD := cr_lenD
end Ab
end
section
set_option maxRecDepth 100000
set_option maxHeartbeats 1000000
namespace Ab
open PySem L2 PyProof.Rows PySem.Spec
variable [Hd]
/-! ### data without dicts, in spite of a dict that comes and goes -/
mutual
def noDic : D → Bool
  | .tup xs => noDics xs
  | .lst xs => noDics xs
  | .ins _ fs => noDicF fs
  | .dic _ => false
  | _ => true
def noDics : List D → Bool
  | [] => true | d :: ds => noDic d && noDics ds
def noDicF : List (Str × D) → Bool
  | [] => true | (_, d) :: ds => noDic d && noDicF ds
end
def SameK (F F' : Hp) : Prop := ∀ a o, F a = some o → (∀ od gs, o ≠ HO.frz od (.dK gs)) → F' a = some o
theorem seqK {K : PySem.W.Frag} {F F' : Hp} {a : Addr} {vs : List V} (h : SameK F F') (t : SqL K F a vs) : SqL K F' a vs := by
  rcases t with (t | ⟨o, t⟩) | t
  · exact .inl (.inl (h _ _ t fun _ _ z => nomatch z))
  · exact .inl (.inr ⟨o, h _ _ t fun _ _ z => nomatch z⟩)
  · exact .inr t
theorem tupK {K : PySem.W.Frag} {F F' : Hp} {a : Addr} {vs : List V} (h : SameK F F') (t : SqT K F a vs) : SqT K F' a vs := by
  rcases t with (t | ⟨o, t⟩) | t
  · exact .inl (.inl (h _ _ t fun _ _ z => nomatch z))
  · exact .inl (.inr ⟨o, h _ _ t fun _ _ z => nomatch z⟩)
  · exact .inr t
mutual
theorem Rep.nodic {e : En} {F F' : Hp} (h : SameK F F') : ∀ (d : D) (v : V), noDic d = true → Rep e F d v → Rep e F' d v
  | .non, _, _, r => r
  | .bl _, _, _, r => r
  | .int _, _, _, r => r
  | .str _, _, _, r => r
  | .ty _, _, _, r => r
  | .cls _, _, _, r => r
  | .tup ds, _, n, ⟨a, vs, q, t, r⟩ => ⟨a, vs, q, tupK h t, Reps.nodic h ds vs n r⟩
  | .lst ds, _, n, ⟨a, vs, q, t, r⟩ => ⟨a, vs, q, seqK h t, Reps.nodic h ds vs n r⟩
  | .ins c fs, _, n, ⟨a, dx, gs, q, t, r⟩ => ⟨a, dx, gs, q, h _ _ t fun _ _ z => (nomatch z), RepF.nodic h fs gs n r⟩
  | .dic kvs, _, n, _ => by simp [noDic] at n
theorem Reps.nodic {e : En} {F F' : Hp} (h : SameK F F') : ∀ (ds : List D) (vs : List V), noDics ds = true → Reps e F ds vs → Reps e F' ds vs
  | [], _, _, r => r
  | d :: ds, _, n, ⟨v, r, q, x, y⟩ => by
    simp only [noDics, Bool.and_eq_true] at n
    exact ⟨v, r, q, Rep.nodic h d v n.1 x, Reps.nodic h ds r n.2 y⟩
theorem RepF.nodic {e : En} {F F' : Hp} (h : SameK F F') : ∀ (fs : List (Str × D)) (gs : List (Str × V)), noDicF fs = true → RepF e F fs gs → RepF e F' fs gs
  | [], _, _, r => r
  | (s, d) :: fs, _, n, ⟨v, r, q, x, y⟩ => by
    simp only [noDicF, Bool.and_eq_true] at n
    exact ⟨v, r, q, Rep.nodic h d v n.1 x, RepF.nodic h fs r n.2 y⟩
end
section
variable {e : En} {te tl : TE} {tr : TA}
/-- an own dict lent for an answer without dicts -/
def xLendKN (i : Nat) (s : State → Option D) : State → Option D := fun α => bnd (lendK i α) fun β => match s β with | some d => if noDic d = true then some d else none | none => none
theorem ev_lendKN (i : Nat) {sd : State → Option D} (h : Evp e te sd) : Evp e (tLockE te) (xLendKN i sd) := fun c L S σ H α d R q Q k => by
  obtain ⟨β, hβ, q⟩ := bnd_some q
  obtain ⟨kvs, hc, rfl⟩ : ∃ kvs, ctOf α[i]? = some (.dic kvs) ∧ β = α.set i (some (.dat (.dic kvs))) := by
    unfold lendK at hβ
    split at hβ
    · rename_i kvs hx; cases hβ; exact ⟨kvs, by rw [hx]; rfl, rfl⟩
    · rename_i kvs hx; cases hβ; exact ⟨kvs, by rw [hx]; rfl, rfl⟩
    · cases hβ
  obtain ⟨p, o, h1, mS, ho, gs, rfl, rr⟩ := R.at hc
  have mL := R.sub p mS
  refine ⟨p, .dK gs, ho, trivial, fun od => ?_⟩
  have anti : Same (fz L H) (fz (L.filter (· ≠ p)) (upd H p (.frz od (.dK gs)))) := fz_swap mL
  have hin : fz (L.filter (· ≠ p)) (upd H p (.frz od (.dK gs))) p = some (.frz od (.dK gs)) := fz_out (R.nh p mL)
  have R2 := R.lendW (d := .dic kvs) hc h1 mL ⟨p, od, gs, rfl, hin, RepD.mono anti _ _ rr.toD⟩
  split at q
  · rename_i d' hs
    split at q
    · rename_i hf
      cases q
      refine h _ _ _ σ _ _ d R2 hs _ fun v H' e1 r1 => ⟨e1.k _ _ upd_same (R.nh p mL), k v _ ⟨fun a u z nh => ?_, fun h => Hd.chg (e1.i (Hd.chg h (R.nh p mL) ho trivial)) (R.nh p mL) (e1.k _ _ upd_same (R.nh p mL)) trivial⟩ (Rep.nodic (fun a u z nz => ?_) d v hf r1)⟩
      · by_cases hp : a = p
        · subst hp; rw [upd_same]; rw [ho] at z; exact z
        · rw [upd_ne hp]; exact e1.k _ _ (by rw [upd_ne hp]; exact z) nh
      · obtain ⟨m, nh⟩ := fz_nh z
        replace z := fz_le _ _ z
        have hne : a ≠ p := fun y => by
          subst y
          rw [e1.k _ _ upd_same (R.nh a mL)] at z
          cases z
          exact nz _ _ rfl
        exact fz_at (by rw [upd_ne hne]; exact z) (fun y => m (List.mem_filter.mpr ⟨y, by simpa using hne⟩)) nh
    · cases q
  · cases q
@[simp] theorem a_xLendKN {i : Nat} {s : State → Option D} {α : State} : xLendKN i s α = (bnd (lendK i α) fun β => match s β with | some d => if noDic d = true then some d else none | none => none) := (rfl)
/-! ### a def that takes a new list for its own -/
def del (H : Hp) (p : Addr) : Hp := fun a => if a = p then none else H a
theorem del_at {H : Hp} {p : Addr} : del H p p = none := by unfold del; rw [if_pos rfl]
theorem del_ne {H : Hp} {p a : Addr} (h : a ≠ p) : del H p a = H a := by unfold del; rw [if_neg h]
theorem del_same {H H1 : Hp} {p : Addr} {u : HO} (s : Sm H H1) (n : H p = none) (h : H1 p = some u) (pl : Pl u) : Sm H (del H1 p) := ⟨fun a o q nh => by
  unfold del
  rw [if_neg (fun z => by rw [z, n] at q; cases q)]; exact s.k a o q nh, fun i => Hd.del (s.i i) (fun hh => Hd.al i hh n) h pl⟩
def spC (e : En) (m : List D → List D → Option D) : Sp := fun vs H Q _ => ∃ L p us xs ws ds d, vs = .ref p :: ws ∧ Dom L H ∧ (p ∉ L ∧ ¬ Hd.hid p) ∧ H p = some (.lst us) ∧ Reps e (fz (p :: L) H) xs us ∧ Reps e (fz (p :: L) H) ds ws ∧ m xs ds = some d ∧
  ∀ v H', Sm (del H p) H' → Rep e (fz L H') d v → Q v H'
def xCallC (m : List D → List D → Option D) (sl : State → Option (List D)) (sr : State → Option (List D)) : State → Option D := fun α => bnd (sl α) fun xs => bnd (sr α) (m xs)
theorem ev_callC {E : XK} {m : List D → List D → Option D} {sl sr : State → Option (List D)} (hl : Evl e tl sl) (hr : Eva e tr sr) : Evp e (tCall (spC e m) [] E (tCons tl tr)) (xCallC m sl sr) := fun c L S σ H α d R q Q k => by
  obtain ⟨xs, h1, q⟩ := bnd_some q
  obtain ⟨ds, h2, q⟩ := bnd_some q
  refine hl c L S σ H α xs R h1 _ fun p us H1 e1 n hp r1 => ?_
  have R1 : Rel e c (p :: L) S σ H1 α := R.more e1 n hp
  refine hr c (p :: L) S σ H1 α ds R1 h2 _ fun ws H2 e2 r2 => ?_
  refine ⟨L, p, us, xs, ws, ds, d, by rw [List.append_nil], dom_up (e1.trans e2) R.dm, fresh_nL R.dm n, e2.k _ _ hp (fresh_nL R.dm n).2, r1.up (fz_same e2), r2, q, fun v H' e3 r3 => k v H' ((del_same (e1.trans e2) n (e2.k _ _ hp (fresh_nL R.dm n).2) trivial).trans e3) r3⟩
@[simp] theorem a_xCallC {m : List D → List D → Option D} {sl sr : State → Option (List D)} {α : State} : xCallC m sl sr α = bnd (sl α) fun xs => bnd (sr α) (m xs) := (rfl)
def inC (n k : Nat) (xs ds : List D) : State := some (.own (.lst xs)) :: (ds.map (fun d => some (.dat d)) ++ List.replicate (n - k) none)
def runC (n k : Nat) (s : State → Out) : List D → List D → Option D := fun xs ds => if ds.length + 1 = k then (match s (inC n k xs ds) with
  | .ret (.dat d) _ => some d | _ => none) else none
theorem inC_rel {L : List Addr} {H : Hp} {p : Addr} {us ws : List V} {xs ds : List D} {N : List Str} (dm : Dom L H) (np : p ∉ L ∧ ¬ Hd.hid p) (hp : H p = some (.lst us)) (r1 : Reps e (fz (p :: L) H) xs us) (r2 : Reps e (fz (p :: L) H) ds ws) (hk : ws.length + 1 ≤ N.length) :
    Rel e ⟨L, [], del H p, L2.start N (.ref p :: ws)⟩ (p :: L) [p] (L2.start N (.ref p :: ws)) H (inC N.length (ws.length + 1) xs ds) where
  slot := fun i a q => by
    have hl := r2.len
    cases i with
    | zero =>
      cases q
      exact ⟨.ref p, by unfold L2.start; simp, p, _, rfl, by simp, del_at, hp, us, rfl, r1⟩
    | succ i =>
      unfold inC at q
      rw [List.getElem?_cons_succ] at q
      by_cases hi : i < ds.length
      · rw [List.getElem?_append_left (by simpa using hi), List.getElem?_map, List.getElem?_eq_getElem hi] at q
        cases q
        obtain ⟨v, h1, h2⟩ := r2.get (List.getElem?_eq_getElem hi)
        refine ⟨v, ?_, h2⟩
        unfold L2.start
        rw [List.getElem?_append_left (by simp; omega), List.getElem?_map, List.getElem?_cons_succ, h1]
        rfl
      · rw [List.getElem?_append_right (by simp; omega), List.getElem?_replicate] at q
        split at q <;> cases q
  sep := fun i j q hi hj _ _ => by
    have un : ∀ i : Nat, isOwn (inC N.length (ws.length + 1) xs ds)[i]? = true → i = 0 := fun i hi => by
      cases i with
      | zero => rfl
      | succ i =>
        exfalso
        unfold inC at hi
        rw [List.getElem?_cons_succ] at hi
        by_cases h : i < ds.length
        · rw [List.getElem?_append_left (by simpa using h), List.getElem?_map, List.getElem?_eq_getElem h] at hi
          simp [isOwn] at hi
        · rw [List.getElem?_append_right (by simp; omega), List.getElem?_replicate] at hi
          split at hi <;> simp [isOwn] at hi
    rw [un i hi, un j hj]
  inv := dm.inv
  h1 := fun q hh => by
    show del H p q ≠ none
    rw [del_ne (fun z : q = p => np.2 (by rw [← z]; exact hh))]; exact Hd.al dm.inv hh
  nh := fun q m => by
    rcases List.mem_cons.mp m with h | h
    · subst h; exact np.2
    · exact dm.nh q h
  dom := fun q m => by
    rcases List.mem_cons.mp m with h | h
    · subst h; rw [hp]; simp
    · exact dm.dom q h
  sub := fun q m => by simp only [List.mem_singleton] at m; subst m; simp
  l0 := fun q m => List.mem_cons_of_mem _ m
  l1 := fun q m => by
    rcases List.mem_cons.mp m with h | h
    · subst h; exact .inr del_at
    · exact .inl h
  s1 := fun q m => by simp only [List.mem_singleton] at m; subst m; exact .inr del_at
  md := ⟨fun a o q _ _ => by
    have q : del H p a = some o := q
    by_cases h : a = p
    · subst h; rw [del_at] at q; cases q
    · rw [del_ne h] at q; exact q, fun _ => dm.inv⟩
  s0 := fun _ h => nomatch h
  d0 := fun q m => by
    show del H p q ≠ none
    have h : q ≠ p := fun z => np.1 (by rw [← z]; exact m)
    rw [del_ne h]; exact dm.dom q m
  len := by
    unfold L2.start inC
    simp [r2.len]
end
section
variable {P : Program} {w : World} {K : PySem.W.Frag} {mg : Str → Option Value} {base : Heap}
theorem fn_C {cls : String → Addr} {x qual : Str} {st : Stmt} {f : Addr} {fd : FuncData} {N ps : List Str} {k : Nat} (s : State → Out) (F : Fun K x qual st f fd) (S : FnScope N ps (defScope st)) {n kk : Nat} (hn : N.length = n) (hkk : ps.length = kk) (hps : kk ≤ n) {m : List D → List D → Option D} (hmm : m = runC n kk s)
    (hbody : ∀ (cdv : Value) (A : Around) (outer : List Env) (s0 : Shared) (H : Hp) (E : XK), Room k (A.deeper (envOfC qual (defScope st) s0.heap.objs.size f cdv)) →
      ∃ t, PSs (cxOf CX0 P w K mg base N qual (defScope st) f cdv A outer s0 H E).nox (defBody st) t ∧ Sts ⟨K, cls⟩ E0 t s) : FnOk P w K mg base CX0 (k + 1) f fd ps (spC ⟨K, cls⟩ m) := by
  subst hn hkk hmm
  refine F.ok S (fun vs H Q E h => ?_) (fun cdv A outer s0 H vs Q E hr h => ?_)
  · obtain ⟨L, p, us, xs, ws, ds, d, rfl, dm, np, hp, r1, r2, hm, q⟩ := h
    unfold runC at hm
    split at hm
    · rename_i hl
      rw [List.length_cons, r2.len, hl]
    · cases hm
  · obtain ⟨L, p, us, xs, ws, ds, d, rfl, dm, np, hp, r1, r2, hm, q⟩ := h
    obtain ⟨t, h1, h2⟩ := hbody cdv A outer s0 H E hr
    refine ⟨t, h1, ?_⟩
    unfold runC at hm
    split at hm
    · rename_i hl
      have hvl : ws.length + 1 = ps.length := by rw [r2.len, hl]
      have R := inC_rel (N := N) dm np hp r1 r2 (by omega)
      rw [hvl] at R
      refine h2 _ _ _ _ _ _ _ R ?_
      split at hm
      · rename_i d' β hs
        cases hm
        rw [hs]
        intro v L' S' σ' H' R' rr
        exact q v H' R'.md.same (Rep.mono (fz_anti R'.l0) _ _ rr)
      · cases hm
    · cases hm
end
end Ab
end
section
set_option maxRecDepth 100000
set_option maxHeartbeats 1000000
namespace Ab
open PySem L2 PyProof.Rows PySem.Spec L2.DX
variable [Hd]
/-! ### list(d.items()), d a dict that is data -/
section
variable {X : Cx} {e : Expr} {td : TE} {apos cpos : Pos}
def tItemsK (td : TE) : TE := fun σ H Q => td σ H fun x H1 => ∃ d o kvs, x = .ref d ∧ H1 d = some (.frz o (.dK kvs)) ∧ ∀ p, H1 p = none → Q (.ref p) (upd H1 p (itemsO p d))
theorem pe_itemsK (he : PE X e td) (hbase : attributeBase e "items" X.env (eval e X.env) = eval e X.env := by rfl) (hline : (apos.endLine == cpos.line) = true := by rfl) :
    PE X (.Call (.Attribute e "items" apos) [] [] cpos) (tItemsK td) := by
  refine ⟨fun pins s σ H Q I h => ?_⟩
  refine wpAny_Call_method0_late hbase hline (thn (he.run pins s σ H _ I h) fun v s1 ⟨x, H1, I1, rx, d, o, kvs, ex, hd, q⟩ => ?_)
  subst ex
  obtain rfl : v = Value.ref d := rx
  obtain ⟨hs, hgd, hx, es, ep, vs, hdt, hsz, kv, hm⟩ := I1.frzK hd
  have hf : H1 s1.heap.objs.size = none := I1.hok.fresh (Nat.le_refl _)
  refine ⟨"dict", "dict.items", F.plainAttrs_dict, F.slot_dict_items, F.type_dict_items, hm.dictOf.typeIs, hm.dictOf.mapOf.noDict, Calls.callWith_builtin rfl (PySem.evalArgs_none ?_)⟩
  refine DT.callItems (es := es) (ep := ep) hs ⟨o, hgd, hx, hdt⟩ ?_
  exact ⟨.ref s1.heap.objs.size, upd H1 s1.heap.objs.size (itemsO s1.heap.objs.size d), I1.laid (t' := s1.toks) (fun b u e => Heap.get?_push_of_some _ e) (Nat.le_refl _) (itemsO_ok (Heap.get?_push_size _ rfl)), rfl, q _ hf⟩
def rListItems : List V → Hp → VK → Prop := fun xs H Q => ∃ p d o kvs, xs = [.ref p] ∧ H p = some (itemsO p d) ∧ H d = some (.frz o (.dK kvs)) ∧
  ∀ (H' : Hp) (q : Addr) (as : List Addr), (∀ b u, H b = some u → H' b = some u) → H q = none → H' q = some (.lst (as.map V.ref)) → as.length = kvs.length → (∀ (j : Nat) (kv : L2.Key × V) (a : Addr), kvs[j]? = some kv → as[j]? = some a → a ≠ q ∧ H a = none ∧ H' a = some (.tup [kV kv.1, kv.2])) → Q (.ref q) H'
theorem call_list_items (hc : X.calm = true) : CallR X (.type "list") rListItems := by
  intro pins s σ H xs us Q I r h
  obtain ⟨p, d, o, kvs, ex, hp, hd, q⟩ := h
  subst ex
  obtain ⟨u, eu, rx⟩ := vals1 r
  subst eu
  obtain rfl : u = Value.ref p := rx
  have view : s.heap.IsItemsView p d := (show ObjOk X.prog X.w H s.heap p (itemsO p d) from I.hok p _ hp).1
  obtain ⟨hs, hgd, hx, es, ep, vs, hdt, hsz, kv, hm⟩ := I.frzK hd
  have hlv : kvs.length = vs.length := Paired.length kv
  obtain ⟨es', ep', hraw, hes, hent⟩ := hm.dictOf.raw
  obtain ⟨o2, g1, g2, g3⟩ := hraw
  rw [hgd] at g1
  cases g1
  rw [hdt] at g3
  cases g3
  have hz : es.size ≤ sizeLine := by
    obtain ⟨_, z, _⟩ := I.hok d _ hd
    rw [hsz]; exact z
  refine PySem.W.dil_call (I.ok.hd hc) view ⟨o, hgd, hx, hdt⟩ hz fun h' tk acc c as hk hS hl hG hacc => ?_
  have nd : as.Nodup := List.Pairwise.imp (fun h => Nat.ne_of_lt h) hG.rise
  have I1 : Inv X pins σ (upd H s.heap.objs.size (.lst (as.map V.ref))) { s with heap := h', toks := tk } :=
    I.laid hk (Nat.le_refl _) (show ObjOk X.prog X.w _ _ _ (.lst (as.map V.ref)) from ⟨by rw [List.length_map, hl]; exact hz, acc.toList, c, by rw [hacc]; exact vals_refs as, by rw [Array.toArray_toList]; exact hS⟩)
  obtain ⟨H2, I2, keep, tups⟩ := takeT (P := fun (a : Addr) (ys : List V) => ∃ (j : Nat) (kv : L2.Key × V), as[j]? = some a ∧ kvs[j]? = some kv ∧ ys = [kV kv.1, kv.2]) I as _ I1 nd fun a ma => by
    have hab := hG.above a ma
    refine ⟨Nat.le_of_lt hab, by rw [upd_ne (Nat.ne_of_gt hab)]; exact I.hok.fresh (Nat.le_of_lt hab), ?_⟩
    obtain ⟨j, hj⟩ := List.mem_iff_getElem?.mp ma
    obtain ⟨hjs, hg⟩ := hG.pairs j a hj
    have hjk : j < kvs.length := by omega
    obtain ⟨⟨k, v⟩, hkv⟩ : ∃ kv, kvs[j]? = some kv := ⟨kvs[j], List.getElem?_eq_getElem hjk⟩
    obtain ⟨w, hw, rw_⟩ := kv_get kv hkv
    obtain ⟨e1, e2⟩ := hent j hjs k w hw
    refine ⟨_, ⟨j, (k, v), hj, hkv, rfl⟩, fun H3 => ?_⟩
    exact ⟨by show 2 ≤ sizeLine; decide, [es[j].key, es[j].val], .cons (relV_key e1) (.cons (by rw [e2]; exact rw_) .nil), ⟨_, hg, rfl, _, rfl⟩⟩
  have hfresh : H s.heap.objs.size = none := I.hok.fresh (Nat.le_refl _)
  refine ⟨.ref s.heap.objs.size, H2, I2, rfl, q H2 _ as (fun b u hb => keep b u (by rw [upd_ne (ne_of_none hb hfresh)]; exact hb)) hfresh (keep _ _ upd_same) (by omega) fun j kv a hjk hja => ?_⟩
  have ma : a ∈ as := List.mem_of_getElem? hja
  refine ⟨Nat.ne_of_gt (hG.above a ma), I.hok.fresh (Nat.le_of_lt (hG.above a ma)), ?_⟩
  obtain ⟨ys, ⟨i, kv', hi, hk', rfl⟩, ht⟩ := tups a ma
  have : i = j := by
    have hi2 : i < as.length := (List.getElem?_eq_some_iff.mp hi).1
    exact (List.getElem?_inj hi2 nd).mp (hi.trans hja.symm)
  subst this
  rw [hjk] at hk'
  cases hk'
  exact ht
end
section
variable {e : En} {te : TE} {sq : State → Option (List (Key × D))}
def xItmsL (sq : State → Option (List (Key × D))) : State → Option (List D) := fun α => bnd (sq α) fun kvs => if kvs.length ≤ 100000 then some (kvs.map fun kv => .tup [keyOf kv.1, kv.2]) else none
@[simp] theorem a_xItmsL {α : State} : xItmsL sq α = (bnd (sq α) fun kvs => if kvs.length ≤ 100000 then some (kvs.map fun kv => .tup [keyOf kv.1, kv.2]) else none) := (rfl)
theorem items_rep {F : Hp} {H' : Hp} {L : List Addr} {q : Addr} : ∀ {kvs : List (Key × D)} {gs : List (Key × V)} {as : List Addr}, RepD e F kvs gs → Same F (fz (q :: L) H') → as.length = gs.length →
    (∀ (j : Nat) (kv : Key × V) (a : Addr), gs[j]? = some kv → as[j]? = some a → (a ∉ (q :: L) ∧ ¬ Hd.hid a) ∧ H' a = some (.tup [kV kv.1, kv.2])) → Reps e (fz (q :: L) H') (kvs.map fun kv => .tup [keyOf kv.1, kv.2]) (as.map V.ref)
  | [], gs, as, r, _, hl, _ => by
    cases r
    have : as = [] := List.length_eq_zero_iff.mp (by simpa using hl)
    subst this; rfl
  | (k, d) :: kvs, _, [], ⟨v, r, q1, _, _⟩, _, hl, _ => by subst q1; simp at hl
  | (k, d) :: kvs, _, a :: as, ⟨v, r, q1, r1, r2⟩, s, hl, h => by
    subst q1
    obtain ⟨h1, h2⟩ := h 0 (k, v) a rfl rfl
    have ha : fz (q :: L) H' a = some (.tup [kV k, v]) := fz_at h2 h1.1 h1.2
    exact ⟨.ref a, as.map V.ref, rfl, ⟨a, [kV k, v], rfl, .inl (.inl ha), kV k, [v], rfl, rep_keyOf k, v, [], rfl, Rep.mono s d v r1, rfl⟩,
      items_rep r2 s (by simpa using hl) fun j kv b hj hb => h (j + 1) kv b (by simpa using hj) (by simpa using hb)⟩
theorem el_itemsL (h : EvqD e te sq) : Evl e (tCB rListItems (tCons (tItemsK te) tNil)) (xItmsL sq) := fun c L S σ H α xs R q Q k => by
  obtain ⟨kvs, h1, q⟩ := bnd_some q
  split at q
  · cases q
    refine h c L S σ H α kvs R h1 _ fun a od gs H1 e1 ha r1 => ?_
    refine ⟨a, od, gs, rfl, fz_le _ _ ha, fun p hp => ?_⟩
    have hpa : a ≠ p := fun z => by rw [← z] at hp; rw [fz_le _ _ ha] at hp; cases hp
    refine ⟨p, a, od, gs, rfl, upd_same, by rw [upd_ne hpa]; exact fz_le _ _ ha, fun H' q as keep hq hH' hl ht => ?_⟩
    have sub : Sm H1 (upd H1 p (itemsO p a)) := .of fun b o z => by rw [upd_ne (ne_of_none z hp)]; exact z
    have e3 : Sm H1 H' := .of fun b o z => keep b o (by rw [upd_ne (ne_of_none z hp)]; exact z)
    have hq1 : H1 q = none := by
      by_cases z : q = p
      · rw [z]; exact hp
      · rw [upd_ne z] at hq; exact hq
    refine k q _ H' (e1.trans e3) (none_back R.inv e1 hq1) hH' (items_rep r1 (fz_cons e3 hq1) hl fun j kv b hj hb => ?_)
    obtain ⟨t1, t0, t2⟩ := ht j kv b hj hb
    have nb : H1 b = none := by
      by_cases y : b = p
      · rw [y, upd_same] at t0; cases t0
      · rw [upd_ne y] at t0; exact t0
    have nh := fresh_nL (R.up e1).dm nb
    refine ⟨⟨fun m => ?_, nh.2⟩, t2⟩
    rcases List.mem_cons.mp m with z | z
    · exact t1 z
    · exact nh.1 z
  · cases q
end
end Ab
end
section
set_option maxRecDepth 100000
set_option maxHeartbeats 1000000
namespace Ab
open PySem L2 PyProof.Rows PySem.Spec
variable [Hd]
/-! ### {} handed on as data -/
def tFrzV (te : TE) : TE := fun σ H Q => te σ H fun v H1 => ∃ d u, v = .ref d ∧ H1 d = some u ∧ Mut (some u) ∧ ∀ od, Q v (upd H1 d (.frz od u))
theorem pe_frzV {X : Cx} {e : Expr} {t : TE} (h : PE X e t) : PE X e (tFrzV t) := by
  refine ⟨fun pins s σ H Q I hw => ?_⟩
  refine thn (h.run pins s σ _ _ I hw) fun v s1 ⟨x, H1, I2, r, d, u, _, hd, mu, q⟩ => ?_
  obtain ⟨od, I3⟩ := I2.lock hd mu
  exact ⟨x, _, I3, r, q od⟩
def xDic0 : State → Option D := fun _ => some (.dic [])
theorem ev_dic0 {e : En} : Evp e (tFrzV tDNewK) xDic0 := fun c L S σ H α d R q Q k => by
  cases q
  intro p hp
  refine ⟨p, .dK [], rfl, upd_same, trivial, fun od => ?_⟩
  have e1 : upd (upd H p (.dK [])) p (.frz od (.dK [])) = upd H p (.frz od (.dK [])) := upd_upd
  rw [e1]
  have s : Sm H (upd H p (.frz od (.dK []))) := .of fun b o z => by rw [upd_ne (ne_of_none z hp)]; exact z
  exact k (.ref p) _ s ⟨p, od, [], rfl, fz_new (fresh_nL R.dm hp) upd_same, rfl⟩
@[simp] theorem a_xDic0 {α : State} : xDic0 α = some (.dic []) := (rfl)
end Ab
end
section
set_option maxRecDepth 100000
set_option maxHeartbeats 1000000
namespace Ab
open PySem PySem.W PySem.Calls PySem.Spec PyProof.Rows PyProof.V L2 RT
variable [Hd]
/-! ### list(reversed(a list)) -/
section
variable {prog : Program} {w : World} {A : Around} {E : Value → Shared → Prop} {s : Shared}
theorem call_list_rev {it l : Addr} {items : Array Value} {Q : Value → Shared → Prop} (hh : A.handled = none) (hit : s.heap.IsRevIter it l ((items.size : Int) - 1)) (hl : s.heap.IsList l items) (hne : l ≠ it) (hn : items.size ≤ sizeLine)
    (hQ : ∀ h' tk acc c', (∀ b o, b ≠ it → s.heap.get? b = some o → h'.get? b = some o) → h'.get? s.heap.objs.size = some { cls := .type "list", dict := none, data := .seq acc c', slots := #[] } → ItemsOf (fun i v => items[items.size - 1 - i]? = some v) acc items.size →
      Q (.ref s.heap.objs.size) { s with heap := h', toks := tk }) :
    wpAny (model prog w) A (call (.type "list") [.ref it]) Q E s := by
  refine callType_codes (Q₁ := fun obj s₁ => obj = .ref s.heap.objs.size ∧ s₁ = { s with heap := s.heap.push { cls := .type "list", data := .seq #[] } }) PySem.F.called_list (PySem.F.typeCall_list_1 _) PySem.F.entry_list_init
    (code_list_new _ ⟨rfl, rfl⟩) fun obj s₁ h₁ => ?_
  obtain ⟨rfl, rfl⟩ := h₁
  have hS : (s.heap.push { cls := .type "list", data := .seq #[] }).get? s.heap.objs.size = some { cls := .type "list", data := .seq #[] } := Heap.get?_push_size _ rfl
  obtain ⟨oi, hoi, _⟩ := id hit
  obtain ⟨ol, hol, _⟩ := id hl
  have hSi : s.heap.objs.size ≠ it := Nat.ne_of_gt (Heap.lt_size hoi)
  have hSl : s.heap.objs.size ≠ l := Nat.ne_of_gt (Heap.lt_size hol)
  have hSf : s.heap.objs.size ∉ [it, l] := by simp only [List.mem_cons, List.not_mem_nil, or_false, not_or]; exact ⟨hSi, hSl⟩
  refine ⟨⟨_, hS, rfl⟩, PySem.F.args_list_init_2 _ _, ?_⟩
  generalize hh1 : s.heap.push { cls := .type "list", data := .seq #[] } = h1 at hS
  have hk1 : ∀ b o, s.heap.get? b = some o → h1.get? b = some o := fun b o e => by rw [← hh1]; exact Heap.get?_push_of_some _ e
  generalize hSS : s.heap.objs.size = S at *
  show wpAny _ A.in1.in1 (do let old ← Builtin.List.listItems (.ref S); Builtin.List.listUpdate (.ref S) (fun _ => #[]); letGo old.toList.reverse; Builtin.List.listExtendWith (.ref S) (.ref it) .none) _ _ _
  refine wpAny_bind ?_
  unfold Builtin.List.listItems
  refine wpAny_bind (wpAny_seqItems hS rfl (wpAny_pure ?_))
  show wpAny _ _ (updateSeq S (fun _ => #[]) >>= fun _ => letGo (#[] : Array Value).toList.reverse >>= fun _ => Builtin.List.listExtendWith (.ref S) (.ref it) .none) _ _ _
  refine wpAny_bind (wpAny_updateSeq hS rfl ?_)
  have hS₂ := Heap.get?_update_self (Obj.mapSeq (fun _ => (#[] : Array Value))) hS rfl
  have oth : ∀ b o, b ≠ S → h1.get? b = some o → (h1.update S (Obj.mapSeq (fun _ => (#[] : Array Value)))).get? b = some o :=
    fun b o hb e => (Heap.get?_update_other _ _ (Ne.symm hb)).trans e
  refine wpAny_bind (wpAny_letGo ?_)
  generalize h1.update S (Obj.mapSeq (fun _ => (#[] : Array Value))) = h2 at *
  have hit2 : h2.IsRevIter it l ((items.size : Int) - 1) := hit.at fun o e => oth _ _ (Ne.symm hSi) (hk1 _ _ e)
  have hl2 : h2.IsList l items := hl.at fun o e => oth _ _ (Ne.symm hSl) (hk1 _ _ e)
  have hT : ({ s with heap := h2 } : Shared).TypeIs (.ref it) "list_reverseiterator" := Heap.IsRevIter.typeIs (s := { s with heap := h2 }) hit2
  have hsr : Builtin.List.listSameRef (.ref S) (.ref it) = false := by simp [Builtin.List.listSameRef, hSi]
  unfold Builtin.List.listExtendWith
  refine wpAny_bind (wpAny_typeOf hT ?_)
  rw [if_neg (by rw [hsr]; decide)]
  refine wpAny_bind (wpAny_pyIter_revIter (s := { s with heap := h2 }) hit2 ?_)
  refine wpAny_bind (wpAny_holding ?_)
  unfold Builtin.List.listLengthHint
  refine wpAny_bind (wpAny_specialOf hT nolen_lri ?_)
  show wpAny _ _ (specialOf (Value.ref it) (Str.ofString "__length_hint__") >>= _) _ _ _
  refine wpAny_bind (wpAny_specialOf hT hint_lri ?_)
  generalize hid : ("list_reverseiterator.__length_hint__" : String) = id0
  wp_delta
  rw [show splitId id0 = some ("list_reverseiterator", "__length_hint__") from by subst hid; decide +kernel]
  subst hid
  refine wpAny_bind (wpAny_isInstance (b := true) hT (by rw [isSubtype_type]; kernel_rfl) ?_)
  refine wpAny_pure ?_
  rw [if_neg (by decide)]
  have e0 : ((items.size : Nat) : Int) - 1 - ((0 : Nat) : Int) = (items.size : Int) - 1 := by omega
  refine wpAny_pure ⟨plainId_quiet PySem.F.plain_extend_loop _, codeAny_extend_loopS (Walks.listRev (A := A.in1.in1) hh it l hne items).toS hn S hSf _ items.size 0 _ _ _ rfl (Nat.zero_le _) ⟨Nat.zero_le _, by rw [e0]; exact hit2, hl2⟩ hS₂ (ItemsOf.nil _) fun s' acc' c' hm hS' hacc => ?_⟩
  rw [Moved.eq_with hm]
  refine ⟨rfl, hQ s'.heap s'.toks acc' c' (fun b o hb e => ?_) hS' hacc⟩
  have hbS : b ≠ S := by rw [← hSS]; exact Nat.ne_of_lt (Heap.lt_size e)
  refine hm.heap b o (fun hmem => ?_) (oth b o hbS (hk1 b o e))
  rcases List.mem_cons.mp hmem with e' | hmem
  · exact hbS e'
  · exact hb (List.mem_singleton.mp hmem)
end
/-- list(reversed(x)), x a list: a new list -/
def tLstRev (K : PySem.W.Frag) (te : TE) : TE := fun σ H Q => te σ H fun v H1 => ∃ (a : Addr) (xs : List V), v = .ref a ∧ SqL K H1 a xs ∧ ∀ q, H1 q = none → Q (.ref q) (upd H1 q (.lst xs.reverse))
section
variable {X : Cx}
theorem pe_lstRev {e : Expr} {te : TE} {p p2 pos pos2 : Pos} (hc : X.calm = true) (hg : Gl X "list") (hm : X.mg "list" = none) (hg2 : Gl X "reversed") (hm2 : X.mg "reversed" = none) (he : PE X e te)
    (hs : starEach [e] X.env = (false, eval e X.env) :: starEach [] X.env := by rfl)
    (hs2 : starEach [.Call (.Name "reversed" p2) [e] [] pos2] X.env = (false, eval (.Call (.Name "reversed" p2) [e] [] pos2) X.env) :: starEach [] X.env := by rfl) :
    PE X (.Call (.Name "list" p) [.Call (.Name "reversed" p2) [e] [] pos2] [] pos) (tLstRev X.K te) := by
  refine ⟨fun pins s σ H Q I h => ?_⟩
  refine Call_ (ld_blt I hg hm boot_list (PyProof.Rows.callWith_type1 (args_cons (Call_ (ld_blt I hg2 hm2 PyProof.Rows.boot_reversed (PyProof.Rows.callWith_type1 (args_cons (thn (he.run pins s σ H _ I h) fun u s1 ⟨v, H1, I1, r1, q1⟩ => args_nil ?_) hs) hs rfl))) hs2) hs2 rfl))
  obtain ⟨a, xs, ev, hq, q⟩ := q1
  subst ev
  obtain rfl : u = Value.ref a := r1
  obtain ⟨its, rv, p', hz⟩ := I1.list hq
  refine call_reversed_list p'.isList (args_nil ?_)
  have k0 : ∀ b o, s1.heap.get? b = some o → (s1.heap.push (revObj a ((its.toArray.size : Int) - 1))).get? b = some o := fun b o e => Heap.get?_push_of_some _ e
  have I2 : Inv X pins σ H1 { s1 with heap := s1.heap.push (revObj a ((its.toArray.size : Int) - 1)) } := I1.kept (t' := s1.toks) k0
  obtain ⟨f0, f1, f2, f3, f4, f5⟩ := I1.fpOk (H' := H1) (b := s1.heap.objs.size) (Nat.le_refl _) (I1.hok.fresh (Nat.le_refl _))
  have hl := p'.isList
  obtain ⟨ol, hol, _⟩ := id hl
  have hne : a ≠ s1.heap.objs.size := Nat.ne_of_lt (Heap.lt_size hol)
  have hn : its.toArray.size ≤ sizeLine := by rw [List.size_toArray, ← rv.length]; exact hz
  refine call_list_rev (s := { s1 with heap := s1.heap.push (revObj a ((its.toArray.size : Int) - 1)) }) (I1.ok.hd hc) ⟨_, Heap.get?_push_size _ rfl, rfl, rfl⟩ (hl.push _) hne hn fun h' tk acc c' hk hS hi => ?_
  generalize hS0 : (s1.heap.push (revObj a ((its.toArray.size : Int) - 1))).objs.size = S0 at hS ⊢
  have hS0' : s1.heap.objs.size ≤ S0 := by rw [← hS0]; exact Nat.le_of_lt (Heap.lt_size (Heap.get?_push_size _ rfl))
  have I3 : Inv X pins σ H1 { s1 with heap := h', toks := tk } := I2.turned (t' := tk) (fun b o hb e => hk b o hb e) f0 f1 f3 f4 f5
  refine ⟨.ref S0, upd H1 S0 (.lst xs.reverse), ?_, rfl, q _ (I1.hok.fresh hS0')⟩
  exact I3.take (h' := h') (t' := tk) (fun b o _ e => e) (I1.fpOk hS0' (I1.hok.fresh hS0')) (show ObjOk X.prog X.w _ _ _ (.lst xs.reverse) from ⟨by rw [List.length_reverse]; exact hz, acc.toList, c', vals_rev rv hi, by rw [Array.toArray_toList]; exact hS⟩)
end
section
variable {e : En} {te : TE} {sq : State → Option (List D)}
def xLstRev (sq : State → Option (List D)) : State → Option (List D) := fun α => match sq α with | some xs => some xs.reverse | none => none
@[simp] theorem a_xLstRev {α : State} : xLstRev sq α = (match sq α with | some xs => some xs.reverse | none => none) := (rfl)
theorem el_lstRev (h : EvqL e te sq) : Evl e (tLstRev e.K te) (xLstRev sq) := fun c L S σ H α xs R q Q k => by
  unfold xLstRev at q
  cases hs : sq α with
  | none => rw [hs] at q; cases q
  | some ys =>
    rw [hs] at q; cases q
    refine h c L S σ H α ys R hs _ fun a vs H' e1 r1 r2 => ⟨a, vs, rfl, fz_le.seq r1, fun l hl => ?_⟩
    have s4 : Sm H' (upd H' l (.lst vs.reverse)) := same_upd hl
    exact k l vs.reverse _ (e1.trans s4) (none_back R.inv e1 hl) upd_same ((r2.up (fz_cons s4 hl)).rev)
end
end Ab
end
section
set_option maxRecDepth 100000
set_option maxHeartbeats 1000000
namespace Ab
open PySem L2 PyProof.Rows PySem.Spec
variable [Hd]
/-! ### sorted(x), x an own dict with texts for keys -/
def keyStrs : List (Key × D) → Option (List Str)
  | [] => some []
  | (.inr z, _) :: r => (keyStrs r).map (z :: ·)
  | _ :: _ => none
theorem keyStrs_keys : ∀ {kvs : List (Key × D)} {zs : List Str}, keyStrs kvs = some zs → kvs.map (·.1) = zs.map Sum.inr
  | [], _, h => by cases h; rfl
  | (.inr z, d) :: r, zs, h => by
    unfold keyStrs at h
    cases e : keyStrs r with
    | none => rw [e] at h; cases h
    | some ys => rw [e] at h; cases h; rw [List.map_cons, keyStrs_keys e]; rfl
  | (.inl z, d) :: r, zs, h => by cases h
def xSortK (i : Nat) : State → Option (List D) := fun α => match ctOf α[i]? with
  | some (.dic kvs) => bnd (keyStrs kvs) fun zs => if zs.length < 64 then some ((sortS zs).map .str) else none
  | _ => none
@[simp] theorem a_xSortK {i : Nat} {α : State} : xSortK i α = (match ctOf α[i]? with
  | some (.dic kvs) => bnd (keyStrs kvs) fun zs => if zs.length < 64 then some ((sortS zs).map .str) else none
  | _ => none) := (rfl)
section
variable {e : En}
theorem el_sortK {i : Nat} : Evl e (tCB (fun xs H Q => ∃ (a : Addr) (kvs : List (Key × V)) (ks : List Str), xs = [.ref a] ∧ Rd H a (.dK kvs) ∧ kvs.map (·.1) = ks.map Sum.inr ∧ ks.length < 64 ∧
    ∀ ys p, ys.Perm ks → sortedS ys = true → H p = none → Q (.ref p) (upd H p (.lst (ys.map V.str)))) (tCons (tVar i) tNil)) (xSortK i) := fun c L S σ H α xs R q Q k => by
  unfold xSortK at q
  split at q
  · rename_i kvs hx
    obtain ⟨zs, hz, q⟩ := bnd_some q
    split at q
    · rename_i hl
      cases q
      obtain ⟨p, o, h3, m1, ho, gs, rfl, r1⟩ := R.at hx
      refine ⟨.ref p, h3, p, gs, zs, rfl, Rd.of ho, by rw [r1.1, keyStrs_keys hz], hl, fun ys q perm hs hq => ?_⟩
      have s4 : Sm H (upd H q (.lst (ys.map V.str))) := .of fun b o z => by rw [upd_ne (ne_of_none z hq)]; exact z
      exact k q _ _ s4 hq upd_same (by rw [sort_is perm hs]; exact reps_strs _)
    · cases q
  · cases q
end
end Ab
end
section
set_option maxRecDepth 100000
set_option maxHeartbeats 1000000
namespace Ab
open PySem L2 PyProof.Rows PySem.Spec
variable [Hd]
/-! ### methods of data objects that may raise; what is evaluated first raises -/
section
variable {e : En} {E : XK} {to te : TE} {tr : TA} {ts tu : TS}
/-- o.m(..), where it raises nothing -/
def xMethX (c : String) (mn : Str) (m : List D → XR) (so : State → Option D) (sr : State → Option (List D)) : State → Option D := fun α => bnd (so α) fun o => match o with
  | .ins c' fs => if c' = c then (match fs.lookup mn with | none => bnd (sr α) fun ds => (match m (o :: ds) with | .ok d => some d | _ => none) | some _ => none) else none
  | _ => none
/-- .. what it raises -/
def gMethX (c : String) (mn : Str) (m : List D → XR) (so : State → Option D) (sr : State → Option (List D)) : State → Option Exn := fun α => bnd (so α) fun o => match o with
  | .ins c' fs => if c' = c then (match fs.lookup mn with | none => bnd (sr α) fun ds => (match m (o :: ds) with | .exc x => some x | _ => none) | some _ => none) else none
  | _ => none
theorem ev_methX {c : String} {mn : Str} {m : List D → XR} {so : State → Option D} {sr : State → Option (List D)} (ho : Evp e to so) (hr : Eva e tr sr) : Evp e (tMeth (e.cls c) mn (spX e m) [] E to tr) (xMethX c mn m so sr) := fun cn L S σ H α d R q0 Q k => by
  obtain ⟨o, h1, q1⟩ := bnd_some q0
  clear q0
  split at q1
  · rename_i c' fs
    split at q1
    · rename_i hc
      subst hc
      split at q1
      · rename_i hl
        obtain ⟨ds, h2, q2⟩ := bnd_some q1
        split at q2
        · rename_i d' hm
          cases q2
          refine ho cn L S σ H α _ R h1 _ fun v H1 e1 ⟨a, dx, gs, ev, ha, rf⟩ => ?_
          subst ev
          refine ⟨a, dx, gs, rfl, fz_le _ _ ha, repF_none rf hl, ?_⟩
          refine hr cn L S σ H1 α ds (R.up e1) h2 _ fun vs H2 e2 r2 => ?_
          have R2 := (R.up e1).up e2
          refine ⟨L, .ins c' fs :: ds, R2.dm, ⟨.ref a, vs, by rw [List.append_nil], ?_, r2⟩, fun d2 hd v H' s rv => ?_, fun x hx => ?_, fun hb => ?_⟩
          · exact ⟨a, dx, gs, rfl, fz_same e2 _ _ ha, RepF.mono (fz_same e2) _ _ rf⟩
          · rw [hm] at hd; cases hd
            exact k v H' ((e1.trans e2).trans s) rv
          · rw [hm] at hx; cases hx
          · rw [hm] at hb; cases hb
        · cases q2
      · cases q1
    · cases q1
  · cases q1
/-- te raises whatever is wished behind it -/
def RaE (e : En) (E : XK) (te : TE) (g : State → Option Exn) : Prop := ∀ cn L S σ H α x, Rel e cn L S σ H α → g α = some x → XOk e cn E x → ∀ Q, te σ H Q
def RaA (e : En) (E : XK) (ta : TA) (g : State → Option Exn) : Prop := ∀ cn L S σ H α x, Rel e cn L S σ H α → g α = some x → XOk e cn E x → ∀ Q, ta σ H Q
def RaS (e : En) (E : XK) (ts : TS) (g : State → Option Exn) : Prop := ∀ cn L S σ H α x, Rel e cn L S σ H α → g α = some x → XOk e cn E x → ∀ D, ts D σ H
theorem ra_methX {c : String} {mn : Str} {m : List D → XR} {so : State → Option D} {sr : State → Option (List D)} (ho : Evp e to so) (hr : Eva e tr sr) : RaE e E (tMeth (e.cls c) mn (spX e m) [] E to tr) (gMethX c mn m so sr) := fun cn L S σ H α x R q0 kx Q => by
  obtain ⟨o, h1, q1⟩ := bnd_some q0
  clear q0
  split at q1
  · rename_i c' fs
    split at q1
    · rename_i hc
      subst hc
      split at q1
      · rename_i hl
        obtain ⟨ds, h2, q2⟩ := bnd_some q1
        split at q2
        · rename_i x' hm
          cases q2
          refine ho cn L S σ H α _ R h1 _ fun v H1 e1 ⟨a, dx, gs, ev, ha, rf⟩ => ?_
          subst ev
          refine ⟨a, dx, gs, rfl, fz_le _ _ ha, repF_none rf hl, ?_⟩
          refine hr cn L S σ H1 α ds (R.up e1) h2 _ fun vs H2 e2 r2 => ?_
          have R2 := (R.up e1).up e2
          refine ⟨L, .ins c' fs :: ds, R2.dm, ⟨.ref a, vs, by rw [List.append_nil], ?_, r2⟩, fun d2 hd => ?_, fun x2 hx cls dd H' s xr fr => ?_, fun hb => ?_⟩
          · exact ⟨a, dx, gs, rfl, fz_same e2 _ _ ha, RepF.mono (fz_same e2) _ _ rf⟩
          · rw [hm] at hd; cases hd
          · rw [hm] at hx; cases hx
            exact kx cls dd H' (R2.md.trans (.of s)) ⟨xr.1, xr.2.elim .inl fun ⟨q, gs, a1, a2, a3⟩ => .inr ⟨q, gs, a1, a2, RepF.mono (fz_anti R2.l0) _ _ a3⟩⟩ fun p hp => R2.h0 (fr p hp)
          · rw [hm] at hb; cases hb
        · cases q2
      · cases q1
    · cases q1
  · cases q1
theorem ra_cons {g : State → Option Exn} (h : RaE e E te g) : RaA e E (tCons te tr) g := fun cn L S σ H α x R hg kx Q => h cn L S σ H α x R hg kx _
theorem ra_CB {r : List V → Hp → VK → Prop} {g : State → Option Exn} (h : RaA e E tr g) : RaE e E (tCB r tr) g := fun cn L S σ H α x R hg kx Q => h cn L S σ H α x R hg kx _
theorem ra_call {sp : Sp} {E' : XK} {g : State → Option Exn} (h : RaA e E tr g) : RaE e E (tCall sp [] E' tr) g := fun cn L S σ H α x R hg kx Q => h cn L S σ H α x R hg kx _
theorem ra_op {r : R2} {g : State → Option Exn} (h : RaE e E te g) : RaE e E (tOp r te to) g := fun cn L S σ H α x R hg kx Q => h cn L S σ H α x R hg kx _
theorem ra_meth {C : Addr} {mn : Str} {sp : Sp} {E' : XK} {g : State → Option Exn} (h : RaE e E te g) : RaE e E (tMeth C mn sp [] E' te tr) g := fun cn L S σ H α x R hg kx Q => h cn L S σ H α x R hg kx _
theorem ra_drop {g : State → Option Exn} (h : RaE e E te g) : RaS e E (tDrop te) g := fun cn L S σ H α x R hg kx D => h cn L S σ H α x R hg kx _
theorem ra_ret {g : State → Option Exn} (h : RaE e E te g) : RaS e E (tRet te) g := fun cn L S σ H α x R hg kx D => h cn L S σ H α x R hg kx _
theorem ra_asg {g : State → Option Exn} {tg : TG} (h : RaE e E te g) : RaS e E (tAsg te tg) g := fun cn L S σ H α x R hg kx D => h cn L S σ H α x R hg kx _
/-- a statement that raises what is evaluated first in it raises -/
def sOrX (g : State → Option Exn) (s : State → Out) : State → Out := fun α => match g α with | some x => .exc x | none => s α
theorem st_orX {g : State → Option Exn} {s : State → Out} (hg : RaS e E ts g) (h : Sts e E ts s) : Sts e E ts (sOrX g s) := fun cn L S σ H α D R k => by
  unfold sOrX at k
  cases hx : g α with
  | some x => rw [hx] at k; exact hg cn L S σ H α x R hx k D
  | none => rw [hx] at k; exact h cn L S σ H α D R k
@[simp] theorem a_sOrX {g : State → Option Exn} {s : State → Out} {α : State} : sOrX g s α = (match g α with | some x => .exc x | none => s α) := (rfl)
@[simp] theorem a_xMethX {c : String} {mn : Str} {m : List D → XR} {so : State → Option D} {sr : State → Option (List D)} {α : State} : xMethX c mn m so sr α = (bnd (so α) fun o => match o with
  | .ins c' fs => if c' = c then (match fs.lookup mn with | none => bnd (sr α) fun ds => (match m (o :: ds) with | .ok d => some d | _ => none) | some _ => none) else none
  | _ => none) := (rfl)
@[simp] theorem a_gMethX {c : String} {mn : Str} {m : List D → XR} {so : State → Option D} {sr : State → Option (List D)} {α : State} : gMethX c mn m so sr α = (bnd (so α) fun o => match o with
  | .ins c' fs => if c' = c then (match fs.lookup mn with | none => bnd (sr α) fun ds => (match m (o :: ds) with | .exc x => some x | _ => none) | some _ => none) else none
  | _ => none) := (rfl)
end
end Ab
end
section
set_option maxRecDepth 100000
set_option maxHeartbeats 1000000
namespace Ab
open PySem L2 PyProof.Rows PySem.Spec
variable [Hd]
/-! ### try: a suite of calls that may raise, before anything is written -/
def tMethS (C : Addr) (m : Str) (sp : Sp) (E : L2.St → XK) (ta : TE) (t : TA) : TE := fun σ H Q => ta σ H fun x H1 => ∃ a dx fs, x = .ref a ∧ H1 a = some (.ins C dx fs) ∧ fs.lookup m = none ∧
  t σ H1 fun vs H2 => sp (x :: vs) H2 Q (E σ)
section
variable {X : Cx} {C : Addr} {m : Str} {ps : List Str} {k j : Nat} {sp : Sp} {ta : TE} {o e : Expr} {es : List Expr} {t : TA} {apos pos p : Pos} {W : WX}
theorem pe_calmS {pl : Sem Bool} (he : PE X o ta) (c : Cls X.K C) (M : CalMX X.prog X.w X.K X.mg X.base C m ps k sp) (tk : Takes X W) (hr : Room j X.A) (hkj : k ≤ j) (ha : PA X (e :: es) t)
    (hst : starEach (e :: es) X.env = (false, eval e X.env) :: starEach es X.env := by rfl) (hpl : (backTo pos (starEach es X.env)).any (·.1) = false := by rfl)
    (ht : eval (.Call (.Attribute o m apos) (e :: es) [] pos) X.env = (do
      let ov ← eval o X.env
      standAt apos.atName
      let (f, first) ← holding [ov] (getMethod ov m pl)
      callWith pos f first (backTo pos (starEach (e :: es) X.env)) (backToKw pos (keywordEach [] X.env))) := by rfl) :
    PE X (.Call (.Attribute o m apos) (e :: es) [] pos) (tMethS C m sp (WE W) ta t) := by
  obtain ⟨f, fd, F, hm, hb⟩ := M.ex
  refine ⟨fun pins s σ H Q I h => ?_⟩
  refine PySem.W.methodCall_KW (pl := pl) (thn (he.run pins s σ H _ I h) fun u s1 ⟨x, H1, I1, rx, a, dx, fs, ex, ea, l, q⟩ => ?_) ht
  subst ex
  obtain rfl : u = Value.ref a := rx
  refine getmeth_ok I1 ea c hm l ?_
  refine PySem.W.callWith_K (first := [.ref a]) (h₀ := X.base) I.ok.mod.kin hm.kp (thn (ha.run pos pins s1 σ H1 _ I1 q) fun us s2 ⟨vs, H2, I2, r, q2⟩ => ⟨I2.kIn, ?_⟩) hst hpl
  exact run_fnS (us := .ref a :: us) (vs := .ref a :: vs) F (hr.mono hkj) hb (passAt tk σ) I2 (.cons rfl r) q2
end
section
variable {e : En} {E : XK} {to : TE} {tr : TA} {tt : TT}
/-- what a suite of a try does before anything is written: nothing, or it raises -/
inductive BR where
  | go | exc (x : Exn) | bad
def BtS (e : En) (tb : WX → TS) (s : State → BR) : Prop := ∀ (W : WX) cn L S σ H α (D : Ends), Rel e cn L S σ H α → (s α = .go → ∀ H', Sm H H' → Rel e cn L S σ H' α → D.nx σ H') →
  (∀ x, s α = .exc x → ∀ cls dd H', Sm H H' → XRep e (fz L H') H' x cls dd → (∀ p, dd = some p → H p = none) → W cls dd σ H') → s α ≠ .bad → tb W D σ H
/-- o.m(..) alone -/
def bMeth (c : String) (mn : Str) (m : List D → XR) (so : State → Option D) (sr : State → Option (List D)) : State → BR := fun α => match so α with
  | some (.ins c' fs) => if c' = c then (match fs.lookup mn, sr α with | none, some ds => (match m (.ins c' fs :: ds) with | .ok _ => .go | .exc x => .exc x | .bad => .bad) | _, _ => .bad) else .bad
  | _ => .bad
theorem bt_meth {c : String} {mn : Str} {m : List D → XR} {so : State → Option D} {sr : State → Option (List D)} (ho : Evp e to so) (hr : Eva e tr sr) : BtS e (fun W => tDrop (tMethS (e.cls c) mn (spX e m) (WE W) to tr)) (bMeth c mn m so sr) := fun W cn L S σ H α D R kg kx nb => by
  unfold bMeth at kg kx nb
  cases hs : so α with
  | none => rw [hs] at nb; exact absurd rfl nb
  | some o =>
    rw [hs] at kg kx nb
    cases o with
    | ins c' fs =>
      dsimp only at kg kx nb
      by_cases hc : c' = c
      · subst hc
        rw [if_pos rfl] at kg kx nb
        cases hl : fs.lookup mn with
        | some d => rw [hl] at nb; exact absurd rfl nb
        | none =>
          cases h2 : sr α with
          | none => rw [hl, h2] at nb; exact absurd rfl nb
          | some ds =>
            rw [hl, h2] at kg kx nb
            dsimp only at kg kx nb
            refine ho cn L S σ H α _ R hs _ fun v H1 e1 ⟨a, dx, gs, ev, ha, rf⟩ => ?_
            subst ev
            refine ⟨a, dx, gs, rfl, fz_le _ _ ha, repF_none rf hl, ?_⟩
            refine hr cn L S σ H1 α ds (R.up e1) h2 _ fun vs H2 e2 r2 => ?_
            have R2 := (R.up e1).up e2
            have e12 := e1.trans e2
            refine ⟨L, .ins c' fs :: ds, R2.dm, ⟨.ref a, vs, rfl, ?_, r2⟩, fun d2 hd v2 H' s2 _ => ?_, fun x hx cls dd H' s2 xr fr => ?_, fun hb => ?_⟩
            · exact ⟨a, dx, gs, rfl, fz_same e2 _ _ ha, RepF.mono (fz_same e2) _ _ rf⟩
            · rw [hd] at kg
              exact kg rfl H' (e12.trans s2) (R2.up s2)
            · rw [hx] at kx
              exact kx x rfl cls dd H' (e12.trans s2) xr fun p hp => none_back R.inv e12 (fr p hp)
            · rw [hb] at nb; exact absurd rfl nb
      · rw [if_neg hc] at nb; exact absurd rfl nb
    | _ => exact absurd rfl nb
def bIf (st : State → Option Bool) (s u : State → BR) : State → BR := fun α => match st α with | some true => s α | some false => u α | none => .bad
theorem bt_if {st : State → Option Bool} {s u : State → BR} {tb ub : WX → TS} (ht : Evt e tt st) (h1 : BtS e tb s) (h2 : BtS e ub u) : BtS e (fun W => tIfS tt (tb W) (ub W)) (bIf st s u) := fun W cn L S σ H α D R kg kx nb => by
  unfold bIf at kg kx nb
  cases hs : st α with
  | none => rw [hs] at nb; exact absurd rfl nb
  | some b =>
    rw [hs] at kg kx nb
    refine ht cn L S σ H α b R hs _ fun H1 e1 => ?_
    cases b with
    | true => exact h1 W cn L S σ H1 α D (R.up e1) (fun q H' s R' => kg q H' (e1.trans s) R') (fun x q cls dd H' s xr fr => kx x q cls dd H' (e1.trans s) xr fun p hp => none_back R.inv e1 (fr p hp)) nb
    | false => exact h2 W cn L S σ H1 α D (R.up e1) (fun q H' s R' => kg q H' (e1.trans s) R') (fun x q cls dd H' s xr fr => kx x q cls dd H' (e1.trans s) xr fun p hp => none_back R.inv e1 (fr p hp)) nb
/-- try: that suite, except C1 as e1: .. -/
noncomputable def sTryB (s : State → BR) (all : List String) (hs : List HS) : State → Out := fun α => match s α with
  | .go => .nxt α
  | .exc x => if x.name ∈ all ∧ x.fs ≠ [] then pickH hs x α else .bad
  | .bad => .bad
theorem st_tryB {tb : WX → TS} {s : State → BR} {K : PySem.W.Frag} {all : List String} {his : List HI} {hs : List HS} (hm : HMatch e E K all his hs) (h : BtS e tb s) :
    Sts e E (fun D σ H => tb (wMany K his D) D σ H) (sTryB s all hs) := fun cn L S σ H α D R k => by
  unfold sTryB at k
  refine h _ cn L S σ H α D R (fun q H' s2 R2 => ?_) (fun x q cls dd H' s2 xr fr => ?_) (fun q => ?_)
  · rw [q] at k
    exact k L S σ H' (fz_same s2) R2
  · rw [q] at k
    dsimp only at k
    split at k
    · rename_i hc
      obtain ⟨p, gs, rfl, hp, rf⟩ := xr.2.resolve_left hc.2
      have hp1 : H p = none := fr p rfl
      have s3 : Sm H (del H' p) := s2.del hp1 hp trivial
      show wMany K his D cls (some p) σ H'
      rw [xr.1]
      exact wMany_pick hc.1 (R.up s3) hp rf (fz_same s3) hm k
    · exact k.elim
  · rw [q] at k; exact k.elim
end
end Ab
end
section
set_option maxRecDepth 100000
set_option maxHeartbeats 1000000
namespace Ab
open PySem L2 PyProof.Rows PySem.Spec
variable [Hd]
/-! ### x is True, x is not False -/
section
variable {X : Cx}
theorem op_isB : OpR X (compareOp .Is) (fun x y H Q => ∃ b, y = .bl b ∧ Q (.bl (decide (x = .bl b))) H) := by
  intro pins s σ H x y v u Q I rx ry h
  obtain ⟨b, rfl, q⟩ := h
  cases ry
  show wpAny _ _ ((isSame v (Value.bool b)) >>= fun z => pure (Value.bool z)) _ _ s
  have key : ∀ r : Bool, plainIs v (.bool b) = true → (v == Value.bool b) = r → decide (x = .bl b) = r → wpAny (model X.prog X.w) X.A ((isSame v (Value.bool b)) >>= fun z => pure (Value.bool z)) (EP X pins σ Q) X.xe s := fun r h1 h2 h3 => by
    rw [h3] at q
    exact wpAny_bind (wpAny_isSame_plain h1 (by rw [h2]; exact wpAny_pure (fin_bl I q rfl)))
  cases x with
  | ref a => cases rx; exact key false rfl rfl (by simp)
  | non => cases rx; exact key false rfl rfl (by simp)
  | bl c => cases rx; exact key (decide (c = b)) rfl (by cases c <;> cases b <;> rfl) (by cases c <;> cases b <;> rfl)
  | int i => obtain ⟨t, rfl⟩ := rx; exact key false rfl rfl (by simp)
  | str x => obtain ⟨t, rfl⟩ := rx; exact key false rfl rfl (by simp)
  | byt x => obtain ⟨t, rfl⟩ := rx; exact key false rfl rfl (by simp)
  | flt x => obtain ⟨t, rfl⟩ := rx; exact key false rfl rfl (by simp)
  | ty n => cases rx; exact key false rfl rfl (by simp)
theorem op_isnotB : OpR X (compareOp .IsNot) (fun x y H Q => ∃ b, y = .bl b ∧ Q (.bl (!decide (x = .bl b))) H) := by
  intro pins s σ H x y v u Q I rx ry h
  obtain ⟨b, rfl, q⟩ := h
  cases ry
  show wpAny _ _ ((isSame v (Value.bool b)) >>= fun z => pure (Value.bool (!z))) _ _ s
  have key : ∀ r : Bool, plainIs v (.bool b) = true → (v == Value.bool b) = r → decide (x = .bl b) = r → wpAny (model X.prog X.w) X.A ((isSame v (Value.bool b)) >>= fun z => pure (Value.bool (!z))) (EP X pins σ Q) X.xe s := fun r h1 h2 h3 => by
    rw [h3] at q
    exact wpAny_bind (wpAny_isSame_plain h1 (by rw [h2]; exact wpAny_pure (fin_bl I q rfl)))
  cases x with
  | ref a => cases rx; exact key false rfl rfl (by simp)
  | non => cases rx; exact key false rfl rfl (by simp)
  | bl c => cases rx; exact key (decide (c = b)) rfl (by cases c <;> cases b <;> rfl) (by cases c <;> cases b <;> rfl)
  | int i => obtain ⟨t, rfl⟩ := rx; exact key false rfl rfl (by simp)
  | str x => obtain ⟨t, rfl⟩ := rx; exact key false rfl rfl (by simp)
  | byt x => obtain ⟨t, rfl⟩ := rx; exact key false rfl rfl (by simp)
  | flt x => obtain ⟨t, rfl⟩ := rx; exact key false rfl rfl (by simp)
  | ty n => cases rx; exact key false rfl rfl (by simp)
end
def isBl (a : D) (b : Bool) : Bool := match a with | .bl c => decide (c = b) | _ => false
def fIsB : D → D → Option D := fun a b => match b with | .bl b => some (.bl (isBl a b)) | _ => none
def fNotB : D → D → Option D := fun a b => match b with | .bl b => some (.bl (!isBl a b)) | _ => none
@[simp] theorem a_isB1 {c b : Bool} : fIsB (.bl c) (.bl b) = some (.bl (decide (c = b))) := (rfl)
@[simp] theorem a_isB2 {c b : Bool} : fNotB (.bl c) (.bl b) = some (.bl (!decide (c = b))) := (rfl)
theorem rep_isBl {e : En} {F : Hp} {d : D} {v : V} {b : Bool} (r : Rep e F d v) : decide (v = .bl b) = isBl d b := by
  cases d with
  | non => cases r; rfl
  | bl c => cases r; cases c <;> cases b <;> rfl
  | int b => cases r; rfl
  | str b => cases r; rfl
  | ty b => cases r; rfl
  | cls b => cases r; rfl
  | tup b => obtain ⟨a, vs, rfl, _⟩ := r; rfl
  | lst b => obtain ⟨a, vs, rfl, _⟩ := r; rfl
  | ins b c => obtain ⟨a, vs, _, rfl, _⟩ := r; rfl
  | dic b => obtain ⟨a, vs, _, rfl, _⟩ := r; rfl
theorem rv_isB {e : En} : RvD e (fun x y H Q => ∃ b, y = .bl b ∧ Q (.bl (decide (x = .bl b))) H) fIsB := fun L H dx dy x y d dm rx ry h Q q => by
  unfold fIsB at h
  split at h
  · rename_i b
    cases ry
    cases h
    exact ⟨b, rfl, by rw [rep_isBl rx]; exact q _ H (Sm.refl H) rfl⟩
  · cases h
theorem rv_isnotB {e : En} : RvD e (fun x y H Q => ∃ b, y = .bl b ∧ Q (.bl (!decide (x = .bl b))) H) fNotB := fun L H dx dy x y d dm rx ry h Q q => by
  unfold fNotB at h
  split at h
  · rename_i b
    cases ry
    cases h
    exact ⟨b, rfl, by rw [rep_isBl rx]; exact q _ H (Sm.refl H) rfl⟩
  · cases h
/-! ### data without lists, in spite of a list that comes and goes -/
mutual
def noLst : D → Bool
  | .tup xs => noLsts xs
  | .lst _ => false
  | .ins _ fs => noLstF fs
  | .dic kvs => noLstK kvs
  | _ => true
def noLsts : List D → Bool
  | [] => true | d :: ds => noLst d && noLsts ds
def noLstF : List (Str × D) → Bool
  | [] => true | (_, d) :: ds => noLst d && noLstF ds
def noLstK : List (Key × D) → Bool
  | [] => true | (_, d) :: ds => noLst d && noLstK ds
end
def SameL (F F' : Hp) : Prop := ∀ a o, F a = some o → (∀ vs, o ≠ HO.lst vs) → (∀ od vs, o ≠ HO.frz od (.lst vs)) → F' a = some o
theorem tupL {K : PySem.W.Frag} {F F' : Hp} {a : Addr} {vs : List V} (h : SameL F F') (t : SqT K F a vs) : SqT K F' a vs := by
  rcases t with (t | ⟨o, t⟩) | t
  · exact .inl (.inl (h _ _ t (fun _ z => nomatch z) fun _ _ z => nomatch z))
  · exact .inl (.inr ⟨o, h _ _ t (fun _ z => nomatch z) fun _ _ z => nomatch z⟩)
  · exact .inr t
mutual
theorem Rep.nolst {e : En} {F F' : Hp} (h : SameL F F') : ∀ (d : D) (v : V), noLst d = true → Rep e F d v → Rep e F' d v
  | .non, _, _, r => r
  | .bl _, _, _, r => r
  | .int _, _, _, r => r
  | .str _, _, _, r => r
  | .ty _, _, _, r => r
  | .cls _, _, _, r => r
  | .tup ds, _, n, ⟨a, vs, q, t, r⟩ => ⟨a, vs, q, tupL h t, Reps.nolst h ds vs n r⟩
  | .lst ds, _, n, _ => by simp [noLst] at n
  | .ins c fs, _, n, ⟨a, dx, gs, q, t, r⟩ => ⟨a, dx, gs, q, h _ _ t (fun _ z => nomatch z) fun _ _ z => (nomatch z), RepF.nolst h fs gs n r⟩
  | .dic kvs, _, n, ⟨a, od, gs, q, t, r⟩ => ⟨a, od, gs, q, h _ _ t (fun _ z => nomatch z) fun _ _ z => (nomatch z), RepD.nolst h kvs gs n r⟩
theorem Reps.nolst {e : En} {F F' : Hp} (h : SameL F F') : ∀ (ds : List D) (vs : List V), noLsts ds = true → Reps e F ds vs → Reps e F' ds vs
  | [], _, _, r => r
  | d :: ds, _, n, ⟨v, r, q, x, y⟩ => by
    simp only [noLsts, Bool.and_eq_true] at n
    exact ⟨v, r, q, Rep.nolst h d v n.1 x, Reps.nolst h ds r n.2 y⟩
theorem RepF.nolst {e : En} {F F' : Hp} (h : SameL F F') : ∀ (fs : List (Str × D)) (gs : List (Str × V)), noLstF fs = true → RepF e F fs gs → RepF e F' fs gs
  | [], _, _, r => r
  | (s, d) :: fs, _, n, ⟨v, r, q, x, y⟩ => by
    simp only [noLstF, Bool.and_eq_true] at n
    exact ⟨v, r, q, Rep.nolst h d v n.1 x, RepF.nolst h fs r n.2 y⟩
theorem RepD.nolst {e : En} {F F' : Hp} (h : SameL F F') : ∀ (fs : List (Key × D)) (gs : List (Key × V)), noLstK fs = true → RepD e F fs gs → RepD e F' fs gs
  | [], _, _, r => r
  | (s, d) :: fs, _, n, ⟨v, r, q, x, y⟩ => by
    simp only [noLstK, Bool.and_eq_true] at n
    exact ⟨v, r, q, Rep.nolst h d v n.1 x, RepD.nolst h fs r n.2 y⟩
end
section
variable {e : En} {te : TE}
/-- an own list lent for an answer without lists -/
def xLendLN (i : Nat) (s : State → Option D) : State → Option D := fun α => match ctOf α[i]? with
  | some (.lst xs) => (match s (α.set i (some (.dat (.lst xs)))) with | some d => if noLst d = true then some d else none | none => none)
  | _ => none
@[simp] theorem a_xLendLN {i : Nat} {s : State → Option D} {α : State} : xLendLN i s α = (match ctOf α[i]? with
  | some (.lst xs) => (match s (α.set i (some (.dat (.lst xs)))) with | some d => if noLst d = true then some d else none | none => none)
  | _ => none) := (rfl)
theorem ev_lendLN (i : Nat) {sd : State → Option D} (h : Evp e te sd) : Evp e te (xLendLN i sd) := fun c L S σ H α d R q Q k => by
  unfold xLendLN at q
  split at q
  · rename_i xs hc
    obtain ⟨p, o, h1, mS, ho, vs, rfl, rr⟩ := R.at hc
    have mL := R.sub p mS
    have hH : upd H p (.lst vs) = H := by
      funext a
      by_cases z : a = p
      · rw [z, upd_same, ho]
      · rw [upd_ne z]
    have anti : Same (fz L H) (fz (L.filter (· ≠ p)) H) := fz_anti fun a m => (List.mem_filter.mp m).1
    have hin : fz (L.filter (· ≠ p)) H p = some (.lst vs) := fz_at ho (fun z => by simpa using (List.mem_filter.mp z).2) (R.nh p mL)
    have R2 := R.lendW (d := .lst xs) (o := .lst vs) hc h1 mL ⟨p, vs, rfl, by rw [hH]; exact .inl (.inl hin), by rw [hH]; exact rr.up anti⟩
    rw [hH] at R2
    split at q
    · rename_i d' hs
      split at q
      · rename_i hf
        cases q
        refine h _ _ _ σ _ _ d R2 hs _ fun v H' e1 r1 => k v H' e1 (Rep.nolst (fun a u z n1 n2 => ?_) d v hf r1)
        obtain ⟨m, nh⟩ := fz_nh z
        replace z := fz_le _ _ z
        have hne : a ≠ p := fun y => by
          subst y
          rw [e1.k _ _ ho nh] at z
          cases z
          exact n1 _ rfl
        exact fz_at z (fun y => m (List.mem_filter.mpr ⟨y, by simpa using hne⟩)) nh
      · cases q
    · cases q
  · cases q
end
end Ab
end
section
set_option maxRecDepth 100000
set_option maxHeartbeats 1000000
namespace Ab
open PySem L2 PyProof.Rows PySem.Spec
variable [Hd]
/-! ### what is evaluated first raises: more places -/
section
variable {e : En} {E : XK} {te : TE} {tr : TA} {g : State → Option Exn}
def RaI (e : En) (E : XK) (wi : TI) (g : State → Option Exn) : Prop := ∀ cn L S σ H α x, Rel e cn L S σ H α → g α = some x → XOk e cn E x → ∀ R, wi σ H R
theorem ra_iL {K : PySem.W.Frag} (h : RaE e E te g) : RaI e E (iList K te) g := fun cn L S σ H α x R hg kx Q => h cn L S σ H α x R hg kx _
theorem ra_lc {wi : TI} {t1 : TG} {tt : TT} {vs : List Nat} (h : RaI e E wi g) : RaE e E (tLc wi t1 tt te vs) g := fun cn L S σ H α x R hg kx Q => h cn L S σ H α x R hg kx _
theorem ra_lst (h : RaA e E tr g) : RaE e E (tLst tr) g := fun cn L S σ H α x R hg kx Q => h cn L S σ H α x R hg kx _
theorem ra_methV {p : Addr × Sp} {ps : List (Addr × Sp)} {mn : Str} (h : RaE e E te g) : RaE e E (tMethV (p :: ps) mn te tr) g := fun cn L S σ H α x R hg kx Q => ⟨p, List.mem_cons_self, h cn L S σ H α x R hg kx _⟩
end
/-! ### d[k], the key got with side effects; a for over what is got with side effects -/
section
variable {e : En} {E : XK} {te tk : TE} {ts : TS} {s : State → Out}
def rGetD (sq : State → Option (List (Key × D))) (r : State → Res D) : State → Res D := fun α => match sq α with
  | some kvs => (match r α with
    | .ok d α1 => (match bnd (keyD d) (fun k => valD k kvs) with | some v => .ok v α1 | none => .bad)
    | .exc x => .exc x | .bad => .bad)
  | none => .bad
theorem ee_getD {sq : State → Option (List (Key × D))} {r : State → Res D} (h : EvqD e te sq) (hk : Eve e E tk r) : Eve e E (tDGet te tk) (rGetD sq r) := fun c L S σ H α R Q k kx nb => by
  unfold rGetD at k kx nb
  cases h1 : sq α with
  | none => rw [h1] at nb; exact absurd rfl nb
  | some kvs =>
    rw [h1] at k kx nb
    dsimp only at k kx nb
    refine h c L S σ H α kvs R h1 _ fun a od gs H1 e1 ha r1 => ?_
    refine hk c L S σ H1 α (R.up e1) _ (fun d α1 hs y H2 m2 R2 ry => ?_) (fun x hx => kx x (by rw [hx])) (fun hb => nb (by rw [hb]))
    rw [hs] at k nb
    dsimp only at k nb
    cases h3 : bnd (keyD d) (fun k => valD k kvs) with
    | none => rw [h3] at nb; exact absurd rfl nb
    | some dv =>
      rw [h3] at k
      obtain ⟨kk, h4, h5⟩ := bnd_some h3
      have hy := rep_key h4 ry
      subst hy
      have s2 := fz_mod m2 (R.up e1).sub
      obtain ⟨v, h6, h7⟩ := (repK_val (k := kk) r1.toK).1 dv h5
      exact ⟨a, v, rfl, by rw [← h6]; exact dget_frz (s2 _ _ ha) (Sm.refl _), k dv α1 rfl v H2 (Mod.trans (.of e1) m2) R2 (h7.up s2)⟩
@[simp] theorem a_rGetD {sq : State → Option (List (Key × D))} {r : State → Res D} {α : State} : rGetD sq r α = (match sq α with
  | some kvs => (match r α with
    | .ok d α1 => (match bnd (keyD d) (fun k => valD k kvs) with | some v => .ok v α1 | none => .bad)
    | .exc x => .exc x | .bad => .bad)
  | none => .bad) := (rfl)
def sForE (r : State → Res D) (gt : D → State → Option State) (body : State → Out) : State → Out := fun α => match r α with
  | .ok (.lst xs) α1 => loopF gt body xs α1
  | .ok _ _ => .bad | .exc x => .exc x | .bad => .bad
theorem walks_list {F : Hp} {a : Addr} {vs : List V} {xs : List D} {L : List Addr} {H : Hp} (r1 : SqL e.K (fz L H) a vs) (r2 : Reps e (fz L H) xs vs) : Walks e (Itl e.K a) (fz L H) xs := fun L2 H2 s2 _ i => by
  have t2 : SqL e.K H2 a vs := fz_le.seq (s2.seq r1)
  refine ⟨fun hi => ⟨vs, vs[i]'(by rw [r2.len]; exact hi), t2, List.getElem?_eq_getElem _⟩, fun hi => ⟨vs, t2, by rw [r2.len]; exact hi⟩, fun x v H3 hx ⟨e3, y⟩ => ?_⟩
  subst e3
  refine ⟨Sm.refl _, ?_⟩
  obtain ⟨v', h1, h2⟩ := r2.get hx
  have := y vs t2
  rw [h1] at this; cases this
  exact h2.up s2
theorem st_forE {g : TG} {r : State → Res D} {gt : D → State → Option State} {js : List Nat} (hi : Eve e E te r) (hg : Etg e g gt js) (hb : Sts e E ts s) : Sts e E (tFor (iList e.K te) g ts) (sForE r gt s) := fun c L S σ H α D R k => by
  unfold sForE at k
  refine hi c L S σ H α R _ (fun d α1 hs v H1 m1 R1 rv => ?_) (fun x hx => by rw [hx] at k; exact k) (fun hx => by rw [hx] at k; exact k)
  rw [hs] at k
  cases d with
  | lst xs =>
    dsimp only at k
    obtain ⟨a, vs, rfl, r1, r2⟩ := rv
    have wk := walks_list (F := H1) r1 r2
    have sH := fz_mod m1 R.sub
    refine ⟨a, rfl, ⟨vs, fz_le.seq r1⟩, ?_⟩
    refine ⟨fun i m σ' H' => m = xs.length - i ∧ i ≤ xs.length ∧ ∃ L' S' α', Rel e c L' S' σ' H' α' ∧ Same (fz L H1) (fz L' H') ∧ OutOk e E c D (fz L' H') (loopF gt s (xs.drop i) α'),
      ⟨xs.length, by simp, Nat.zero_le _, L, S, α1, R1, Same.refl _, OutOk.mono sH k⟩, ?_⟩
    rintro i m σ2 H2 ⟨rfl, hi, L2, S2, α2, R2, s2, k2⟩
    obtain ⟨w1, w2, w3⟩ := wk L2 H2 s2 R2.dm i
    by_cases hlt : i < xs.length
    · refine .inr ⟨w1 hlt, fun σ' H' => ∃ L' S' α', Rel e c L' S' σ' H' α' ∧ Same (fz L H1) (fz L' H') ∧ OutOk e E c D (fz L' H') (loopF gt s (xs.drop (i + 1)) α'), fun σ' H' h => ⟨xs.length - (i + 1), by omega, rfl, hlt, h⟩, fun v H3 y => ?_⟩
      obtain ⟨e3, r3⟩ := w3 xs[i] v H3 (List.getElem?_eq_getElem hlt) y
      rw [List.drop_eq_getElem_cons hlt] at k2
      unfold loopF at k2
      cases hgt : gt xs[i] α2 with
      | none => rw [hgt] at k2; exact k2.elim
      | some β =>
        rw [hgt] at k2
        have R3 := R2.up e3
        refine hg c L2 S2 σ2 H3 α2 xs[i] v β R3 r3 hgt _ fun σ4 _ _ R4 => ?_
        have f3 : Same (fz L2 H2) (fz L2 H3) := fz_same e3
        refine hb c L2 S2 σ4 H3 β _ R4 ?_
        dsimp only at k2
        cases hs : s β with
        | nxt β' => rw [hs] at k2; exact fun L5 S5 σ5 H5 a5 r5 => ⟨L5, S5, β', r5, s2.trans (f3.trans a5), OutOk.mono (f3.trans a5) k2⟩
        | cnt β' => rw [hs] at k2; exact fun L5 S5 σ5 H5 a5 r5 => ⟨L5, S5, β', r5, s2.trans (f3.trans a5), OutOk.mono (f3.trans a5) k2⟩
        | brk β' => rw [hs] at k2; exact fun L5 S5 σ5 H5 a5 r5 => k2 L5 S5 σ5 H5 (f3.trans a5) r5
        | ret r β' => rw [hs] at k2; exact k2
        | exc x => rw [hs] at k2; exact k2
        | bad => rw [hs] at k2; exact k2
    · have e2 : i = xs.length := by omega
      subst e2
      rw [List.drop_length] at k2
      exact .inl ⟨w2 (Nat.le_refl _), k2 L2 S2 σ2 H2 (Same.refl _) R2⟩
  | _ => exact k.elim
@[simp] theorem a_sForE {r : State → Res D} {gt : D → State → Option State} {body : State → Out} {α : State} : sForE r gt body α = (match r α with
  | .ok (.lst xs) α1 => loopF gt body xs α1
  | .ok _ _ => .bad | .exc x => .exc x | .bad => .bad) := (rfl)
end
end Ab
end
section
set_option maxRecDepth 100000
set_option maxHeartbeats 2000000
namespace Ab
open PySem PySem.Calls PySem.W PyProof.Rows
/-! ### sorted by a key that is called: what is true between the calls is the caller's own -/
/-- one object let go -/
def gone (h : Heap) (a : Addr) : Heap := { h with objs := h.objs.setIfInBounds a { cls := .none, data := .freed } }
theorem gone_at (h : Heap) (a : Addr) : (gone h a).get? a = none := by
  unfold gone Heap.get?
  by_cases q : a < h.objs.size
  · simp [Array.getElem?_setIfInBounds, q]
  · simp [Array.getElem?_setIfInBounds, q]
theorem gone_ne {h : Heap} {a b : Addr} (n : b ≠ a) : (gone h a).get? b = h.get? b := by
  unfold gone Heap.get?
  simp only []
  rw [Array.getElem?_setIfInBounds_ne (Ne.symm n)]
section
variable {prog : Program} {w : World} {A : Around} {E : Value → Shared → Prop} {P : PySem.Fin → Shared → Prop} {s : Shared} {a kS : Addr} {b : Bool} {vs : List Value} {e1 : Nat} {f : Value}
/-- all stays but two objects -/
def Stay2 (x y : Addr) (h h' : Heap) : Prop := ∀ c o, c ≠ x → c ≠ y → h.get? c = some o → h'.get? c = some o
theorem rest_J (J : Nat → List Value → Shared → Prop) (nk : s.heap.get? kS = some (seqObj "list" #[] 0)) (na : s.heap.get? a = some (seqObj "list" #[] e1)) (hka : kS ≠ a) (hZ : vs.length ≤ sizeLine) (j0 : J 0 [] s)
    (turn : ∀ i v ks s', vs[i]? = some v → J i ks s' → ∀ oS oA, s'.heap.get? kS = some oS → s'.heap.get? a = some oA →
      wpAny (model prog w) A (call f [v]) (fun k s'' => J (i + 1) (ks ++ [k]) s'' ∧ s''.heap.get? kS = some oS ∧ s''.heap.get? a = some oA) (fun _ _ => False) s')
    (stab : ∀ i ks s' h' tk, J i ks s' → Stay2 kS a s'.heap h' → J i ks { s' with heap := h', toks := tk })
    (fin : ∀ ks s', ks.length = vs.length → J vs.length ks s' → ∃ κ, SortsAt prog w A s' κ ks ∧ ∀ h' tk c, Stay2 kS a s'.heap h' → h'.get? a = some (seqObj "list" (sortVals κ b ks vs).toArray c) → P (.done (.ret .none)) { s' with heap := h', toks := tk }) :
    wpAny (model prog w) A (ksk_rest a f b vs.toArray e1 (.ref kS)) P E s := by
  unfold ksk_rest
  refine wpAny_bind (wpAny_rule ?_)
  first
    | rw [List.forIn_toArray]
    | (rw [← Array.forIn_toList]; simp only [List.toList_toArray])
  refine wpAny_bind (ksk_fold (fun i s' => ∃ kA c, kA.size = i ∧ J i kA.toList s' ∧ s'.heap.get? kS = some (seqObj "list" kA c) ∧ s'.heap.get? a = some (seqObj "list" #[] e1)) vs 0 s ⟨#[], 0, rfl, j0, nk, na⟩ ?one ?all)
  case one =>
    rintro j x s1 hx ⟨kA, c, hs, hj, nk1, na1⟩
    rw [Nat.zero_add] at hs hj ⊢
    have hjl : j < vs.length := (List.getElem?_eq_some_iff.mp hx).1
    have hkz : kA.size ≤ sizeLine := by omega
    refine wpAny_bind (wpAny_attempt (wpAny_mono (turn j x _ s1 hx hj _ _ nk1 na1) (fun k s2 hq => ?_) fun _ _ z => z.elim))
    obtain ⟨hj2, nk2, na2⟩ := hq
    try dsimp only
    have same2 := Heap.SameBut.update s2.heap kS (Obj.mapSeq (·.push k))
    refine wpAny_bind (listUpdate_at nk2 rfl ?_ hkz (by rw [Array.size_push]; omega))
    refine wpAny_pure ⟨rfl, kA.push k, _, by rw [Array.size_push, hs], ?_, get?_update_seq nk2 (·.push k), (same2.2 a hka.symm).trans na2⟩
    rw [Array.toList_push]
    exact stab _ _ s2 _ _ hj2 fun b o h1 _ q => (same2.2 b h1).trans q
  case all =>
    rintro s1 ⟨kA, c, hs, hj, nk1, na1⟩
    rw [Nat.zero_add] at hs hj
    refine wpAny_bind (listItems_at nk1 rfl ?_)
    obtain ⟨κ, S, q⟩ := fin kA.toList s1 (by rw [Array.length_toList, hs]) hj
    refine keyH_end (κ := κ) (h₁ := gone s1.heap kS) (fun b o h1 e => ?_) (gone_at _ _) nk1 na1 hka S hs hZ fun h' tk c2 kp hl => q h' tk c2 (fun b o h1 h2 e => kp b o h2 (by rw [gone_ne h1]; exact e)) hl
    by_cases hb : b = kS
    · rw [hb, gone_at] at e; cases e
    · rw [gone_ne hb] at e; exact e
theorem tree_J {n : Nat} (J : Addr → Nat → List Value → Shared → Prop) (ho : s.heap.get? a = some (seqObj "list" vs.toArray n)) (hZ : vs.length ≤ sizeLine)
    (j0 : ∀ kS h', s.heap.objs.size ≤ kS → (∀ c o, c ≠ a → s.heap.get? c = some o → h'.get? c = some o) → J kS 0 [] { s with heap := h' })
    (turn : ∀ kS i v ks s', kS ≠ a → vs[i]? = some v → J kS i ks s' → ∀ oS oA, s'.heap.get? kS = some oS → s'.heap.get? a = some oA →
      wpAny (model prog w) A (call f [v]) (fun k s'' => J kS (i + 1) (ks ++ [k]) s'' ∧ s''.heap.get? kS = some oS ∧ s''.heap.get? a = some oA) (fun _ _ => False) s')
    (stab : ∀ kS i ks s' h' tk, J kS i ks s' → Stay2 kS a s'.heap h' → J kS i ks { s' with heap := h', toks := tk })
    (fin : ∀ kS ks s', kS ≠ a → ks.length = vs.length → J kS vs.length ks s' → ∃ κ, SortsAt prog w A s' κ ks ∧ ∀ h' tk c, Stay2 kS a s'.heap h' → h'.get? a = some (seqObj "list" (sortVals κ b ks vs).toArray c) → P (.done (.ret .none)) { s' with heap := h', toks := tk }) :
    wpAny (model prog w) A (ksk_tree a f b) P E s := by
  have hlt : a < s.heap.objs.size := Heap.lt_size ho
  obtain ⟨e2, ho2⟩ : ∃ e2, (s.heap.update a (Obj.mapSeq fun _ => (#[] : Array Value))).get? a = some (seqObj "list" #[] e2) := ⟨_, get?_update_seq ho fun _ => #[]⟩
  unfold ksk_tree
  refine wpAny_bind (listItems_at ho rfl (wpAny_bind (listUpdate_at ho rfl ?_ (by rw [List.size_toArray]; exact hZ) (Nat.zero_le _))))
  refine wpAny_bind (seqEpoch_at ho2 rfl (wpAny_bind (wpAny_newTuple ?_ (by show vs.length ≤ _; exact hZ))))
  refine wpAny_bind (wpAny_newList (wpAny_holding ?_) (Nat.zero_le _))
  generalize hg : ((s.heap.update a (Obj.mapSeq fun _ => (#[] : Array Value))).push (seqObj "tuple" vs.toArray 0)) = g
  have gsz : g.objs.size = s.heap.objs.size + 1 := by rw [← hg, size_push', Heap.size_update]
  have na : g.get? a = some (seqObj "list" #[] e2) := by rw [← hg]; exact Heap.get?_push_of_some _ ho2
  have old : ∀ c o, c ≠ a → s.heap.get? c = some o → (g.push (seqObj "list" #[] 0)).get? c = some o := fun c o h e => by
    rw [← hg]
    exact Heap.get?_push_of_some _ (Heap.get?_push_of_some _ ((Heap.get?_update_ne _ _ _ _ h).trans e))
  have hka : g.objs.size ≠ a := Nat.ne_of_gt (by rw [gsz]; exact Nat.lt_succ_of_lt hlt)
  exact rest_J (s := { s with heap := g.push (seqObj "list" #[] 0) }) (kS := g.objs.size) (J g.objs.size) (Heap.get?_push_size _ rfl) (Heap.get?_push_of_some _ na) hka hZ (j0 _ _ (by omega) old)
    (fun i v ks s' => turn _ i v ks s' hka) (stab _) fun ks s' => fin _ ks s' hka
theorem sorted_J {l : Addr} {kw : List (Str × Value)} {Q : Value → Shared → Prop} (J : Addr → Addr → Nat → List Value → Shared → Prop) (hl : s.heap.IsList l vs.toArray) (hL : vs.length ≤ sizeLine) (ha1 : argsOk "sorted" ⟨[.ref l], kw⟩) (ha2 : ∀ x, argsOk "list.sort" ⟨[.ref x], kw⟩)
    (ht : ∀ x, Builtin.«list.sort» ⟨[.ref x], kw⟩ = ksk_tree x f b)
    (j0 : ∀ kS a h', s.heap.objs.size ≤ kS → s.heap.objs.size ≤ a → (∀ c o, s.heap.get? c = some o → h'.get? c = some o) → J kS a 0 [] { s with heap := h' })
    (turn : ∀ kS a i v ks s', kS ≠ a → vs[i]? = some v → J kS a i ks s' → ∀ oS oA, s'.heap.get? kS = some oS → s'.heap.get? a = some oA →
      wpAny (model prog w) A.in1.in1 (call f [v]) (fun k s'' => J kS a (i + 1) (ks ++ [k]) s'' ∧ s''.heap.get? kS = some oS ∧ s''.heap.get? a = some oA) (fun _ _ => False) s')
    (stab : ∀ kS a i ks s' h' tk, J kS a i ks s' → Stay2 kS a s'.heap h' → J kS a i ks { s' with heap := h', toks := tk })
    (fin : ∀ kS a ks s', kS ≠ a → ks.length = vs.length → J kS a vs.length ks s' → ∃ κ, SortsAt prog w A.in1.in1 s' κ ks ∧ ∀ h' tk c, Stay2 kS a s'.heap h' → h'.get? a = some (seqObj "list" (sortVals κ b ks vs).toArray c) → Q (.ref a) { s' with heap := h', toks := tk }) :
    wpAny (model prog w) A (call (.builtin "sorted") [.ref l] kw) Q E s := by
  refine sorted_of_sort hl hL ha1 ha2 fun E' => ?_
  rw [ht]
  have hcs : s.heap.objs.size ≤ (copyHeap s.heap vs).objs.size := by
    unfold copyHeap; simp only [size_push', Heap.size_update]; omega
  exact tree_J (s := { s with heap := copyHeap s.heap vs }) (fun kS => J kS (s.heap.objs.size + 1)) (copyHeap_at s.heap vs) hL
    (fun kS h' h1 h2 => j0 _ _ h' (Nat.le_trans hcs h1) (by omega) fun c o e => h2 c o (Nat.ne_of_lt (Nat.lt_succ_of_lt (Heap.lt_size e))) (copyHeap_old e))
    (fun kS => turn kS _) (fun kS => stab kS _) fun kS ks s' h1 h2 h3 => by
      obtain ⟨κ, S, q⟩ := fin kS _ ks s' h1 h2 h3
      exact ⟨κ, S, fun h' tk c h4 h5 => ⟨rfl, q h' tk c h4 h5⟩⟩
end
/-! ### sorting by keys that are tuples, each beginning with a whole number -/
mutual
theorem eqvL_self : ∀ x y : PyData, alL x y = true → x = y → PyData.eqv x y = true
  | .bool _, _, _, e => by subst e; simp [PyData.eqv]
  | .int _, _, _, e => by subst e; simp [PyData.eqv]
  | .str _, _, _, e => by subst e; simp [PyData.eqv]
  | .list xs, _, h, e => by subst e; simp only [PyData.eqv]; exact eqvLs_self xs xs (by simpa [alL] using h) rfl
  | .tuple xs, _, h, e => by subst e; simp only [PyData.eqv]; exact eqvLs_self xs xs (by simpa [alL] using h) rfl
  | .none, y, h, _ => by cases y <;> simp [alL] at h
  | .dict _, y, h, _ => by cases y <;> simp [alL] at h
theorem eqvLs_self : ∀ xs ys : List PyData, alLs xs ys = true → xs = ys → PyData.eqvAll xs ys = true
  | [], _, _, e => by subst e; simp [PyData.eqvAll]
  | x :: xs, _, h, e => by
    subst e
    obtain ⟨h1, h2⟩ := alLs_cons h
    have hx := eqvL_self x x h1 rfl
    rw [eqv_all_cons, hx, eqvLs_self xs xs (h2 hx) rfl]; rfl
end
mutual
theorem uniL {h : Heap} : ∀ (x y : PyData) (v : Value) (as bs : List Addr), alL x y = true → Reads h v x as → Reads h v y bs → x = y
  | .bool _, _, _, _, _, _, r, q => by cases r; cases q; rfl
  | .int _, _, _, _, _, _, r, q => by cases r; cases q; rfl
  | .str _, _, _, _, _, _, r, q => by cases r; cases q; rfl
  | .none, y, _, _, _, z, _, _ => by cases y <;> simp [alL] at z
  | .dict _, y, _, _, _, z, _, _ => by cases y <;> simp [alL] at z
  | .list xs, y, _, _, _, z, r, q => by
    cases y with
    | list ys =>
      cases r with
      | list a1 a2 a3 a4 =>
        cases q with
        | list b1 b2 b3 b4 =>
          cases a1.symm.trans b1
          cases a3.symm.trans b3
          exact congrArg PyData.list (uniLs xs ys _ _ _ (by simpa [alL] using z) a4 b4)
    | _ => simp [alL] at z
  | .tuple xs, y, _, _, _, z, r, q => by
    cases y with
    | tuple ys =>
      cases r with
      | tuple a1 a2 a3 a4 =>
        cases q with
        | tuple b1 b2 b3 b4 =>
          cases a1.symm.trans b1
          cases a3.symm.trans b3
          exact congrArg PyData.tuple (uniLs xs ys _ _ _ (by simpa [alL] using z) a4 b4)
    | _ => simp [alL] at z
theorem uniLs {h : Heap} : ∀ (xs ys : List PyData) (vs : List Value) (as bs : List Addr), alLs xs ys = true → ReadsAll h vs xs as → ReadsAll h vs ys bs → xs = ys
  | [], ys, _, _, _, _, r, q => by cases r; cases q; rfl
  | x :: xs, ys, _, _, _, z, r, q => by
    cases r with
    | cons r1 r2 =>
      cases q with
      | cons q1 q2 =>
        obtain ⟨z1, z2⟩ := alLs_cons z
        have e := uniL x _ _ _ _ z1 r1 q1
        have e2 := uniLs xs _ _ _ _ (z2 (eqvL_self _ _ z1 e)) r2 q2
        rw [e, e2]
end
/-- the kind of keys that such data make -/
noncomputable def kindL (h : Heap) (ds : List PyData) : PyProof.Rows.KeyKind where
  toKeyOrd := listOrd itemOrd
  keyOf v := open Classical in if z : ∃ d as, d ∈ ds ∧ Reads h v d as then some (keyToks z.choose) else none
  dflt := ([] : List (Int ⊕ List Nat))
theorem kindL_of {h : Heap} {ds : List PyData} (al : ∀ d ∈ ds, ∀ d' ∈ ds, alL d d' = true) {v : Value} {d : PyData} {as : List Addr} (m : d ∈ ds) (r : Reads h v d as) : (kindL h ds).keyOf v = some (keyToks d) := by
  have z : ∃ d as, d ∈ ds ∧ Reads h v d as := ⟨d, as, m, r⟩
  have e : (kindL h ds).keyOf v = some (keyToks z.choose) := dif_pos z
  obtain ⟨bs, m2, r2⟩ := z.choose_spec
  rw [e, uniL _ _ _ _ _ (al _ m2 _ m) r2 r]
theorem kindL_back {h : Heap} {ds : List PyData} {v : Value} {k : (kindL h ds).α} (e : (kindL h ds).keyOf v = some k) : ∃ d as, d ∈ ds ∧ Reads h v d as ∧ k = keyToks d := by
  by_cases z : ∃ d as, d ∈ ds ∧ Reads h v d as
  · have e2 : (kindL h ds).keyOf v = some (keyToks z.choose) := dif_pos z
    obtain ⟨bs, m2, r2⟩ := z.choose_spec
    rw [e2] at e
    cases e
    exact ⟨_, bs, m2, r2, rfl⟩
  · have e2 : (kindL h ds).keyOf v = none := dif_neg z
    rw [e2] at e; cases e
section
variable {prog : Program} {w : World} {A : Around} {E : Value → Shared → Prop} {s : Shared}
theorem katL {fin : Bool} {Q : Bool → Shared → Prop} : ∀ (xs ys : List PyData) (i : Nat) (vs ws : List Value) (as bs : List Addr), ReadsAll s.heap vs xs as → ReadsAll s.heap ws ys bs → PyData.canLayAll0 xs = true → PyData.canLayAll0 ys = true → alLs xs ys = true →
    A.units + min (PyData.depthAll xs) (PyData.depthAll ys) < cLine → (i = 0 → (∃ n r, xs = .int n :: r) ∧ ∃ n r, ys = .int n :: r) → fin = decide (xs.length < ys.length) → Q (PyProof.Rows.lexLt itemOrd (keyToksAll xs) (keyToksAll ys)) s → KatLex prog w A true fin Q (vs.zip ws) i s
  | [], ys, i, _, _, _, _, ra, rb, _, _, _, _, hi, hf, hq => by
    cases ra
    rw [List.zip_nil_left]
    refine kat_nil ?_
    cases ys with
    | nil => subst hf; rw [lex_irrefl] at hq; exact hq
    | cons y ys =>
      rw [toks_all_cons] at hq
      simp only [keyToksAll] at hq
      rw [lex_diff (O := itemOrd) (by simp)] at hq
      subst hf
      simpa [itemLt] using hq
  | x :: xs, [], i, _, _, _, _, ra, rb, _, _, _, _, hi, hf, hq => by
    cases rb
    rw [List.zip_nil_right]
    refine kat_nil ?_
    rw [toks_all_cons] at hq
    simp only [keyToksAll] at hq
    rw [lex_diff (O := itemOrd) (by simp)] at hq
    subst hf
    simpa [itemLt] using hq
  | x :: xs, y :: ys, i, _, _, _, _, ra, rb, ca, cb, hal, hu, hi, hf, hq => by
    obtain ⟨z1, z2⟩ := alLs_cons hal
    have cx : x.canLay0 = true ∧ PyData.canLayAll0 xs = true := by simpa [PyData.canLayAll0] using ca
    have cy : y.canLay0 = true ∧ PyData.canLayAll0 ys = true := by simpa [PyData.canLayAll0] using cb
    cases ra with
    | cons r1 r2 =>
      cases rb with
      | cons q1 q2 =>
        rw [List.zip_cons_cons]
        refine kat_cons (SeqAt.eqAt_reads x y A s _ _ _ _ r1 q1 cx.1 cy.1 (SeqAt.room_head hu) prog w _ _ ?_)
        cases hx : PyData.eqv x y with
        | true =>
          rw [allYes z1 hx] at hq
          exact kat_yes (katL xs ys (i + 1) _ _ _ _ r2 q2 cx.2 cy.2 (z2 hx) (SeqAt.room_tail hu) (fun z => absurd z (Nat.succ_ne_zero i)) (by rw [hf]; simp) hq)
        | false =>
          rw [allNo z1 hx] at hq
          refine kat_no ?_
          by_cases h0 : i = 0
          · subst h0
            obtain ⟨⟨n, r, e1⟩, m, t, e2⟩ := hi rfl
            cases e1; cases e2
            cases r1; cases q1
            rw [dataLt_int] at hq
            exact oneLt_int hq
          · rw [show (true && i == 0) = false by simp [h0], oneLt'_eq]
            simp only [Bool.false_eq_true, if_false]
            exact wpAny_bind (rcL x y A s _ _ _ _ r1 q1 cx.1 cy.1 z1 (SeqAt.room_head hu) prog w _ _ (wpAny_truthy_bool hq))
/-- tuples that begin with a whole number, each two of which can be compared -/
structure TupsL (ds : List PyData) : Prop where
  tup : ∀ d ∈ ds, ∃ n r, d = .tuple (.int n :: r)
  al : ∀ d ∈ ds, ∀ d' ∈ ds, alL d d' = true
  lay : ∀ d ∈ ds, d.canLay0 = true
theorem sortsL {vs : List Value} {ds : List PyData} (e : EachIs (fun v d => ∃ as, Reads s.heap v d as) vs ds) (T : TupsL ds) (hu : ∀ d ∈ ds, A.units + d.depth < cLine) : SortsAt prog w A s (kindL s.heap ds) vs := by
  refine ⟨fun v hv => ?_, tuples' true, fun E x y a b Q ha hb hq => ?_, fun h2 E Q hq => ?_⟩
  · obtain ⟨d, hd, as, r⟩ := e.left v hv
    exact ⟨_, kindL_of T.al hd r⟩
  · obtain ⟨d, as, hd, ra, rfl⟩ := kindL_back ha
    obtain ⟨d2, bs, hd2, rb, rfl⟩ := kindL_back hb
    have room : A.units + min d.depth d2.depth < cLine := Nat.lt_of_le_of_lt (Nat.add_le_add_left (Nat.min_le_left _ _) _) (hu d hd)
    have hal := T.al d hd d2 hd2
    have c1 := T.lay d hd
    have c2 := T.lay d2 hd2
    obtain ⟨n, r, rfl⟩ := T.tup d hd
    obtain ⟨m, t, rfl⟩ := T.tup d2 hd2
    change Q (dataLt (.tuple (.int n :: r)) (.tuple (.int m :: t))) s at hq
    rw [dataLt_tuple] at hq
    cases ra with
    | tuple a1 a2 a3 a4 =>
      cases rb with
      | tuple b1 b2 b3 b4 =>
        have n1 := SeqAt.ReadsAll.length _ _ _ a4
        have n2 := SeqAt.ReadsAll.length _ _ _ b4
        rw [Array.length_toList] at n1 n2
        refine kat_lt a1 a3 b1 b3 (katL _ _ 0 _ _ _ _ a4 b4 (by simpa [PyData.canLay0] using c1) (by simpa [PyData.canLay0] using c2) (by simpa [alL] using hal) (by have := SeqAt.room_in room; omega) (fun _ => ⟨⟨n, r, rfl⟩, m, t, rfl⟩) (by rw [n1, n2]) hq)
  · obtain ⟨fs, t1, t2, t3⟩ := each_katTups e fun d hd => by obtain ⟨n, r, q⟩ := T.tup d hd; exact ⟨.int n, r, q⟩
    refine kat_kind (T := .type "int") t1 (by omega) (fun f hf => ?_) (beq_self_eq_true _) hq
    obtain ⟨x, r, as, m1, m2⟩ := t3 f hf
    obtain ⟨n, r', q⟩ := T.tup _ m1
    cases q
    exact looks_reads m2
end
end Ab
end
section
set_option maxRecDepth 100000
set_option maxHeartbeats 2000000
namespace Ab
open PySem PySem.Spec PyProof.Rows L2
/-! ### sorted(xs, key=f, reverse=b), in the heap that is tracked -/
section
variable {X : Cx} {pins : List (Addr × Obj)} {σ : L2.St} {H : Hp} {s : Shared} {h' : Heap}
/-- a record of ours becomes a tracked object -/
theorem adopt {t' : Nat} {ch : List Addr} {T : Addr} {ob : HO} (I : Inv X pins σ H s) (k : ∀ b o, b ∉ ch → s.heap.get? b = some o → h'.get? b = some o) (hf : ∀ b ∈ ch, FpOk X pins H b) (hT : T ∈ ch)
    (new : ObjOk X.prog X.w (upd H T ob) h' T ob) : Inv X pins σ (upd H T ob) { s with heap := h', toks := t' } := by
  have hn : H T = none := (hf T hT).1
  have ne : ∀ {b u}, H b = some u → b ≠ T := fun e => ne_of_none e hn
  have nc : ∀ {b u}, H b = some u → b ∉ ch := fun {b u} e z => by have q := (hf b z).1; rw [e] at q; cases q
  refine I.step (g' := s.gens) (d' := s.drawn) (ch := ch) (fun b m => ⟨(hf b m).2.2.2.1, (hf b m).2.1, (hf b m).2.2.2.2.1, (hf b m).2.2.2.2.2⟩) (fun b o _ _ m e _ => k b o m e) (fun b o _ _ m e _ => ⟨_, k b o m e⟩)
    (fun b o m _ n => by rw [upd_ne (fun z => m (by rw [z]; exact hT))]; exact n) (fun b o m e => ⟨o, k b o m e⟩) (fun b xs e => by rw [upd_ne (ne e)]; exact e) (fun b o u e => by rw [upd_ne (ne e)]; exact e) (fun b ps e => ⟨#[], by rw [upd_ne (ne e), e]; simp⟩) (fun m ⟨o, es, ep, ho, r⟩ => ⟨o, es, ep, k _ o (fun z => (hf _ z).2.1 rfl) ho, r⟩) (fun b u e => ?_) I.bare
  by_cases hb : b = T
  · subst hb
    rw [upd_same] at e
    cases e
    exact new
  · rw [upd_ne hb] at e
    refine (I.hok b u e).stay (fun c v hc q => k c v ?_ q) (fun c q => by rw [upd_ne (ne q)]; exact q) fun c xs q => by rw [upd_ne (ne q)]; exact q
    rcases hc with z | z
    · rw [z]; exact nc e
    · exact nc z
theorem fp_next {H1 : Hp} {b : Addr} (f : FpOk X pins H b) (n : H1 b = none) : FpOk X pins H1 b := ⟨n, f.2⟩
end
/-- the items, put in order by their keys -/
noncomputable def sortV (b : Bool) (kz : List PyData) (xs : List V) : List V := ((xs.zip kz).mergeSort (PySem.W.dataLe b Prod.snd)).map Prod.fst
def rSortC (K : PySem.W.Frag) (sp : Sp) (f : Addr) (b : Bool) : List V → List V → Hp → VK → Prop := fun vs zs H Q => ∃ (a : Addr) (xs : List V) (J : Nat → List V → Hp → Prop), vs = [.ref a] ∧ zs = [.ref f, .bl b] ∧ SqL K H a xs ∧ xs.length ≤ sizeLine ∧ J 0 [] H ∧
  (∀ i v ks H1, xs[i]? = some v → J i ks H1 → sp [v] H1 (fun k H2 => J (i + 1) (ks ++ [k]) H2) fun _ _ _ => False) ∧
  ∀ ks H1, ks.length = xs.length → J xs.length ks H1 → ∃ kz, DpAll K H1 ks kz ∧ TupsL kz ∧ (∀ d ∈ kz, d.depth ≤ 190) ∧ ∀ p, H1 p = none → Q (.ref p) (upd H1 p (.lst (sortV b kz xs)))
theorem valsGet : ∀ {vs : List V} {us : List Value} {i : Nat} {u : Value}, Vals vs us → us[i]? = some u → ∃ v, vs[i]? = some v ∧ RelV v u
  | _, _, i, u, .nil, h => by simp at h
  | _, _, 0, u, .cons a b, h => by simp at h; subst h; exact ⟨_, rfl, a⟩
  | _, _, i + 1, u, .cons a b, h => by obtain ⟨v, h1, h2⟩ := valsGet (i := i) b (by simpa using h); exact ⟨v, by simpa using h1, h2⟩
theorem valsSnoc {vs : List V} {us : List Value} {v : V} {u : Value} (a : Vals vs us) (b : RelV v u) : Vals (vs ++ [v]) (us ++ [u]) := by
  induction a with
  | nil => exact .cons b .nil
  | cons x y ih => exact .cons x ih
theorem dpEach {X : Cx} {pins : List (Addr × Obj)} {σ : L2.St} {H : Hp} {s : Shared} (I : Inv X pins σ H s) : ∀ {ks : List V} {us : List Value} {kz : List PyData}, DpAll X.K H ks kz → Vals ks us → PySem.W.EachIs (fun u d => ∃ as, Reads s.heap u d as) us kz
  | _, _, _, .nil, .nil => .nil
  | _, _, _, .cons a b, .cons c d => .cons (Dp.reads I _ _ _ a c) (dpEach I b d)
theorem sortV_each {κ : PyProof.Rows.KeyKind} {b : Bool} {h : Heap} {ks us : List Value} {kz : List PyData} {xs : List V} (al : TupsL kz) (rx : Vals xs us) (rk : PySem.W.EachIs (fun u d => ∃ as, Reads h u d as) ks kz) (hl : ks.length = us.length) :
    Vals (sortV b kz xs) (PySem.W.sortVals (kindL h kz) b ks us) := by
  have e1 : PySem.W.EachIs (fun (u : Value) (p : V × PyData) => RelV p.1 u) us (xs.zip kz) := by
    clear al
    induction rx generalizing ks kz with
    | nil => cases rk with
      | nil => exact .nil
      | cons _ _ => simp at hl
    | cons a _ ih =>
      cases rk with
      | nil => simp at hl
      | cons _ r => exact .cons a (ih r (by simpa using hl))
  have e2 : PySem.W.EachIs (fun (u : Value) (p : V × PyData) => (kindL h kz).keyOf u = some (PySem.W.keyToks p.2)) ks (xs.zip kz) := by
    have hl2 : xs.length = ks.length := by rw [rx.length, hl]
    have aux : ∀ {ks : List Value} {qz : List PyData} {xs : List V}, PySem.W.EachIs (fun u d => ∃ as, Reads h u d as) ks qz → (∀ d ∈ qz, d ∈ kz) → xs.length = ks.length → PySem.W.EachIs (fun (u : Value) (p : V × PyData) => (kindL h kz).keyOf u = some (PySem.W.keyToks p.2)) ks (xs.zip qz) := by
      intro ks qz xs r
      induction r generalizing xs with
      | nil => intro _ hl; cases xs with
        | nil => exact .nil
        | cons _ _ => simp at hl
      | cons z _ ih =>
        intro hm hl
        cases xs with
        | nil => simp at hl
        | cons x xs =>
          obtain ⟨as, z⟩ := z
          exact .cons (kindL_of al.al (hm _ List.mem_cons_self) z) (ih (fun d m => hm d (List.mem_cons_of_mem _ m)) (by simpa using hl))
    exact aux rk (fun _ m => m) hl2
  have e3 := PySem.W.sortVals_each (κ := kindL h kz) (rev := b) (fun p : V × PyData => PySem.W.keyToks p.2) e1 e2
  have aux2 : ∀ {us : List Value} {ps : List (V × PyData)}, PySem.W.EachIs (fun (u : Value) (p : V × PyData) => RelV p.1 u) us ps → Vals (ps.map Prod.fst) us := by
    intro us ps r
    induction r with
    | nil => exact .nil
    | cons a _ ih => exact .cons a ih
  exact aux2 e3
section
variable {X : Cx} {f : Addr} {b : Bool} {sp : Sp} {k : Nat} {fd : FuncData} {x : Str}
theorem cr_sortC (F : FnOk X.prog X.w X.K X.mg X.base CX0 k f fd [x] sp) (hr : Room k X.A.in1.in1) (hb : Binds X.K fd [x] []) (hu : X.A.units + 200 < cLine) :
    CallRK X (.builtin "sorted") [Str.ofString "key", Str.ofString "reverse"] (rSortC X.K sp f b) := by
  intro pins s σ H vs zs us ws Q I r rz h
  obtain ⟨a, xs, J, rfl, rfl, hs, hz, j0, turn, fin⟩ := h
  obtain rfl := Vals.ref1 r
  obtain ⟨w1, w2, rfl, e1, e2⟩ := vals2 rz
  cases e1
  obtain rfl : w2 = Value.bool b := e2
  obtain ⟨its, rv, hl, _⟩ := I.list hs
  have hlen : its.length = xs.length := rv.length.symm
  refine sorted_J (f := .ref f) (b := b) (vs := its)
    (fun kS aS i ks s' => ∃ H' ksV, Inv X pins σ H' s' ∧ Vals ksV ks ∧ J i ksV H' ∧ FpOk X pins H' kS ∧ FpOk X pins H' aS)
    hl.isList (by rw [hlen]; exact hz) (ksk_s2 _ _ _) (fun _ => ksk_l2 _ _ _) (fun y => ?ht) (fun kS aS h1 q1 q2 k1 => ?j0) (fun kS aS i v ks s' hne hv hj oS oA g1 g2 => ?turn) (fun kS aS i ks s' h1 tk hj st => ?stab) (fun kS aS ks s' hne hkl hj => ?fin)
  case ht => first | rfl | kernel_rfl
  case j0 =>
    exact ⟨H, [], I.kept k1, .nil, j0, I.fpOk q1 (I.hok.fresh q1), I.fpOk q2 (I.hok.fresh q2)⟩
  case turn =>
    obtain ⟨H', ksV, I', rk, jj, f1, f2⟩ := hj
    obtain ⟨vV, hvV, rvv⟩ := valsGet rv hv
    have rc := F.run X.A.in1.in1 X.stack s' H' ⟨[v], []⟩ [v] [vV] _ _ hr I'.env0.in1.in1 (hb s' [v] I'.kIn rfl) (.cons rvv .nil) (turn i vV ksV H' hvV jj)
    refine wpAny_call (codeAny_mono rc fun r s2 hq => ?_)
    cases r with
    | error e => exact (show False from hq).elim
    | ok fl =>
      cases fl with
      | next => exact False.elim hq
      | brk => exact False.elim hq
      | cont => exact False.elim hq
      | ret u =>
        obtain ⟨v2, H2, os, bare, un, hok, rv2, q⟩ := id hq
        have nfr : ∀ {c : Addr}, FpOk X pins H' c → c ∉ frs X.stack := fun {c} fp z => by
          rcases List.mem_cons.mp (I'.stkSub _ z) with e | e
          · exact fp.2.1 e
          · exact fp.2.2.1 e
        obtain ⟨hh, g, d, t, os'⟩ := s2
        obtain rfl : os' = s'.os := os
        have I2 := I'.call (h' := hh) (g' := g) (d' := d) (t' := t) (ch := []) un hok bare (fun b z => absurd z (by simp))
        exact ⟨⟨H2, ksV ++ [v2], I2, valsSnoc rk rv2, q, fp_next f1 (un.free kS oS g1 f1.1 (by simp)), fp_next f2 (un.free aS oA g2 f2.1 (by simp))⟩, un.keep kS oS g1 f1.1 (nfr f1) (by simp), un.keep aS oA g2 f2.1 (nfr f2) (by simp)⟩
  case stab =>
    obtain ⟨H', ksV, I', rk, jj, f1, f2⟩ := hj
    exact ⟨H', ksV, I'.turnedL (ch := [kS, aS]) (fun c o m e => st c o (fun z => m (by simp [z])) (fun z => m (by simp [z])) e) (fun c m => by
      rcases List.mem_cons.mp m with z | z
      · rw [z]; exact f1
      · rw [List.mem_singleton.mp z]; exact f2), rk, jj, f1, f2⟩
  case fin =>
    obtain ⟨H', ksV, I', rk, jj, f1, f2⟩ := hj
    rw [hlen] at jj
    obtain ⟨kz, dk, T, dep, q⟩ := fin ksV H' (by rw [rk.length, hkl, hlen]) jj
    have hread := dpEach I' dk rk
    refine ⟨kindL s'.heap kz, sortsL hread T fun d m => ?_, fun h1 tk c st hl1 => ?_⟩
    · have := dep d m
      show X.A.units + 1 + 1 + d.depth < cLine
      omega
    · have rvals := sortV_each (κ := kindL s'.heap kz) (b := b) T rv hread hkl
      have hsz : (sortV b kz xs).length ≤ sizeLine := by
        unfold sortV
        rw [List.length_map, List.length_mergeSort, List.length_zip]
        omega
      refine ⟨.ref aS, upd H' aS (.lst (sortV b kz xs)), adopt I' (ch := [kS, aS]) (fun c o m e => st c o (fun z => m (by simp [z])) (fun z => m (by simp [z])) e) (fun c m => ?_) (by simp) ⟨hsz, _, c, rvals, hl1⟩, rfl, q aS f2.1⟩
      rcases List.mem_cons.mp m with z | z
      · rw [z]; exact f1
      · rw [List.mem_singleton.mp z]; exact f2
end
end Ab
end
section
set_option maxRecDepth 100000
set_option maxHeartbeats 2000000
namespace Ab
open PySem PySem.Spec PyProof.Rows
/-! ### min(xs, key=f): what is true between the calls is the caller's own -/
section
variable {prog : Program} {w : World} {A : Around} {R : Result → Shared → Prop} {I : Addr} {fp wr : List Addr} {G : Array GenState → Array GenState → Prop} {n : Nat} {P : Nat → Value → Prop} {St : Nat → Shared → Prop} {q : Addr}
/-- what a call of the key and the look at it behind do -/
def TurnJ (prog : Program) (w : World) (A : Around) (q S : Addr) (n : Nat) (P : Nat → Value → Prop) (St : Nat → Shared → Prop) (J : Nat → Value → Value → Shared → Prop) : Prop :=
  ∀ j vb kb v s o, j + 1 < n → P (j + 1) v → J j vb kb s → St (j + 2) s → s.heap.get? S = some o →
    wpAny (model prog w) A (call (.ref q) [v]) (fun k s' => ∃ c : Bool, (∀ Q E, Q (.bool c) s' → wpAny (model prog w) A (richCompare .Lt k kb) Q E s') ∧ J (j + 1) (if c = true then v else vb) (if c = true then k else kb) s' ∧ St (j + 2) s' ∧ s'.heap.get? S = some o) (fun _ _ => False) s
theorem stillS {S : Addr} {f : Obj → Obj} {b : Addr} {o : Obj} {h : Heap} (hb : b ∉ S :: wr) (e : h.get? b = some o) : (h.update S f).get? b = some o :=
  (Heap.get?_update_other h f (b := b) (fun z : S = b => hb (by rw [z]; exact List.mem_cons_self))).trans e
theorem loop_J (W : WalksS prog w A.in1 I fp wr G n P St) (S : Addr) (hSf : S ∉ fp) (J : Nat → Value → Value → Shared → Prop) (keep : ∀ j vb kb s s', J j vb kb s → Moved (S :: wr) G s s' → J j vb kb s') (turn : TurnJ prog w A.in1 q S n P St J) (kw : List (Str × Value)) :
    ∀ (m j : Nat) (s : Shared) (vb kb : Value) (c : Nat), n - (j + 1) = m → j + 1 ≤ n → J j vb kb s → St (j + 1) s → s.heap.get? S = some { cls := .type "list", dict := none, data := .seq #[vb, kb] c, slots := #[] } →
    (∀ vb kb s', J (n - 1) vb kb s' → R (.ok (.ret vb)) s') → codeAny (model prog w) A (.builtin "min.loop" ⟨[.ref I, .ref q, .ref S], kw⟩) R s := by
  have hw : S ∉ wr := fun z => hSf (W.sub _ z)
  have up : ∀ b ∈ wr, b ∈ S :: wr := fun b z => List.mem_cons_of_mem _ z
  have nm : (toString "min" ++ toString ".loop" : String) = "min.loop" := by decide
  intro m
  induction m with
  | zero =>
    intro j s vb kb c hm hj hJ hst hS hR
    obtain rfl : n = j + 1 := by omega
    refine codeAny_builtin F.entry_min_loop ?_
    rw [Around.under_plainId F.plain_min_loop _]
    show wpAny _ A.in1 (seqItems? (.ref S) >>= _) _ _ s
    refine wpAny_bind (wpAny_seqItems hS rfl ?_)
    show wpAny _ A.in1 (tryCatch (pyNext (.ref I)) _ >>= _) _ _ s
    refine wpAny_bind (wpAny_tryCatch (W.done s _ _ hst fun s2 mv => ?_))
    show wpAny _ A.in1 (updateSeq S (fun _ => #[]) >>= _) _ _ _
    refine wpAny_bind (wpAny_updateSeq (mv.heap S _ hw hS) rfl (wpAny_bind (wpAny_letGo (wpAny_pure (hR vb kb _ (keep _ _ _ _ _ hJ ?_))))))
    exact (mv.mono up).then_heap (tk := s2.toks) (Nat.le_refl _) fun b o hb e => stillS hb e
  | succ m ih =>
    intro j s vb kb c hm hj hJ hst hS hR
    have hlt : j + 1 < n := by omega
    refine codeAny_builtin F.entry_min_loop ?_
    rw [Around.under_plainId F.plain_min_loop _]
    show wpAny _ A.in1 (seqItems? (.ref S) >>= _) _ _ s
    refine wpAny_bind (wpAny_seqItems hS rfl ?_)
    show wpAny _ A.in1 (tryCatch (pyNext (.ref I)) _ >>= _) _ _ s
    refine wpAny_bind (wpAny_tryCatch (W.item (j + 1) s _ _ hlt hst fun v s2 hP hst2 mv => ?_))
    show wpAny _ A.in1 (tryCatch (holding [v] (call (.ref q) [v])) _ >>= _) _ _ _
    refine wpAny_bind (wpAny_tryCatch (wpAny_holding (wpAny_mono (turn j vb kb v s2 _ hlt hP (keep _ _ _ _ _ hJ (mv.mono up)) hst2 (mv.heap S _ hw hS)) (fun k s3 hk => ?_) fun _ _ z => z.elim)))
    obtain ⟨b, hcmp, hJ3, hst3, hS3⟩ := hk
    show wpAny _ A.in1 (tryCatch (holding [v, k] (richCompare .Lt k kb >>= _)) _ >>= _) _ _ _
    refine wpAny_bind (wpAny_tryCatch (wpAny_holding (wpAny_bind (hcmp _ _ ?_))))
    refine wpAny_bind (wpAny_holding (wpAny_truthy_bool (wpAny_bind (wpAny_letGo (wpAny_pure ?_)))))
    cases b with
    | true =>
      simp only [if_true] at hJ3 ⊢
      have mv3 : Moved (S :: wr) G s3 { s3 with heap := s3.heap.update S (Obj.mapSeq fun _ => #[v, k]), toks := s3.toks } := (Moved.refl W.grefl).then_heap (tk := s3.toks) (Nat.le_refl _) fun b o hb e => stillS hb e
      refine wpAny_bind (wpAny_updateSeq hS3 rfl (wpAny_bind (wpAny_letGo ?_)))
      rw [nm]
      exact wpAny_pure ⟨plainId_quiet F.plain_min_loop _, ih (j + 1) _ v k _ (by omega) hlt (keep _ _ _ _ _ hJ3 mv3)
        (W.frame _ s3 _ s3.toks hst3 (Nat.le_refl _) fun b hb o e => stillS (wr := []) (fun z => hSf (by rw [← List.mem_singleton.mp z]; exact hb)) e) (Heap.get?_update_self _ hS3 rfl) hR⟩
    | false =>
      simp only [Bool.false_eq_true, if_false] at hJ3 ⊢
      refine wpAny_bind (wpAny_letGo ?_)
      rw [nm]
      exact wpAny_pure ⟨plainId_quiet F.plain_min_loop _, ih (j + 1) _ vb kb c (by omega) hlt hJ3 hst3 hS3 hR⟩
theorem first_J (W : WalksS prog w A.in1 I fp wr G n P St) (S : Addr) (hSf : S ∉ fp) (J : Nat → Value → Value → Shared → Prop) (keep : ∀ j vb kb s s', J j vb kb s → Moved (S :: wr) G s s' → J j vb kb s') (turn : TurnJ prog w A.in1 q S n P St J) (kw : List (Str × Value)) {s : Shared} {c : Nat} (hn : 0 < n)
    (one : ∀ v s3 o, P 0 v → St 1 s3 → Moved (S :: wr) G s s3 → s3.heap.get? S = some o → wpAny (model prog w) A.in1 (call (.ref q) [v]) (fun k s' => J 0 v k s' ∧ St 1 s' ∧ s'.heap.get? S = some o) (fun _ _ => False) s3)
    (st0 : St 0 s) (hS : s.heap.get? S = some { cls := .type "list", dict := none, data := .seq #[] c, slots := #[] })
    (hR : ∀ vb kb s', J (n - 1) vb kb s' → R (.ok (.ret vb)) s') : codeAny (model prog w) A (.builtin "min.loop" ⟨[.ref I, .ref q, .ref S], kw⟩) R s := by
  have hw : S ∉ wr := fun z => hSf (W.sub _ z)
  have up : ∀ b ∈ wr, b ∈ S :: wr := fun b z => List.mem_cons_of_mem _ z
  have nm : (toString "min" ++ toString ".loop" : String) = "min.loop" := by decide
  refine codeAny_builtin F.entry_min_loop ?_
  rw [Around.under_plainId F.plain_min_loop _]
  show wpAny _ A.in1 (seqItems? (.ref S) >>= _) _ _ s
  refine wpAny_bind (wpAny_seqItems hS rfl ?_)
  show wpAny _ A.in1 (tryCatch (pyNext (.ref I)) _ >>= _) _ _ s
  refine wpAny_bind (wpAny_tryCatch (W.item 0 s _ _ hn st0 fun v s2 hP hst2 mv => ?_))
  show wpAny _ A.in1 (tryCatch (holding [v] (call (.ref q) [v])) _ >>= _) _ _ _
  refine wpAny_bind (wpAny_tryCatch (wpAny_holding (wpAny_mono (one v s2 _ hP hst2 (mv.mono up) (mv.heap S _ hw hS)) (fun k s3 hk => ?_) fun _ _ z => z.elim)))
  obtain ⟨hJ3, hst3, hS3⟩ := hk
  show wpAny _ A.in1 (updateSeq S (fun _ => #[v, k]) >>= _) _ _ _
  have mv3 : Moved (S :: wr) G s3 { s3 with heap := s3.heap.update S (Obj.mapSeq fun _ => #[v, k]), toks := s3.toks } := (Moved.refl W.grefl).then_heap (tk := s3.toks) (Nat.le_refl _) fun b o hb e => stillS hb e
  refine wpAny_bind (wpAny_updateSeq hS3 rfl ?_)
  rw [nm]
  exact wpAny_pure ⟨plainId_quiet F.plain_min_loop _, loop_J W S hSf J keep turn kw _ 0 _ v k _ rfl hn (keep _ _ _ _ _ hJ3 mv3)
    (W.frame _ s3 _ s3.toks hst3 (Nat.le_refl _) fun b hb o e => stillS (wr := []) (fun z => hSf (by rw [← List.mem_singleton.mp z]; exact hb)) e) (Heap.get?_update_self _ hS3 rfl) hR⟩
/-- min(x, key=f) -/
theorem min_J {E : Value → Shared → Prop} {s : Shared} {x : Value} {Q : Value → Shared → Prop}
    (h : wpAny (model prog w) A.in1 (pyIter x) (fun it s₂ => ∃ I fp wr G n P St J, it = .ref I ∧ WalksS prog w A.in1 I fp wr G n P St ∧ St 0 s₂ ∧ (∀ b ∈ fp, b < s₂.heap.objs.size) ∧ 0 < n ∧
      (∀ j vb kb s s', J j vb kb s → Moved (s₂.heap.objs.size :: wr) G s s' → J j vb kb s') ∧ TurnJ prog w A.in1 q s₂.heap.objs.size n P St J ∧
      (∀ v s3, P 0 v → St 1 s3 → Moved (s₂.heap.objs.size :: wr) G s₂ s3 → ∀ o, s3.heap.get? s₂.heap.objs.size = some o →
        wpAny (model prog w) A.in1 (call (.ref q) [v]) (fun k s' => J 0 v k s' ∧ St 1 s' ∧ s'.heap.get? s₂.heap.objs.size = some o) (fun _ _ => False) s3) ∧ ∀ vb kb s', J (n - 1) vb kb s' → Q vb s') E s) :
    wpAny (model prog w) A (call (.builtin "min") [x] [(Str.ofString "key", .ref q)]) Q E s := by
  have nm : (toString "min" ++ toString ".loop" : String) = "min.loop" := by decide
  refine kmk_tree F.kind_min F.plain_min F.entry_min (kmk_min_key _ _) ?_
  show wpAny _ A.in1 (Builtin.Builtins.bindParams "min" ["key", "default"] 0 ⟨[], [(Str.ofString "key", .ref q)]⟩ >>= _) _ _ s
  refine wpAny_bind (wpAny_of_eq (show Builtin.Builtins.bindParams "min" ["key", "default"] 0 ⟨[], [(Str.ofString "key", .ref q)]⟩ = pure [some (.ref q), none] from rfl) (wpAny_bind (wpAny_pure (wpAny_bind (wpAny_mono h (fun it s₂ h₂ => ?_) fun _ _ e => e)))))
  obtain ⟨I, fp, wr, G, n, P, St, J, rfl, W, st0, hfp, hn, keep, turn, one, hQ⟩ := h₂
  refine wpAny_bind (wpAny_newObj_type ?_)
  have hSf : s₂.heap.objs.size ∉ fp := fun z => Nat.lt_irrefl _ (hfp _ z)
  have hw : s₂.heap.objs.size ∉ wr := fun z => hSf (W.sub _ z)
  have up : ∀ b ∈ wr, b ∈ s₂.heap.objs.size :: wr := fun b z => List.mem_cons_of_mem _ z
  rw [nm]
  have mv0 : Moved (s₂.heap.objs.size :: wr) G s₂ { s₂ with heap := s₂.heap.push { cls := .type "list", data := .seq #[] 0 }, toks := s₂.toks } := (Moved.refl W.grefl).then_heap (tk := s₂.toks) (Nat.le_refl _) fun b o _ e => Heap.get?_push_of_some _ e
  exact wpAny_pure ⟨plainId_quiet F.plain_min_loop _, first_J W _ hSf J keep turn _ hn (fun v s3 o hP h3 mv e => one v s3 hP h3 (Moved.trans W.gtrans mv0 mv) o e)
    (W.frame 0 s₂ (s₂.heap.push { cls := .type "list", data := .seq #[] 0 }) s₂.toks st0 (Nat.le_refl _) fun b _ o e => Heap.get?_push_of_some _ e) (Heap.get?_push_size _ rfl) hQ⟩
end
end Ab
end
section
set_option maxRecDepth 100000
set_option maxHeartbeats 2000000
namespace Ab
open PySem PySem.Spec PyProof.Rows L2 LamX
/-! ### a lambda with a parameter, handed to min as its key -/
/-- all stays but one table -/
def But1 (P : Addr) (H H' : Hp) : Prop := ∀ b o, H b = some o → b ≠ P → H' b = some o
section
variable {X : Cx} {pins : List (Addr × Obj)} {σ : L2.St} {H : Hp} {s : Shared}
theorem tab_grown {P c : Addr} {q : Str} {ps : Array Value} {pos : Pos} (nC : H c = none) (hP : H P = some (.tbl ps)) (ht : TriplesOk ps.toList) (ha : ∀ (p : Pos) (cv : Value), codeAmong p ps.toList = some cv → ∃ d, cv = .ref d ∧ H d = some (CodeO d q)) :
    TabS (upd (upd H P (.tbl (ps ++ #[rawInt pos.line, rawInt pos.col, .ref c]))) c (CodeO c q)) P q := by
  have ePs : (ps ++ #[rawInt pos.line, rawInt pos.col, .ref c]).toList = ps.toList ++ [rawInt pos.line, rawInt pos.col, .ref c] := by simp
  refine ⟨_, by rw [upd_ne (ne_of_none hP nC), upd_same], by rw [ePs]; exact PySem.TriplesOk_snoc _ _ _ _ ht, fun p cv h => ?_⟩
  rw [ePs] at h
  rcases among_app _ ht h with z | z
  · obtain ⟨d, e1, e2⟩ := ha p cv z
    refine ⟨d, e1, ?_⟩
    rw [upd_ne (ne_of_none e2 nC), upd_ne]
    · exact e2
    · intro y; rw [y, hP] at e2; exact codeO_ne _ (Option.some.inj e2).symm
  · exact ⟨c, z, upd_same⟩
/-- the lambda is made -/
theorem lam_new {c P : Addr} {params : Arguments} {body : Expr} {scope : Scope} {pos : Pos} {E Q : Value → Shared → Prop} (I : Inv X pins σ H s) (TB : TabB X.base X.mg c P) (hcode : X.env.code = .ref c) (hT : TabS H P (X.env.qual ++ "<lambda>"))
    (hdef : defaultsOf params X.env = ([], [])) (hcl : closureFor scope X.env = pure [])
    (h : ∀ (f c' : Addr) (pm ctv : Value) (H1 : Hp) (s' : Shared), Inv X pins σ H1 s' → But1 P H H1 → TabS H1 P (X.env.qual ++ "<lambda>") → s'.heap.get? f = some (PySem.W.kla_obj "<lambda>" (X.env.qual ++ "<lambda>") params body scope [] pm c' ctv) → H1 f = none → f ∉ frs X.stack →
      H1 c' = some (CodeO c' (X.env.qual ++ "<lambda>")) → Q (.ref f) s') : wpAny (model X.prog X.w) X.A (eval (.Lambda params body scope pos) X.env) Q E s := by
  obtain ⟨ps, hP, ht, ha⟩ := hT
  have far : ∀ f, s.heap.objs.size ≤ f → f ∉ frs X.stack := fun f hf z => by
    rcases List.mem_cons.mp (I.stkSub _ z) with e | e
    · exact absurd (Nat.lt_of_lt_of_le (e ▸ I.lt) hf) (Nat.lt_irrefl _)
    · exact I.nofs hf e
  have hPo : s.heap.get? P = some { cls := .none, data := .fields ps } := I.hok P _ hP
  refine PySem.W.kla_eval hdef ?_
  cases hc : codeAmong pos ps.toList with
  | some cv =>
    obtain ⟨c', rfl, hco⟩ := ha pos cv hc
    refine PySem.W.kla_makeFunctionHit (mg := X.mg) (c := c) (P := P) (ps := ps) hcl I.ok.glob (I.mod.glob.keeps I.bk) hcode (TB.code.keeps I.bk) hPo ht hc (TB.bm.keeps I.bk) fun ctv h' tk hx hsz => ?_
    have I1 := I.kept (t' := tk) (h' := h'.push (PySem.W.kla_obj "<lambda>" (X.env.qual ++ "<lambda>") params body scope [] ((X.mg "__name__").getD .none) c' ctv)) fun b o e => Heap.get?_push_of_some _ (hx b o e)
    exact h h'.objs.size c' ((X.mg "__name__").getD .none) ctv H _ I1 (fun _ _ e _ => e) ⟨ps, hP, ht, ha⟩ (Heap.get?_push_size _ rfl) (I.hok.fresh hsz) (far _ hsz) hco
  | none =>
    refine PySem.W.kla_makeFunction (mg := X.mg) (c := c) (P := P) (ps := ps) hcl I.ok.glob (I.mod.glob.keeps I.bk) hcode (TB.code.keeps I.bk) hPo ht hc TB.gP (TB.bm.keeps I.bk) fun c' ctv h' tk hx hge hlt hrec htb => ?_
    obtain ⟨c2, oc, vs, t, e2, hoc, hd, hv⟩ := hrec
    cases e2
    have hsz : s.heap.objs.size ≤ h'.objs.size := Nat.le_trans hge (Nat.le_of_lt hlt)
    have nC : H c' = none := I.hok.fresh hge
    have I1 := inv_table (t' := tk) (more := #[rawInt pos.line, rawInt pos.col, .ref c']) (q := X.env.qual ++ "<lambda>") (h' := h'.push (PySem.W.kla_obj "<lambda>" (X.env.qual ++ "<lambda>") params body scope [] ((X.mg "__name__").getD .none) c' ctv)) I hP
      (fun b o hb e => Heap.get?_push_of_some _ (hx b o hb e)) (Heap.get?_push_of_some _ htb) hge ⟨oc, vs, t, Heap.get?_push_of_some _ hoc, hd, hv⟩
    refine h h'.objs.size c' ((X.mg "__name__").getD .none) ctv _ _ I1 (fun b o e n => by rw [upd_ne (ne_of_none e nC), upd_ne n]; exact e) (tab_grown nC hP ht ha) (Heap.get?_push_size _ rfl) ?_ (far _ hsz) upd_same
    rw [upd_ne (Nat.ne_of_gt hlt), upd_ne (Nat.ne_of_gt (Nat.lt_of_lt_of_le (Heap.lt_size hPo) hsz))]
    exact I.hok.fresh hsz
end
/-- the lambda called: as a def is -/
theorem lam_run {CX : CXT} {P : Program} {w : World} {K : PySem.W.Frag} {mg : Str → Option Value} {base : Heap} {k : Nat} {f c' : Addr} {qual p : Str} {params : Arguments} {body : Expr} {scope : Scope} {pm ctv v : Value} {N : List Str} {A : Around} {outer : List Env} {s : Shared} {H : Hp} {x : V} {Q : VK} {E : XK} {tb : TE}
    (hf : s.heap.get? f = some (PySem.W.kla_obj "<lambda>" qual params body scope [] pm c' ctv)) (hc : s.heap.CodeRec (.ref c') qual) (lim : s.heap.NoLimit) (S : FnScope N [p] scope) (hr : Room (k + 1) A) (e0 : Env0 P w K mg base A outer s H)
    (hb : bindArgs (PySem.W.kla_fn "<lambda>" qual params body scope [] pm (.ref c') ctv) ⟨[v], []⟩ = pure [(p, v)]) (r : RelV x v)
    (hbody : PE (cxOf CX P w K mg base N qual scope f (.ref c') A outer s H E) body tb) (ht : tb (L2.start N [x]) H Q) :
    codeAny (model P w) A (.call (.ref f) ⟨[v], []⟩) (CR CX outer P w H s Q E) s := by
  refine PySem.W.kla_callFunE hr.depth hf rfl S.co S.gen rfl hc ?_
  rw [hb]
  have hk : ∀ y ∈ [(p, v)], scope.names.lookup y.1 = some .local ∨ (scope.names.lookup y.1 = some .cell ∧ ((cellsFrom (s.heap.objs.size + 1) scope.names []).lookup y.1).isSome = true) := fun y hy => by
    rw [List.mem_singleton.mp hy]
    exact (S.par p List.mem_cons_self).imp id fun q => ⟨q, PySem.W.cellsFrom_some _ _ _ (.inl q)⟩
  refine wpAny_pure (wpAny_newFunctionEnv_cells S.kind hk fun env he s1 z => ?_)
  subst he
  refine ⟨lim.keeps z.toInCall.keep, ?_⟩
  have I : Inv (cxOf CX P w K mg base N qual scope f (.ref c') A outer s H E) [] (L2.start N [x]) H s1 := inv_start S hr.hd e0 rfl (.cons r .nil) z
  refine PySem.W.kla_codeExpr (wpAny_mono (hbody.run [] s1 (L2.start N [x]) H Q I ht) (fun u s2 hq => ?_) fun e s2 hq => hq)
  obtain ⟨y, H2, J, ry, q⟩ := hq
  exact ⟨y, H2, J.os, J.bare, J.base, J.hok, ry, q⟩
def minB (K : PySem.W.Frag) (P : Addr) (q : Str) (N : List Str) (tb : TE) (Q : VK) (v : V) (H1 : Hp) : Prop := TabS H1 P q ∧ ∀ H2, But1 P H1 H2 → TabS H2 P q → ∀ c', H2 c' = some (CodeO c' q) →
  ∃ (a : Addr) (xs : List V) (J : Nat → V → V → Hp → Prop), v = .ref a ∧ SqL K H2 a xs ∧ 0 < xs.length ∧ (∀ x ∈ xs, ∃ b, x = .ref b) ∧
    (∀ j vb kb H3, J j vb kb H3 → SqL K H3 a xs ∧ H3 c' = some (CodeO c' q)) ∧
    (∀ x, xs[0]? = some x → tb (L2.start N [x]) H2 fun k H3 => J 0 x k H3) ∧
    (∀ j vb kb x H3, xs[j + 1]? = some x → J j vb kb H3 → tb (L2.start N [x]) H3 fun k H4 => ∃ dk db, Dp K H4 k dk ∧ Dp K H4 kb db ∧ alL dk db = true ∧ dk.canLay0 = true ∧ db.canLay0 = true ∧ min dk.depth db.depth ≤ 190 ∧
      J (j + 1) (if PySem.W.dataLt dk db = true then x else vb) (if PySem.W.dataLt dk db = true then k else kb) H4) ∧
    ∀ vb kb H3, J (xs.length - 1) vb kb H3 → Q vb H3
def tMinL (K : PySem.W.Frag) (P : Addr) (q : Str) (N : List Str) (tb te : TE) : TE := fun σ H Q => te σ H (minB K P q N tb Q)
/-- a list is walked -/
theorem iter_of {prog : Program} {w : World} {A : Around} {E : Value → Shared → Prop} {s : Shared} {l : Addr} {vs : Array Value} {Q : Value → Shared → Prop} (hh : A.handled = none) (hl : s.heap.IsList l vs)
    (h : ∀ s₂ : Shared, s₂ = { s with heap := s.heap.push { cls := .type "list_iterator", data := .fields #[.ref l, .int 0 0] } } → WalksS prog w A s.heap.objs.size [s.heap.objs.size, l] [s.heap.objs.size] (fun a b => b = a) vs.size (fun i v => vs[i]? = some v) (fun i s' => s'.heap.IsListIter s.heap.objs.size l i ∧ s'.heap.IsList l vs) →
      (s₂.heap.IsListIter s.heap.objs.size l 0 ∧ s₂.heap.IsList l vs) → (∀ b ∈ [s.heap.objs.size, l], b < s₂.heap.objs.size) → Q (.ref s.heap.objs.size) s₂) : wpAny (model prog w) A (pyIter (.ref l)) Q E s :=
  PySem.W.iter_listW hh hl fun s2 e W st h1 _ _ => h s2 e W st h1
theorem refs_same {xs : List V} {us ws : List Value} (h : ∀ x ∈ xs, ∃ b, x = V.ref b) (r : Vals xs us) (q : Vals xs ws) : us = ws := by
  induction r generalizing ws with
  | nil => cases q; rfl
  | cons a _ ih =>
    cases q with
    | cons b c =>
      obtain ⟨d, rfl⟩ := h _ List.mem_cons_self
      cases a; cases b
      rw [ih (fun x m => h x (List.mem_cons_of_mem _ m)) c]
section
variable {X : Cx}
theorem pe_minLam {c P : Addr} {k : Nat} {pn : Str} {params : Arguments} {body : Expr} {scope : Scope} {N : List Str} {te tb : TE} {ta : TA} {e : Expr} {p lpos kpos pos : Pos} (hg : Gl X "min") (hm : X.mg "min" = none) (ha : PA X [e] ta) (he1 : ∀ σ H (R : V → Hp → Prop), te σ H R → ta σ H fun vs H1 => ∃ v, vs = [v] ∧ R v H1)
    (TB : TabB X.base X.mg c P) (hcode : X.env.code = .ref c) (hdef : defaultsOf params X.env = ([], [])) (hcl : closureFor scope X.env = pure []) (S : FnScope N [pn] scope) (hr : Room (k + 2) X.A)
    (hb : ∀ (q : Str) (pm cv ctv v : Value), bindArgs (PySem.W.kla_fn "<lambda>" q params body scope [] pm cv ctv) ⟨[v], []⟩ = pure [(pn, v)])
    (hbody : ∀ (A : Around) (outer : List Env) (s : Shared) (H : Hp) (f c' : Addr), Room k (A.deeper (envOfC (X.env.qual ++ "<lambda>") scope s.heap.objs.size f (.ref c'))) → PE (cxOf CX0 X.prog X.w X.K X.mg X.base N (X.env.qual ++ "<lambda>") scope f (.ref c') A outer s H E0) body tb)
    (he2 : backTo pos (starEach [e] X.env) = (false, eval e X.env) :: backTo pos (starEach [] X.env) := by rfl) (hpl : (backTo pos (starEach [e] X.env)).any (·.1) = false := by rfl) :
    PE X (.Call (.Name "min" p) [e] [⟨some "key", .Lambda params body scope lpos, kpos⟩] pos) (tMinL X.K P (X.env.qual ++ "<lambda>") N tb te) := by
  refine ⟨fun pins s σ H Q I h => ?_⟩
  have hv : bootBuiltins "min" = some (.builtin "min") := by first | rfl | decide +kernel
  refine wpAny_Call_Name_kw (ld_blt I hg hm hv ?_ (by decide) (by decide))
  refine PyProof.Rows.callWith_kw (thn (ha.run pos pins s σ H (fun vs H1 => ∃ v, vs = [v] ∧ minB X.K P (X.env.qual ++ "<lambda>") N tb Q v H1) I (he1 _ _ _ h)) fun us s1 ⟨vs, H1, I1, r1, q1⟩ => ?_) he2 hpl (by rfl) (by rfl)
  obtain ⟨v, rfl, hT, q1⟩ := q1
  obtain ⟨u, rfl, ru⟩ := vals1 r1
  show wpAny _ _ (evalAll [do let v ← eval (.Lambda params body scope lpos) X.env; standAt pos; pure v]) _ _ s1
  refine wpAny_evalAll_cons (wpAny_bind (lam_new I1 TB hcode hT hdef hcl fun f c' pm ctv H2 s2 I2 b1 hT2 hf hfn hfr hco => wpAny_bind (wpAny_standAt (wpAny_pure (wpAny_evalAll_nil ?_)))))
  obtain ⟨a, xs, J, rfl, hs, hpos, href, hin, hone, hturn, hfin⟩ := q1 H2 b1 hT2 c' hco
  cases ru
  show wpAny _ _ (call (.builtin "min") [.ref a] [(Str.ofString "key", .ref f)]) _ _ _
  obtain ⟨its, rv, hl, _⟩ := I2.list hs
  have hlen : its.length = xs.length := rv.length.symm
  have hr1 : Room (k + 1) X.A.in1 := hr.in1
  have hu : X.A.units + 200 < cLine := by have := hr.un; omega
  have flt := Heap.lt_size hf
  refine min_J (iter_of hr1.hd hl.isList fun s3 e3 W st0 hfp => ?_)
  subst e3
  generalize hit : s2.heap.objs.size = it at *
  have itS : it < (s2.heap.push { cls := .type "list_iterator", data := .fields #[.ref a, .int 0 0] }).objs.size := by rw [size_push', hit]; exact Nat.lt_succ_self _
  generalize hS0 : (s2.heap.push { cls := .type "list_iterator", data := .fields #[.ref a, .int 0 0] }).objs.size = SS at *
  have I3 : Inv X pins σ H2 { s2 with heap := s2.heap.push { cls := .type "list_iterator", data := .fields #[.ref a, .int 0 0] } } := I2.kept (t' := s2.toks) fun b o q => Heap.get?_push_of_some _ q
  have nit : H2 it = none := I2.hok.fresh (Nat.le_of_eq hit)
  have nS : H2 SS = none := I2.hok.fresh (by rw [← hS0, size_push']; exact Nat.le_succ _)
  have f_it : FpOk X pins H2 it := I2.fpOk (Nat.le_of_eq hit) nit
  have f_S : FpOk X pins H2 SS := I2.fpOk (by rw [← hS0, size_push']; exact Nat.le_succ _) nS
  have fne : f ≠ it := Nat.ne_of_lt flt
  have fneS : f ≠ SS := Nat.ne_of_lt (Nat.lt_trans flt itS)
  have run : ∀ (H' : Hp) (s' : Shared) (u : Value) (x : V) (Q' : VK) (o : Obj), Inv X pins σ H' s' → H' c' = some (CodeO c' (X.env.qual ++ "<lambda>")) → SqL X.K H' a xs → s'.heap.get? f = some (PySem.W.kla_obj "<lambda>" (X.env.qual ++ "<lambda>") params body scope [] pm c' ctv) → H' f = none → H' it = none → H' SS = none →
      RelV x u → (∀ (i : Nat), s'.heap.IsListIter it a i → s'.heap.get? SS = some o → tb (L2.start N [x]) H' Q' → wpAny (model X.prog X.w) X.A.in1 (call (.ref f) [u]) (fun kv s'' => ∃ (H'' : Hp) (kV : V), Inv X pins σ H'' s'' ∧ RelV kV kv ∧ Q' kV H'' ∧ s''.heap.get? f = some (PySem.W.kla_obj "<lambda>" (X.env.qual ++ "<lambda>") params body scope [] pm c' ctv) ∧ H'' f = none ∧ H'' it = none ∧ H'' SS = none ∧ s''.heap.IsListIter it a i ∧ s''.heap.get? SS = some o) (fun _ _ => False) s') := by
    intro H' s' u x Q' o I' hc' hs' hf' n1 n2 n3 rx i hi hSo ht
    have hcr : s'.heap.CodeRec (.ref c') (X.env.qual ++ "<lambda>") := by
      obtain ⟨⟨oc, vs, t, z1, z2, z3⟩, _, _⟩ := I'.hok c' _ hc'
      exact ⟨c', oc, vs, t, rfl, z1, z2, z3⟩
    have rc := lam_run (CX := CX0) (E := E0) (A := X.A.in1) (outer := X.stack) hf' hcr I'.nolimit S hr1 I'.env0.in1 (hb _ _ _ _ u) rx (hbody _ _ _ _ _ _ (hr1.deeper _)) ht
    refine wpAny_call (codeAny_mono rc fun r s'' hq => ?_)
    cases r with
    | error e => exact (show False from hq).elim
    | ok fl =>
      cases fl with
      | next => exact False.elim hq
      | brk => exact False.elim hq
      | cont => exact False.elim hq
      | ret kv =>
        obtain ⟨kV, H'', os, bare, un, hok, rk, q⟩ := hq
        obtain ⟨hh, g, d, t, os'⟩ := s''
        obtain rfl : os' = s'.os := os
        have I'' := I'.call (h' := hh) (g' := g) (d' := d) (t' := t) (ch := []) un hok bare (fun b z => absurd z (by simp))
        obtain ⟨oi, hoi, rest⟩ := hi
        have nfr : ∀ b, b ≠ X.env.locals → b ∉ X.fs → b ∉ frs X.stack := fun b z1 z2 z => by
          rcases List.mem_cons.mp (I'.stkSub _ z) with e | e
          · exact z1 e
          · exact z2 e
        exact ⟨H'', kV, I'', rk, q, un.keep f _ hf' n1 hfr (by simp), un.free f _ hf' n1 (by simp), un.free it _ hoi n2 (by simp), un.free SS _ hSo n3 (by simp), ⟨oi, un.keep it _ hoi n2 (nfr _ f_it.2.1 f_it.2.2.1) (by simp), rest⟩, un.keep SS _ hSo n3 (nfr _ f_S.2.1 f_S.2.2.1) (by simp)⟩
  have moved : ∀ (H' : Hp) (s' s'' : Shared), Inv X pins σ H' s' → H' it = none → H' SS = none → Moved [SS, it] (fun a b => b = a) s' s'' → Inv X pins σ H' s'' := by
    intro H' s' s'' I' n2 n3 mv
    have e : s'' = { s' with heap := s''.heap, toks := s''.toks } := by
      obtain ⟨h4, g4, d4, t4, o4⟩ := s''
      have z1 : g4 = s'.gens := mv.gens
      have z2 : d4 = s'.drawn := mv.drawn
      have z3 : o4 = s'.os := mv.os
      subst z1; subst z2; subst z3
      rfl
    rw [e]
    exact I'.turnedL (ch := [SS, it]) (fun b o m q => mv.heap b o m q) fun b m => by
      rcases List.mem_cons.mp m with z | z
      · rw [z]; exact fp_next f_S n3
      · rw [List.mem_singleton.mp z]; exact fp_next f_it n2
  have listAt : ∀ (H' : Hp) (s' : Shared), Inv X pins σ H' s' → SqL X.K H' a xs → s'.heap.IsList a its.toArray := by
    intro H' s' I' q
    obtain ⟨its2, rv2, hl2, _⟩ := I'.list q
    rw [refs_same href rv rv2]; exact hl2.isList
  have same : ∀ {x : V} {u w : Value}, (∃ b, x = V.ref b) → RelV x u → RelV x w → u = w := fun {x u w} ⟨b, e⟩ r1 r2 => by subst e; cases r1; cases r2; rfl
  have getV : ∀ {i : Nat} {u : Value}, its.toArray[i]? = some u → ∃ x, xs[i]? = some x ∧ RelV x u := fun {i u} h => valsGet rv (by simpa using h)
  refine ⟨it, [it, a], [it], (fun a b => b = a), its.toArray.size, (fun i v => its.toArray[i]? = some v), (fun i s' => s'.heap.IsListIter it a i ∧ s'.heap.IsList a its.toArray),
    (fun j vb kb s' => ∃ (H' : Hp) (vV kV : V), Inv X pins σ H' s' ∧ RelV vV vb ∧ RelV kV kb ∧ J j vV kV H' ∧ s'.heap.get? f = some (PySem.W.kla_obj "<lambda>" (X.env.qual ++ "<lambda>") params body scope [] pm c' ctv) ∧ H' f = none ∧ H' it = none ∧ H' SS = none),
    rfl, W, st0, hfp, by simp; omega, ?keep, ?turn, ?one, ?fin⟩
  case keep =>
    rintro j vb kb s4 s5 ⟨H', vV, kV, I', z1, z2, z3, z4, z5, z6, z7⟩ mv
    exact ⟨H', vV, kV, moved H' s4 s5 I' z6 z7 mv, z1, z2, z3, mv.heap f _ (by simp [fne, fneS]) z4, z5, z6, z7⟩
  case turn =>
    rintro j vb kb u s4 o hjn hP ⟨H', vV, kV, I', z1, z2, z3, z4, z5, z6, z7⟩ ⟨hi4, _⟩ hSo
    obtain ⟨x, hx, rx⟩ := getV hP
    obtain ⟨hsq, hc4⟩ := hin j vV kV H' z3
    refine wpAny_mono (run H' s4 u x _ o I' hc4 hsq z4 z5 z6 z7 rx _ hi4 hSo (hturn j vV kV x H' hx z3)) (fun kv s5 hk => ?_) fun _ _ z => z
    obtain ⟨H5, k5, I5, rk5, ⟨dk, db, hd1, hd2, hal, l1, l2, hdep, hJ5⟩, y1, y2, y3, y4, y5, y6⟩ := hk
    obtain ⟨as, ra⟩ := Dp.reads I5 dk k5 kv hd1 rk5
    obtain ⟨bs, rb⟩ := Dp.reads I5 db kV kb hd2 z2
    refine ⟨PySem.W.dataLt dk db, fun Q5 E5 q => rcL dk db X.A.in1 s5 kv kb as bs ra rb l1 l2 hal (by show X.A.units + 1 + _ < _; omega) X.prog X.w E5 Q5 q, ⟨H5, _, _, I5, ?_, ?_, hJ5, y1, y2, y3, y4⟩, ⟨y5, listAt H5 s5 I5 (hin _ _ _ _ hJ5).1⟩, y6⟩
    · cases PySem.W.dataLt dk db with
      | true => simpa using rx
      | false => simpa using z1
    · cases PySem.W.dataLt dk db with
      | true => simpa using rk5
      | false => simpa using z2
  case one =>
    intro u s4 hP st4 mv o hSo
    obtain ⟨x, hx, rx⟩ := getV hP
    have I4 := moved H2 _ s4 I3 nit nS mv
    have hf4 : s4.heap.get? f = some (PySem.W.kla_obj "<lambda>" (X.env.qual ++ "<lambda>") params body scope [] pm c' ctv) := mv.heap f _ (by simp [fne, fneS]) (Heap.get?_push_of_some _ hf)
    refine wpAny_mono (run H2 s4 u x _ o I4 hco hs hf4 hfn nit nS rx _ st4.1 hSo (hone x hx)) (fun kv s5 hk => ?_) fun _ _ z => z
    obtain ⟨H5, k5, I5, rk5, hJ5, y1, y2, y3, y4, y5, y6⟩ := hk
    exact ⟨⟨H5, x, k5, I5, rx, rk5, hJ5, y1, y2, y3, y4⟩, ⟨y5, listAt H5 s5 I5 (hin _ _ _ _ hJ5).1⟩, y6⟩
  case fin =>
    rintro vb kb s4 ⟨H', vV, kV, I', z1, z2, z3, _⟩
    have en : its.toArray.size - 1 = xs.length - 1 := by simp [hlen]
    rw [en] at z3
    exact ⟨vV, H', I', z1, hfin vV kV H' z3⟩
end
end Ab
end
section
set_option maxRecDepth 100000
set_option maxHeartbeats 2000000
namespace Ab
open PySem PySem.Spec PyProof.Rows L2 LamX
variable [Hd]
/-! ### sorted by a def that is the key: data -/
def keysD (m : List D → Option D) : List D → Option (List D)
  | [] => some []
  | d :: ds => bnd (m [d]) fun k => bnd (keysD m ds) fun ks => some (k :: ks)
theorem dps_up {K : PySem.W.Frag} {F H : Hp} (h : Same F H) : ∀ {vs : List V} {ds : List PyData}, DpAll K F vs ds → DpAll K H vs ds
  | _, _, .nil => .nil
  | _, _, .cons a b => .cons (dp_up h a) (dps_up h b)
def headI : D → Bool
  | .tup (.int _ :: _) => true
  | _ => false
def keyOk (k : D) : Bool := plainD k && decide (depD k ≤ 190)
def alD (a b : D) : Bool := alL (py a) (py b)
def keysOk (ks : List D) : Bool := ks.all (fun k => keyOk k && headI k) && ks.all fun a => ks.all fun b => alD a b
noncomputable def sortD (b : Bool) (ds ks : List D) : List D := ((ds.zip (pys ks)).mergeSort (PySem.W.dataLe b Prod.snd)).map Prod.fst
noncomputable def xSortKey (m : List D → Option D) (b : Bool) (sq : State → Option (List D)) : State → Option (List D) := fun α => bnd (sq α) fun ds => bnd (keysD m ds) fun ks => if keysOk ks = true ∧ ds.length ≤ 100000 then some (sortD b ds ks) else none
@[simp] theorem a_xSortKey {m : List D → Option D} {b : Bool} {sq : State → Option (List D)} {α : State} : xSortKey m b sq α = (bnd (sq α) fun ds => bnd (keysD m ds) fun ks => if keysOk ks = true ∧ ds.length ≤ 100000 then some (sortD b ds ks) else none) := (rfl)
theorem keysD_len {m : List D → Option D} : ∀ {ds ks : List D}, keysD m ds = some ks → ks.length = ds.length
  | [], ks, h => by cases h; rfl
  | d :: ds, ks, h => by
    obtain ⟨k, _, h⟩ := bnd_some h
    obtain ⟨r, h2, h⟩ := bnd_some h
    cases h
    rw [List.length_cons, List.length_cons, keysD_len h2]
theorem keysD_get {m : List D → Option D} : ∀ {ds ks : List D} {i : Nat} {d : D}, keysD m ds = some ks → ds[i]? = some d → ∃ k, ks[i]? = some k ∧ m [d] = some k
  | [], ks, i, d, _, h => by simp at h
  | e :: ds, ks, i, d, h, hi => by
    obtain ⟨k, h1, h⟩ := bnd_some h
    obtain ⟨r, h2, h⟩ := bnd_some h
    cases h
    cases i with
    | zero => simp at hi; subst hi; exact ⟨k, rfl, h1⟩
    | succ i => obtain ⟨k2, q1, q2⟩ := keysD_get (i := i) h2 (by simpa using hi); exact ⟨k2, by simpa using q1, q2⟩
theorem pys_map (ds : List D) : pys ds = ds.map py := by
  induction ds with
  | nil => rfl
  | cons d ds ih => show py d :: pys ds = _; rw [ih]; rfl
section
variable {e : En} {te : TE} {sq : State → Option (List D)}
theorem reps_pairs {F : Hp} : ∀ {ps : List (D × V)}, (∀ p ∈ ps, Rep e F p.1 p.2) → Reps e F (ps.map Prod.fst) (ps.map Prod.snd)
  | [], _ => Reps.nil
  | p :: ps, h => Reps.cons (h p List.mem_cons_self) (reps_pairs fun q m => h q (List.mem_cons_of_mem _ m))
theorem reps_zip {F : Hp} : ∀ {ds : List D} {vs : List V}, Reps e F ds vs → ∀ p ∈ ds.zip vs, Rep e F p.1 p.2
  | [], _, _, p, m => by simp at m
  | d :: ds, _, ⟨v, r, q, x, y⟩, p, m => by
    subst q
    rw [List.zip_cons_cons] at m
    rcases List.mem_cons.mp m with z | z
    · rw [z]; exact x
    · exact reps_zip y p z
theorem sort_reps {F : Hp} {ds : List D} {vs : List V} {kz : List PyData} {b : Bool} (r : Reps e F ds vs) (hl : kz.length = ds.length) :
    Reps e F (((ds.zip kz).mergeSort (PySem.W.dataLe b Prod.snd)).map Prod.fst) (sortV b kz vs) := by
  have hv : vs.length = ds.length := r.len
  let T : List ((D × V) × PyData) := (ds.zip vs).zip kz
  have e1 : T.map (fun t => (t.1.1, t.2)) = ds.zip kz := by
    apply List.ext_getElem
    · simp [T, hv, hl]
    · intro i h1 h2; simp [T]
  have e2 : T.map (fun t => (t.1.2, t.2)) = vs.zip kz := by
    apply List.ext_getElem
    · simp [T, hv, hl]
    · intro i h1 h2; simp [T]
  have s1 : (T.mergeSort (PySem.W.dataLe b Prod.snd)).map (fun t => (t.1.1, t.2)) = (ds.zip kz).mergeSort (PySem.W.dataLe b Prod.snd) := by
    rw [← e1]; exact List.map_mergeSort fun _ _ _ _ => rfl
  have s2 : (T.mergeSort (PySem.W.dataLe b Prod.snd)).map (fun t => (t.1.2, t.2)) = (vs.zip kz).mergeSort (PySem.W.dataLe b Prod.snd) := by
    rw [← e2]; exact List.map_mergeSort fun _ _ _ _ => rfl
  unfold sortV
  rw [← s1, ← s2, List.map_map, List.map_map]
  have := reps_pairs (e := e) (F := F) (ps := (T.mergeSort (PySem.W.dataLe b Prod.snd)).map Prod.fst) fun p m => by
    obtain ⟨t, mt, rfl⟩ := List.mem_map.mp m
    have mt2 : t ∈ T := (List.mergeSort_perm _ _).mem_iff.mp mt
    exact reps_zip r _ (List.of_mem_zip mt2).1
  rw [List.map_map, List.map_map] at this
  exact this
theorem keyOk_iff {k : D} : keyOk k = true ↔ plainD k = true ∧ depD k ≤ 190 := by unfold keyOk; rw [Bool.and_eq_true, decide_eq_true_eq]
theorem el_sortKey {f : Addr} {m : List D → Option D} {b : Bool} (h : EvqL e te sq) : Evl e (tCKw (rSortC e.K (spP e m) f b) (tCons te tNil) (tCons (tC (.ref f)) (tCons (tC (.bl b)) tNil))) (xSortKey m b sq) := fun c L S σ H α xs R q Q k => by
  obtain ⟨ds, h1, q⟩ := bnd_some q
  obtain ⟨ks, h2, q⟩ := bnd_some q
  split at q
  · rename_i hok
    cases q
    obtain ⟨hok, hz⟩ := hok
    unfold keysOk at hok
    rw [Bool.and_eq_true, List.all_eq_true, List.all_eq_true] at hok
    obtain ⟨ok1, ok2⟩ := hok
    have hkl := keysD_len h2
    refine h c L S σ H α ds R h1 _ fun a vs H1 e1 r1 r2 => ?_
    refine ⟨a, vs, fun i us H' => Sm H1 H' ∧ Reps e (fz L H') (ks.take i) us, rfl, rfl, fz_le.seq r1, by rw [r2.len]; exact sz_of hz, ⟨Sm.refl _, by simpa using Reps.nil⟩, fun i v us H2 hv hj => ?_, fun us H2 hl hj => ?_⟩
    · obtain ⟨s2, ru⟩ := hj
      obtain ⟨d, hd, rd⟩ := r2.getv hv
      obtain ⟨kd, hk1, hk2⟩ := keysD_get h2 hd
      refine ⟨L, [d], kd, dom_up (e1.trans s2) R.dm, Reps.cons (rd.up (fz_same s2)) Reps.nil, hk2, fun v' H3 s3 r3 => ⟨s2.trans s3, ?_⟩⟩
      rw [List.take_add_one, hk1]
      exact (ru.up (fz_same s3)).append (Reps.cons r3 Reps.nil)
    · obtain ⟨s2, ru⟩ := hj
      rw [List.take_of_length_le (by rw [r2.len]; omega)] at ru
      have plain : plainDs ks = true := by
        have aux : ∀ l : List D, (∀ x ∈ l, plainD x = true) → plainDs l = true := by
          intro l
          induction l with
          | nil => intro _; rfl
          | cons x l ih => intro hx; show (plainD x && plainDs l) = true; rw [hx x List.mem_cons_self, ih fun y m => hx y (List.mem_cons_of_mem _ m)]; rfl
        exact aux ks fun x mx => by have := ok1 x mx; rw [Bool.and_eq_true, keyOk_iff] at this; exact this.1.1
      have mem : ∀ d ∈ pys ks, ∃ x ∈ ks, d = py x := fun d md => by
        rw [pys_map] at md
        obtain ⟨x, mx, rfl⟩ := List.mem_map.mp md
        exact ⟨x, mx, rfl⟩
      refine ⟨pys ks, dps_up fz_le (dps_of ks us plain ru), ⟨fun d md => ?_, fun d md d' md' => ?_, fun d md => ?_⟩, fun d md => ?_, fun p hp => ?_⟩
      · obtain ⟨x, mx, rfl⟩ := mem d md
        have := ok1 x mx
        rw [Bool.and_eq_true] at this
        unfold headI at this
        obtain ⟨_, hh⟩ := this
        split at hh
        · exact ⟨_, _, rfl⟩
        · cases hh
      · obtain ⟨x, mx, rfl⟩ := mem d md
        obtain ⟨y, my, rfl⟩ := mem d' md'
        exact List.all_eq_true.mp (ok2 x mx) y my
      · obtain ⟨x, mx, rfl⟩ := mem d md
        have := ok1 x mx
        rw [Bool.and_eq_true, keyOk_iff] at this
        exact lay_of x this.1.1
      · obtain ⟨x, mx, rfl⟩ := mem d md
        have := ok1 x mx
        rw [Bool.and_eq_true, keyOk_iff] at this
        exact Nat.le_trans (dep_py x) this.1.2
      · have s3 : Sm H2 (upd H2 p (.lst (sortV b (pys ks) vs))) := same_upd hp
        have hH : H p = none := none_back R.inv (e1.trans s2) hp
        exact k p _ _ ((e1.trans s2).trans s3) hH upd_same ((sort_reps (r2.up (fz_same s2)) (by rw [pys_map, List.length_map, hkl])).up (fz_cons s3 hp))
  · cases q
end
/-! ### min by a lambda: data -/
/-- a table of code objects that is hidden -/
class HasTab (P : Addr) (q : Str) : Prop where
  tab : ∀ {H : Hp}, Hd.inv H → TabS H P q
  but : ∀ {H H' : Hp}, But1 P H H' → TabS H' P q → Sm H H'
  nh : ∀ {H : Hp} {a : Addr} {q' : Str}, Hd.inv H → H a = some (CodeO a q') → ¬ Hd.hid a
def keysL (n : Nat) (sb : State → Option D) : List D → Option (List D)
  | [] => some []
  | d :: ds => bnd (sb (inP n 1 [d])) fun k => bnd (keysL n sb ds) fun ks => some (k :: ks)
theorem keysL_len {n : Nat} {sb : State → Option D} : ∀ {ds ks : List D}, keysL n sb ds = some ks → ks.length = ds.length
  | [], ks, h => by cases h; rfl
  | d :: ds, ks, h => by
    obtain ⟨k, _, h⟩ := bnd_some h
    obtain ⟨r, h2, h⟩ := bnd_some h
    cases h
    rw [List.length_cons, List.length_cons, keysL_len h2]
theorem keysL_get {n : Nat} {sb : State → Option D} : ∀ {ds ks : List D} {i : Nat} {d : D}, keysL n sb ds = some ks → ds[i]? = some d → ∃ k, ks[i]? = some k ∧ sb (inP n 1 [d]) = some k
  | [], ks, i, d, _, h => by simp at h
  | e :: ds, ks, i, d, h, hi => by
    obtain ⟨k, h1, h⟩ := bnd_some h
    obtain ⟨r, h2, h⟩ := bnd_some h
    cases h
    cases i with
    | zero => simp at hi; subst hi; exact ⟨k, rfl, h1⟩
    | succ i => obtain ⟨k2, q1, q2⟩ := keysL_get (i := i) h2 (by simpa using hi); exact ⟨k2, by simpa using q1, q2⟩
def ltD (a b : D) : Bool := PySem.W.dataLt (py a) (py b)
/-- the first place of a least key among the first ones -/
def bestI (ks : List D) : Nat → Nat
  | 0 => 0
  | j + 1 => if ltD (ks.getD (j + 1) .non) (ks.getD (bestI ks j) .non) = true then j + 1 else bestI ks j
theorem bestI_le (ks : List D) : ∀ j, bestI ks j ≤ j
  | 0 => Nat.le_refl _
  | j + 1 => by unfold bestI; have := bestI_le ks j; split <;> omega
def isRefD : D → Bool
  | .tup _ => true | .lst _ => true | .ins _ _ => true
  | _ => false
def minOk (ds ks : List D) : Bool := ks.all keyOk && (ks.all fun a => ks.all fun b => alD a b) && ds.all isRefD && decide (0 < ds.length)
def xMinLam (n : Nat) (sb : State → Option D) (sq : State → Option (List D)) : State → Option D := fun α => bnd (sq α) fun ds => bnd (keysL n sb ds) fun ks => if minOk ds ks = true then ds[bestI ks (ds.length - 1)]? else none
@[simp] theorem a_xMinLam {n : Nat} {sb : State → Option D} {sq : State → Option (List D)} {α : State} : xMinLam n sb sq α = (bnd (sq α) fun ds => bnd (keysL n sb ds) fun ks => if minOk ds ks = true then ds[bestI ks (ds.length - 1)]? else none) := (rfl)
section
variable {e : En} {te tb : TE} {sq : State → Option (List D)}
theorem ev_minLam {P : Addr} {q : Str} [T : HasTab P q] {N : List Str} {n : Nat} {sb : State → Option D} (hn : N.length = n) (h1n : 1 ≤ n) (hb : Evp e tb sb) (h : EvqL e te sq) : Evp e (tMinL e.K P q N tb te) (xMinLam n sb sq) := fun c L S σ H α x R q0 Q k => by
  subst hn
  obtain ⟨ds, h1, q0⟩ := bnd_some q0
  obtain ⟨ks, h2, q0⟩ := bnd_some q0
  split at q0
  · rename_i hok
    unfold minOk at hok
    rw [Bool.and_eq_true, Bool.and_eq_true, Bool.and_eq_true, List.all_eq_true, List.all_eq_true, List.all_eq_true, decide_eq_true_eq] at hok
    obtain ⟨⟨⟨ok1, ok2⟩, ok3⟩, hpos⟩ := hok
    have hkl := keysL_len h2
    refine h c L S σ H α ds R h1 _ fun a vs H1 e1 r1 r2 => ⟨T.tab (e1.i R.inv), fun H2 b1 hT2 c' hc => ?_⟩
    have s12 : Sm H1 H2 := T.but b1 hT2
    have i2 : Hd.inv H2 := s12.i (e1.i R.inv)
    have nhc : ¬ Hd.hid c' := T.nh i2 hc
    have dm2 : Dom L H2 := dom_up (e1.trans s12) R.dm
    have rA : SqL e.K (fz [] H2) a vs := (fz_same s12).seq r1
    have rV : Reps e (fz L H2) ds vs := r2.up (fz_same s12)
    have kAt : ∀ {i : Nat}, i < ds.length → ∃ d kd, ds[i]? = some d ∧ ks[i]? = some kd ∧ sb (inP N.length 1 [d]) = some kd := fun {i} hi => by
      obtain ⟨kd, q1, q2⟩ := keysL_get h2 (List.getElem?_eq_getElem hi)
      exact ⟨_, kd, List.getElem?_eq_getElem hi, q1, q2⟩
    have call : ∀ {i : Nat} {x : V} {H3 : Hp} {Q' : VK}, Sm H2 H3 → vs[i]? = some x → (∀ v H4, Sm H3 H4 → Rep e (fz L H4) (ks.getD i .non) v → Q' v H4) → tb (L2.start N [x]) H3 Q' := fun {i x H3 Q'} s3 hx hq => by
      obtain ⟨d, hd, rd⟩ := rV.getv hx
      obtain ⟨kd, q1, q2⟩ := keysL_get h2 hd
      have R3 := inP_rel (N := N) (dom_up s3 dm2) (Reps.cons (rd.up (fz_same s3)) Reps.nil) (show [x].length ≤ N.length by simpa using h1n)
      refine hb _ _ _ _ _ _ kd R3 q2 _ fun v H4 s4 r4 => hq v H4 s4 ?_
      rw [List.getD_eq_getElem?_getD, q1]
      exact r4
    refine ⟨a, vs, fun j vb kb H3 => Sm H2 H3 ∧ j < ds.length ∧ Rep e (fz L H3) (ds.getD (bestI ks j) .non) vb ∧ Rep e (fz L H3) (ks.getD (bestI ks j) .non) kb, rfl, fz_le.seq rA, by rw [r2.len]; exact hpos, fun y my => ?_, fun j vb kb H3 hj => ?_, fun y hy => ?_, fun j vb kb y H3 hy hj => ?_, fun vb kb H3 hj => ?_⟩
    · obtain ⟨i, hi⟩ := List.mem_iff_getElem?.mp my
      obtain ⟨d, hd, rd⟩ := rV.getv hi
      have := ok3 d (List.mem_of_getElem? hd)
      cases d with
      | tup _ => obtain ⟨b, _, z, _⟩ := rd; exact ⟨b, z⟩
      | lst _ => obtain ⟨b, _, z, _⟩ := rd; exact ⟨b, z⟩
      | ins _ _ => obtain ⟨b, _, _, z, _⟩ := rd; exact ⟨b, z⟩
      | _ => cases this
    · exact ⟨fz_le.seq ((fz_same hj.1).seq rA), hj.1.k _ _ hc nhc⟩
    · refine call (Sm.refl _) hy fun v H4 s4 r4 => ⟨s4, hpos, ?_, r4⟩
      obtain ⟨d, hd, rd⟩ := rV.getv hy
      show Rep e (fz L H4) (ds.getD 0 .non) y
      rw [List.getD_eq_getElem?_getD, hd]
      exact Rep.up rd (fz_same s4)
    · obtain ⟨s3, hj0, rb, rk⟩ := hj
      refine call s3 hy fun v H4 s4 r4 => ?_
      obtain ⟨d, hd, rd⟩ := rV.getv hy
      have hjl : j + 1 < ds.length := (List.getElem?_eq_some_iff.mp hd).1
      have mem : ∀ i, i < ds.length → ks.getD i .non ∈ ks := fun i hi => by
        rw [List.getD_eq_getElem?_getD, List.getElem?_eq_getElem (by omega)]
        exact List.getElem_mem _
      have hbl := bestI_le ks j
      have m1 := mem (j + 1) hjl
      have m2 := mem (bestI ks j) (by omega)
      have p1 := keyOk_iff.mp (ok1 _ m1)
      have p2 := keyOk_iff.mp (ok1 _ m2)
      refine ⟨py (ks.getD (j + 1) .non), py (ks.getD (bestI ks j) .non), dp_up fz_le (dp_of _ _ p1.1 r4), dp_up fz_le (dp_of _ _ p2.1 (Rep.up rk (fz_same s4))), List.all_eq_true.mp (ok2 _ m1) _ m2, lay_of _ p1.1, lay_of _ p2.1, ?_, s3.trans s4, hjl, ?_, ?_⟩
      · exact Nat.le_trans (Nat.min_le_left _ _) (Nat.le_trans (dep_py _) p1.2)
      · rw [show bestI ks (j + 1) = if ltD (ks.getD (j + 1) .non) (ks.getD (bestI ks j) .non) = true then j + 1 else bestI ks j from rfl]
        cases hc : ltD (ks.getD (j + 1) .non) (ks.getD (bestI ks j) .non) with
        | true =>
          unfold ltD at hc; rw [if_pos rfl, if_pos hc, List.getD_eq_getElem?_getD, hd]; exact Rep.up rd (fz_same (s3.trans s4))
        | false =>
          rw [if_neg Bool.false_ne_true, if_neg (by unfold ltD at hc; rw [hc]; exact Bool.false_ne_true)]; exact Rep.up rb (fz_same s4)
      · rw [show bestI ks (j + 1) = if ltD (ks.getD (j + 1) .non) (ks.getD (bestI ks j) .non) = true then j + 1 else bestI ks j from rfl]
        cases hc : ltD (ks.getD (j + 1) .non) (ks.getD (bestI ks j) .non) with
        | true =>
          unfold ltD at hc; rw [if_pos rfl, if_pos hc]; exact r4
        | false =>
          rw [if_neg Bool.false_ne_true, if_neg (by unfold ltD at hc; rw [hc]; exact Bool.false_ne_true)]; exact Rep.up rk (fz_same s4)
    · obtain ⟨s3, hj0, rb, _⟩ := hj
      rw [r2.len] at rb
      refine k vb H3 ((e1.trans s12).trans s3) ?_
      rw [List.getD_eq_getElem?_getD, q0] at rb
      exact rb
  · cases q0
end
end Ab
end
section
set_option maxRecDepth 100000
set_option maxHeartbeats 1000000
namespace Ab
open PySem L2 PyProof.Rows PySem.Spec LamX
/-! ### < of lists and tuples of data -/
section
variable [Hd]
def ltOk (a b : D) : Bool := plainD a && plainD b && alD a b && decide (min (depD a) (depD b) ≤ 190)
def rLtQ (K : PySem.W.Frag) : R2 := fun x y H Q => ∃ d e, Dp K H x d ∧ Dp K H y e ∧ d.canLay0 = true ∧ e.canLay0 = true ∧ alL d e = true ∧ min d.depth e.depth ≤ 190 ∧ Q (.bl (PySem.W.dataLt d e)) H
theorem lt_q {X : Cx} {K : PySem.W.Frag} (hK : X.K = K) (hu : X.A.units + 200 < cLine) : OpR X (compareOp .Lt) (rLtQ K) := by
  subst hK
  intro pins s σ H x y v u Q I rx ry ⟨d, e, hd, he, ld, le, ha, hm, q⟩
  obtain ⟨as, r1⟩ := Dp.reads I d x v hd rx
  obtain ⟨bs, r2⟩ := Dp.reads I e y u he ry
  exact rcL d e X.A s v u as bs r1 r2 ld le ha (by omega) X.prog X.w _ _ ⟨.bl _, H, I, rfl, q⟩
def fLtQ : D → D → Option D := fun a b => if ltOk a b = true then some (.bl (ltD a b)) else none
theorem rv_ltQ {e : En} : RvD e (rLtQ e.K) fLtQ := fun L H dx dy x y d dm rx ry h Q q => by
  unfold fLtQ at h
  split at h
  · rename_i hc
    cases h
    unfold ltOk at hc
    simp only [Bool.and_eq_true, decide_eq_true_eq] at hc
    have h1 := dep_py dx
    have h2 := dep_py dy
    exact ⟨py dx, py dy, dp_up fz_le (dp_of dx x hc.1.1.1 rx), dp_up fz_le (dp_of dy y hc.1.1.2 ry), lay_of _ hc.1.1.1, lay_of _ hc.1.1.2, hc.1.2, by omega, q _ H (Sm.refl H) rfl⟩
  · cases h
end
/-! ### where a lambda stands in a def -/
def lamE (e : Expr) : Expr := match e with
  | .Call _ _ (k :: _) _ => k.value
  | _ => e
def lamSc (e : Expr) : Scope := match e with
  | .Lambda _ _ sc _ => sc
  | _ => { kind := .function, names := [], isGenerator := false, isCoroutine := false }
def stIn (s : Stmt) (j : Nat) : Stmt := match s with
  | .If _ b _ _ => b.getD j (.Pass ⟨0, 0, 0, 0⟩)
  | .For _ _ b _ _ => b.getD j (.Pass ⟨0, 0, 0, 0⟩)
  | _ => s
def asgE (s : Stmt) : Expr := match s with
  | .Assign _ e _ => e
  | .Return (some e) _ => e
  | _ => .Name "" ⟨0, 0, 0, 0⟩
def lamQ (q : Str) (sc : Scope) : Str := (envOfC q sc 0 0 .none).qual ++ "<lambda>"
section
variable [Hd] {X : Cx}
theorem sort_q {K : PySem.W.Frag} {f : Addr} {b : Bool} {sp : Sp} {k j : Nat} {fd : FuncData} {x : Str} (hK : X.K = K) (F : FnOk X.prog X.w X.K X.mg X.base CX0 k f fd [x] sp) (hr : Room j X.A) (hj : k + 2 ≤ j) (hb : Binds X.K fd [x] []) :
    CallRK X (.builtin "sorted") [Str.ofString "key", Str.ofString "reverse"] (rSortC K sp f b) := hK ▸ cr_sortC F ((hr.mono hj).in1.in1) hb (units_of hr)
/-- one argument, its value alone -/
def tOne (te : TE) : TE := fun σ H R => tCons te tNil σ H fun vs H1 => ∃ v, vs = [v] ∧ R v H1
theorem eq_one {e : En} {te : TE} {sq : State → Option (List D)} (h : EvqL e te sq) : EvqL e (tOne te) sq := fun c L S σ H α ds R q Q k => by
  refine h c L S σ H α ds R q _ fun a vs H1 e1 r1 r2 => ?_
  exact ⟨_, rfl, k a vs H1 e1 r1 r2⟩
theorem pe_minLam1 {K : PySem.W.Frag} {c P : Addr} {k j : Nat} {pn : Str} {params : Arguments} {body : Expr} {scope : Scope} {N : List Str} {te tb : TE} {e : Expr} {p lpos kpos pos : Pos} (hK : X.K = K) (hg : Gl X "min") (hm : X.mg "min" = none) (ha : PE X e te)
    (TB : TabB X.base X.mg c P) (hcode : X.env.code = .ref c) (hdef : defaultsOf params X.env = ([], [])) (hcl : closureFor scope X.env = pure []) (S : FnScope N [pn] scope) (hr : Room j X.A) (hj : k + 2 ≤ j)
    (hb : ∀ (q : Str) (pm cv ctv v : Value), bindArgs (PySem.W.kla_fn "<lambda>" q params body scope [] pm cv ctv) ⟨[v], []⟩ = pure [(pn, v)])
    (hbody : ∀ (A : Around) (outer : List Env) (s : Shared) (H : Hp) (f c' : Addr), Room k (A.deeper (envOfC (X.env.qual ++ "<lambda>") scope s.heap.objs.size f (.ref c'))) → PE (cxOf CX0 X.prog X.w X.K X.mg X.base N (X.env.qual ++ "<lambda>") scope f (.ref c') A outer s H E0) body tb)
    (he0 : starEach [e] X.env = (false, eval e X.env) :: starEach [] X.env := by rfl) (he2 : backTo pos (starEach [e] X.env) = (false, eval e X.env) :: backTo pos (starEach [] X.env) := by rfl) (hpl : (backTo pos (starEach [e] X.env)).any (·.1) = false := by rfl) :
    PE X (.Call (.Name "min" p) [e] [⟨some "key", .Lambda params body scope lpos, kpos⟩] pos) (tMinL K P (X.env.qual ++ "<lambda>") N tb (tOne te)) :=
  hK ▸ pe_minLam (ta := tCons te tNil) hg hm (pa_cons ha pa_nil he0) (fun _ _ _ h => h) TB hcode hdef hcl S (hr.mono hj) hb hbody he2 hpl
end
/-! ### one table of code objects is hidden -/
abbrev hdT (P : Addr) (q : Str) : Hd where
  hid := fun a => a = P
  inv := fun H => TabS H P q
  up := fun h t => t.ext h
  chg := fun {H p u o} t n hp hpl => by
    obtain ⟨ps, h1, h2, h3⟩ := t
    refine ⟨ps, by rw [upd_ne (fun z => n z.symm)]; exact h1, h2, fun pos cv hc => ?_⟩
    obtain ⟨c, e1, e2⟩ := h3 pos cv hc
    refine ⟨c, e1, ?_⟩
    rw [upd_ne]
    · exact e2
    · intro z; rw [z, hp] at e2; cases e2; exact hpl.elim
  del := fun {H p u} t n hp hpl => by
    obtain ⟨ps, h1, h2, h3⟩ := t
    refine ⟨ps, (if_neg (fun z => n z.symm)).trans h1, h2, fun pos cv hc => ?_⟩
    obtain ⟨c, e1, e2⟩ := h3 pos cv hc
    exact ⟨c, e1, (if_neg (fun z => by rw [z, hp] at e2; cases e2; exact hpl.elim)).trans e2⟩
  al := fun {H a} t h => by
    obtain ⟨ps, h1, _⟩ := t
    rw [h, h1]; exact fun z => nomatch z
theorem hasTab_T (P : Addr) (q : Str) : @HasTab (hdT P q) P q := by
  refine @HasTab.mk (hdT P q) P q (fun t => t) (fun {H H'} b t => ?_) (fun {H a q'} t hc h => ?_)
  · exact @Sm.mk (hdT P q) H H' (fun a o h n => b a o h n) (fun _ => t)
  · obtain ⟨ps, h1, _⟩ := (show TabS H P q from t)
    rw [show a = P from h, h1] at hc
    exact codeO_ne _ (Option.some.inj hc).symm
/-! ### a def whose code object is known -/
structure FunC (K : PySem.W.Frag) (x qual : Str) (st : Stmt) (f : Addr) (fd : FuncData) (c : Addr) : Prop where
  fu : Fun K x qual st f fd
  ex : ∃ (oc : Value) (od : Option Addr) (kV doc pm : Value) (an : Option Addr) (ct : Value) (osl : Array (Option Value)),
    fd = PySem.W.fnOf x qual (defArgs st) (defBody st) (defScope st) .none kV doc pm an (.ref c) ct ∧ K.lookup f = some ⟨oc, od, .func fd, osl⟩ ∧ PySem.W.codeIn K (.ref c) qual = true
section
variable [Hd] {P : Program} {w : World} {K : PySem.W.Frag} {mg : Str → Option Value} {base : Heap}
theorem FunC.ok {x qual : Str} {st : Stmt} {f c : Addr} {fd : FuncData} {N ps : List Str} {k : Nat} {sp : Sp} (F : FunC K x qual st f fd c) (S : FnScope N ps (defScope st)) (len : ∀ vs H Q E, sp vs H Q E → vs.length = ps.length)
    (hbody : ∀ (A : Around) (outer : List Env) (s : Shared) (H : Hp) (vs : List V) (Q : VK) (E : XK), Room k (A.deeper (envOfC qual (defScope st) s.heap.objs.size f (.ref c))) → sp vs H Q E →
      ∃ t, PSs (cxOf CX0 P w K mg base N qual (defScope st) f (.ref c) A outer s H E).nox (defBody st) t ∧ t { nx := fun _ H' => Q .non H', rt := Q } (start N vs) H) : FnOk P w K mg base CX0 (k + 1) f fd ps sp := by
  obtain ⟨oc, od, kV, doc, pm, an, ct, osl, rfl, lk, hcd⟩ := F.ex
  refine fn_of lk hcd S len fun A outer s H vs Q E hr hsp => ?_
  obtain ⟨t, h, q⟩ := hbody A outer s H vs Q E hr hsp
  exact ⟨t, h.nox, q⟩
theorem fn_PC {cls : String → Addr} {x qual : Str} {st : Stmt} {f c : Addr} {fd : FuncData} {N ps : List Str} {k : Nat} (s : State → Out) (F : FunC K x qual st f fd c) (S : FnScope N ps (defScope st)) {n kk : Nat} (hn : N.length = n) (hkk : ps.length = kk) (hps : kk ≤ n) {m : List D → Option D} (hmm : m = runP n kk s)
    (hbody : ∀ (A : Around) (outer : List Env) (s0 : Shared) (H : Hp) (E : XK), Room k (A.deeper (envOfC qual (defScope st) s0.heap.objs.size f (.ref c))) →
      ∃ t, PSs (cxOf CX0 P w K mg base N qual (defScope st) f (.ref c) A outer s0 H E).nox (defBody st) t ∧ Sts ⟨K, cls⟩ E0 t s) : FnOk P w K mg base CX0 (k + 1) f fd ps (spP ⟨K, cls⟩ m) := by
  subst hn hkk hmm
  refine F.ok S (fun vs H Q E ⟨L, ds, d, dm, r, hm, q⟩ => ?_) (fun A outer s0 H vs Q E hr ⟨L, ds, d, dm, r, hm, q⟩ => ?_)
  · unfold runP at hm
    split at hm
    · rename_i hl; rw [r.len, hl]
    · cases hm
  · obtain ⟨t, h1, h2⟩ := hbody A outer s0 H E hr
    refine ⟨t, h1, ?_⟩
    unfold runP at hm
    split at hm
    · rename_i hl
      have hvl : vs.length = ps.length := by rw [r.len, hl]
      have R := inP_rel (N := N) dm r (by omega)
      rw [hvl] at R
      refine h2 _ _ _ _ _ _ _ R ?_
      split at hm
      · rename_i d' β hs
        cases hm; rw [hs]
        exact fun v L' S' σ' H' R' rr => q v H' R'.md.same (Rep.mono (fz_anti R'.l0) _ _ rr)
      · rename_i xs β hs
        cases hm; rw [hs]
        intro v L' S' σ' H' R' ⟨p, us, e1, n0, hp, r2⟩
        subst e1
        exact q _ H' R'.md.same ⟨p, us, rfl, .inl (.inl (fz_new (R'.n0 n0) hp)), r2.up (fz_anti fun a m => List.mem_cons_of_mem _ (R'.l0 a m))⟩
      · rename_i β hs
        cases hm; rw [hs]
        exact fun L' S' σ' H' _ R' => q _ H' R'.md.same rfl
      · cases hm
    · cases hm
theorem funC_mk {x qual : Str} {st : Stmt} {f c : Addr} {oc : Value} {od : Option Addr} {kV doc pm ct : Value} {an : Option Addr} {sl : Array (Option Value)}
    (h : K.lookup f = some ⟨oc, od, .func (PySem.W.fnOf x qual (defArgs st) (defBody st) (defScope st) .none kV doc pm an (.ref c) ct), sl⟩) (hc : PySem.W.codeIn K (.ref c) qual = true) (hk : PySem.W.keepIn K (.ref f) = true) :
    FunC K x qual st f (PySem.W.fnOf x qual (defArgs st) (defBody st) (defScope st) .none kV doc pm an (.ref c) ct) c := ⟨fun_mk h hc hk, _, _, _, _, _, _, _, _, rfl, h, hc⟩
end
/-! ### a law's end with a table -/
theorem fzT {P : Addr} {q : Str} {H : Hp} {a : Addr} (h : a ≠ P) : @fz (hdT P q) [] H a = H a := by
  unfold fz
  rw [if_neg]
  rintro (z | z)
  · exact nomatch z
  · exact h z
theorem lawT_of {l : PySem.W.OpenLaw} {w : World} {K : PySem.W.Frag} {mg : Str → Option Value} {h : Heap} {cls : String → Addr} {k : Nat} {fa : Addr} {fd : FuncData} {x : Str} {m : List D → Option D} {c P : Addr} {q : Str}
    (hT : h.get? P = some { cls := .none, data := .fields #[] }) (hK : K.lookup P = none) (C : PySem.W.CodeHd h c P) (hb : ∀ (s : Shared) (u : Value), BindsTo s fd ⟨[u], []⟩ [(x, u)])
    (F : ∀ base : Heap, K.In base → base.Ns mainGlobals mg → TabB base mg c P → FnOk l.prog w K mg base CX0 k fa fd [x] (@spP (hdT P q) ⟨K, cls⟩ m))
    (g : ∀ ns : List Int, ns.length ≤ 63 → m [.lst (ns.map .int)] = some (.bl true)) : LawAtS l w K CX0 k 63 x mg fa h := by
  refine ⟨fd, [(c, P)], @spP (hdT P q) ⟨K, cls⟩ m, fun p hp => ?_, fun p hp => ?_, fun p hp => ?_, hb, fun H a ns hl _ hH hS => ?_, fun base kb nb tb => F base kb nb (tb _ List.mem_cons_self)⟩
  · rw [List.mem_singleton.mp hp]; exact hT
  · rw [List.mem_singleton.mp hp]; exact hK
  · rw [List.mem_singleton.mp hp]; exact C
  · have hP : H P = some (.tbl #[]) := hH _ List.mem_cons_self
    refine ⟨[], [.lst (ns.map .int)], .bl true, ?_, ?_, g ns hl, fun v H' _ r => by cases r; rfl⟩
    · exact @Dom.mk (hdT P q) [] H (fun _ z => absurd z (by simp)) (fun _ z => absurd z (by simp)) (TabS.nil hP)
    · refine Reps.cons ⟨a, ns.map V.int, rfl, ?_, reps_ints ns⟩ Reps.nil
      refine hS.imp (fun r => ?_) id
      have n : a ≠ P := fun z => by
        rw [z] at r
        rcases r with r | ⟨o, r⟩
        · rw [hP] at r; cases r
        · rw [hP] at r; cases r
      unfold Rd
      rw [fzT n]
      exact r
end Ab
end
section
set_option maxRecDepth 100000
set_option maxHeartbeats 1000000
namespace Ab
open PySem L2 PyProof.Rows PySem.Spec
variable [Hd]
section
variable {e : En} {E : XK} {te : TE}
/-! ### a new list made with side effects: data -/
theorem Rel.less {c : Cn} {L S : List Addr} {σ σ' : L2.St} {H H' : Hp} {α α' : State} {p : Addr} (R : Rel e c L S σ H α) (r : Rel e c (p :: L) S σ' H' α') : Rel e c L S σ' H' α' where
  slot := fun i a q => by
    obtain ⟨v, h1, h2⟩ := r.slot i a q
    have f : Same (fz (p :: L) H') (fz L H') := fz_anti fun a m => List.mem_cons_of_mem _ m
    refine ⟨v, h1, ?_⟩
    cases a with
    | dat d => exact Rep.mono f _ _ h2
    | adr _ => exact h2
    | own ct => obtain ⟨b, o, q, m, n, ho, rc⟩ := h2; exact ⟨b, o, q, m, n, ho, rc.up f⟩
    | inn ct => obtain ⟨b, o, q, m, n, ho, rc⟩ := h2; exact ⟨b, o, q, m, n, ho, rc.up f⟩
  sep := r.sep
  inv := r.inv
  h1 := r.h1
  nh := R.nh
  dom := fun b m => r.dom b (List.mem_cons_of_mem _ m)
  sub := R.sub
  l0 := R.l0
  l1 := R.l1
  s1 := r.s1
  md := r.md
  s0 := r.s0
  d0 := r.d0
  len := r.len
def rL (s : State → Res (List D)) : State → Res D := fun α => match s α with | .ok xs β => .ok (.lst xs) β | .exc x => .exc x | .bad => .bad
theorem ee_lE {s : State → Res (List D)} (h : EvlE e E te s) : Eve e E te (rL s) := fun c L S σ H α R Q k kx nb => by
  unfold rL at k kx nb
  refine h c L S σ H α R _ (fun xs α' hs p vs H' m n r1 hp r2 => ?_) (fun x hx => kx x (by rw [hx])) (fun hb => nb (by rw [hb]))
  rw [hs] at k
  have np := fresh_nL R.dm n
  exact k _ α' rfl _ H' m (R.less r1) ⟨p, vs, rfl, .inl (.inl (fz_new np hp)), r2.up (fz_anti fun a m => List.mem_cons_of_mem _ m)⟩
def rT (s : State → Res (List D)) : State → Res D := fun α => match s α with | .ok xs β => .ok (.tup xs) β | .exc x => .exc x | .bad => .bad
theorem ee_tupE {s : State → Res (List D)} (h : EvlE e E te s) : Eve e E (tCB (fun xs H Q => ∃ p ys, xs = [.ref p] ∧ ((SqL e.K H p ys ∧ ∀ l, H l = none → Q (.ref l) (upd H l (.tup ys))) ∨ (SqT e.K H p ys ∧ Q (.ref p) H))) (tCons te tNil)) (rT s) := fun c L S σ H α R Q k kx nb => by
  unfold rT at k kx nb
  refine h c L S σ H α R _ (fun xs α' hs p vs H' m n r1 hp r2 => ?_) (fun x hx => kx x (by rw [hx])) (fun hb => nb (by rw [hb]))
  rw [hs] at k
  refine ⟨p, vs, rfl, .inl ⟨SqL.of hp, fun l hl => ?_⟩⟩
  have s4 : Sm H' (upd H' l (.tup vs)) := same_upd hl
  have R2 := R.less r1
  exact k _ α' rfl _ _ (m.trans (.of s4)) (R2.up s4) ⟨l, vs, rfl, .inl (.inl (fz_new (fresh_nL R2.dm hl) upd_same)), (r2.up (fz_anti fun a m => List.mem_cons_of_mem _ m)).up (fz_same s4)⟩
def fCatA : D → D → Option D := fun a b => match a, b with
  | .tup xs, .tup ys => if (xs ++ ys).length ≤ 100000 then some (.tup (xs ++ ys)) else none
  | _, _ => none
theorem rv_catA : RvD e (rCatA e.K) fCatA := fun L H dx dy x y d dm rx ry h Q q => by
  unfold fCatA at h
  split at h
  · rename_i xs ys
    split at h
    · rename_i hz
      cases h
      obtain ⟨a, vs, rfl, r1, r2⟩ := rx
      obtain ⟨b, us, rfl, r3, r4⟩ := ry
      rw [List.length_append] at hz
      refine ⟨a, b, vs, us, rfl, rfl, same_t fz_le r1, same_t fz_le r3, by rw [Reps.len r2, Reps.len r4]; exact sz_of hz, fun z => ?_, fun _ z => ?_, fun _ _ p hp => ?_⟩
      · exact q _ H (Sm.refl H) ⟨b, vs ++ us, rfl, by rw [z]; exact r3, Reps.append r2 r4⟩
      · exact q _ H (Sm.refl H) ⟨a, vs ++ us, rfl, by rw [z, List.append_nil]; exact r1, Reps.append r2 r4⟩
      · have s3 : Sm H (upd H p (.tup (vs ++ us))) := same_upd hp
        exact q _ _ s3 ⟨p, vs ++ us, rfl, .inl (.inl (fz_new (fresh_nL dm hp) upd_same)), (Reps.append r2 r4).up (fz_same s3)⟩
    · cases h
  · cases h
end
section
variable {α : State} {s : State → Res (List D)}
@[simp] theorem a_rL : rL s α = (match s α with | .ok xs β => .ok (.lst xs) β | .exc x => .exc x | .bad => .bad) := (rfl)
@[simp] theorem a_rT : rT s α = (match s α with | .ok xs β => .ok (.tup xs) β | .exc x => .exc x | .bad => .bad) := (rfl)
end
end Ab
end
section
set_option maxRecDepth 100000
set_option maxHeartbeats 1000000
namespace Ab
open PySem L2 PyProof.Rows PySem.Spec PySem.SeqAt
variable [Hd]
/-! ### x in l, of data -/
def rInQ (K : PySem.W.Frag) (neg : Bool) : R2 := fun x y H Q => ∃ (p : Addr) (xs : List V) (ds : List PyData) (d : PyData), y = .ref p ∧ (SqL K H p xs ∨ SqT K H p xs) ∧ DpAll K H xs ds ∧ Dp K H x d ∧ d.canLay0 = true ∧ (∀ z ∈ ds, z.canLay0 = true ∧ min z.depth d.depth ≤ 180) ∧
  Q (.bl (neg != ds.any fun z => PyData.eqv z d)) H
/-- does it read as what is alike d? -/
noncomputable def likeD (h : Heap) (d : PyData) (u : Value) : Bool := @decide (∃ (z : PyData) (as : List Addr), Reads h u z as ∧ z.canLay0 = true ∧ PyData.eqv z d = true) (Classical.propDecidable _)
theorem likeD_iff {h : Heap} {d : PyData} {u : Value} : likeD h d u = true ↔ ∃ (z : PyData) (as : List Addr), Reads h u z as ∧ z.canLay0 = true ∧ PyData.eqv z d = true := @decide_eq_true_iff _ (Classical.propDecidable _)
theorem likeD_is {h : Heap} {d z : PyData} {u : Value} {as : List Addr} (r : Reads h u z as) (l : z.canLay0 = true) : likeD h d u = PyData.eqv z d := by
  rw [Bool.eq_iff_iff, likeD_iff]
  refine ⟨fun ⟨z2, as2, r2, l2, e2⟩ => ?_, fun e => ⟨z, as, r, l, e⟩⟩
  rw [(PySem.Reads.unique r z2 as2 r2).1]
  exact e2
theorem likeD_any {h : Heap} {d : PyData} {us : List Value} {ds : List PyData} (r : PySem.W.EachIs (fun u d => ∃ as, Reads h u d as) us ds) (l : ∀ z ∈ ds, z.canLay0 = true) : us.any (likeD h d) = ds.any fun z => PyData.eqv z d := by
  induction r with
  | nil => rfl
  | cons a _ ih =>
    obtain ⟨as, a⟩ := a
    rw [List.any_cons, List.any_cons, likeD_is a (l _ List.mem_cons_self), ih fun z m => l z (List.mem_cons_of_mem _ m)]
theorem likeD_eqAt {A : Around} {s : Shared} {d : PyData} {x : Value} {bs : List Addr} {us : List Value} {ds : List PyData} (r : PySem.W.EachIs (fun u d => ∃ as, Reads s.heap u d as) us ds) (rx : Reads s.heap x d bs) (ld : d.canLay0 = true) (l : ∀ z ∈ ds, z.canLay0 = true ∧ min z.depth d.depth ≤ 180) (hu : A.units + 190 < cLine) :
    ∀ u ∈ us, EqAt A s u x (likeD s.heap d u) := by
  induction r with
  | nil => intro u m; cases m
  | cons a _ ih =>
    intro u m
    rcases List.mem_cons.mp m with e | m
    · subst e
      obtain ⟨as, a⟩ := a
      have lz := l _ List.mem_cons_self
      rw [likeD_is a lz.1]
      exact eqAt_reads _ _ _ _ _ _ _ _ a rx lz.1 ld (by omega)
    · exact ih (fun z mz => l z (List.mem_cons_of_mem _ mz)) u m
theorem in_qD {X : Cx} {K : PySem.W.Frag} (hK : X.K = K) (hu : X.A.units + 200 < cLine) : OpR X (compareOp .In) (rInQ K false) := by
  subst hK
  intro pins s σ H x y v u Q I rx ry ⟨p, xs, ds, d, e1, hq, ra, rd, ld, hl, q⟩
  subst e1
  cases ry
  obtain ⟨bs, rv⟩ := Dp.reads I d x v rd rx
  have hu1 : X.A.in1.units + 190 < cLine := by show X.A.units + 1 + 190 < cLine; omega
  rcases hq with hq | hq
  · obtain ⟨its, r, pl, hz⟩ := I.list hq
    have each := dpEach I ra r
    refine SeqAt.in_listAt (likeD s.heap d) pl.isList (fun w hw => likeD_eqAt each rv ld hl hu1 w (by simpa using hw)) ⟨.bl _, H, I, rfl, ?_⟩
    rw [show its.toArray.any (likeD s.heap d) = its.any (likeD s.heap d) by simp, likeD_any each fun z m => (hl z m).1]
    simpa using q
  · obtain ⟨its, r, pl, hz⟩ := I.tuple hq
    have each := dpEach I ra r
    refine SeqAt.in_tupleAt (likeD s.heap d) pl (fun w hw => likeD_eqAt each rv ld hl hu1 w (by simpa using hw)) ⟨.bl _, H, I, rfl, ?_⟩
    rw [show its.toArray.any (likeD s.heap d) = its.any (likeD s.heap d) by simp, likeD_any each fun z m => (hl z m).1]
    simpa using q
theorem nin_qD {X : Cx} {K : PySem.W.Frag} (hK : X.K = K) (hu : X.A.units + 200 < cLine) : OpR X (compareOp .NotIn) (rInQ K true) := by
  subst hK
  intro pins s σ H x y v u Q I rx ry ⟨p, xs, ds, d, e1, hq, ra, rd, ld, hl, q⟩
  subst e1
  cases ry
  obtain ⟨bs, rv⟩ := Dp.reads I d x v rd rx
  have hu1 : X.A.in1.units + 190 < cLine := by show X.A.units + 1 + 190 < cLine; omega
  rcases hq with hq | hq
  · obtain ⟨its, r, pl, hz⟩ := I.list hq
    have each := dpEach I ra r
    refine SeqAt.notIn_listAt (likeD s.heap d) pl.isList (fun w hw => likeD_eqAt each rv ld hl hu1 w (by simpa using hw)) ⟨.bl _, H, I, rfl, ?_⟩
    rw [show its.toArray.any (likeD s.heap d) = its.any (likeD s.heap d) by simp, likeD_any each fun z m => (hl z m).1]
    simpa using q
  · obtain ⟨its, r, pl, hz⟩ := I.tuple hq
    have each := dpEach I ra r
    refine SeqAt.notIn_tupleAt (likeD s.heap d) pl (fun w hw => likeD_eqAt each rv ld hl hu1 w (by simpa using hw)) ⟨.bl _, H, I, rfl, ?_⟩
    rw [show its.toArray.any (likeD s.heap d) = its.any (likeD s.heap d) by simp, likeD_any each fun z m => (hl z m).1]
    simpa using q
def inOk (a : D) (xs : List D) : Bool := plainD a && xs.all fun x => plainD x && decide (min (depD x) (depD a) ≤ 180)
def memQ (neg : Bool) : D → D → Option D := fun a b => match b with
  | .tup xs => if inOk a xs = true then some (.bl (neg != xs.any fun x => eqv x a)) else none
  | .lst xs => if inOk a xs = true then some (.bl (neg != xs.any fun x => eqv x a)) else none
  | _ => none
theorem pys_any (xs : List D) (a : D) : (pys xs).any (fun z => PyData.eqv z (py a)) = xs.any fun x => eqv x a := by
  rw [show pys xs = xs.map py by induction xs with | nil => rfl | cons x xs ih => show py x :: pys xs = _; rw [ih]; rfl, List.any_map]
  rfl
theorem memQ_all {e : En} {F : Hp} {a : D} {xs : List D} {vs : List V} (h : inOk a xs = true) (r : Reps e F xs vs) : plainD a = true ∧ DpAll e.K F vs (pys xs) ∧ ∀ z ∈ pys xs, z.canLay0 = true ∧ min z.depth (py a).depth ≤ 180 := by
  unfold inOk at h
  rw [Bool.and_eq_true, List.all_eq_true] at h
  have hx : ∀ x ∈ xs, plainD x = true ∧ min (depD x) (depD a) ≤ 180 := fun x m => by
    have := h.2 x m
    rw [Bool.and_eq_true, decide_eq_true_eq] at this
    exact this
  have pl : ∀ l : List D, (∀ x ∈ l, plainD x = true) → plainDs l = true := by
    intro l
    induction l with
    | nil => intro _; rfl
    | cons x l ih => intro hx; show (plainD x && plainDs l) = true; rw [hx x List.mem_cons_self, ih fun y m => hx y (List.mem_cons_of_mem _ m)]; rfl
  refine ⟨h.1, dps_of xs vs (pl xs fun x m => (hx x m).1) r, fun z m => ?_⟩
  have e : pys xs = xs.map py := by
    clear r h hx m
    induction xs with
    | nil => rfl
    | cons x xs ih => show py x :: pys xs = _; rw [ih]; rfl
  rw [e] at m
  obtain ⟨x, mx, rfl⟩ := List.mem_map.mp m
  have h1 := hx x mx
  have h2 := dep_py x
  have h3 := dep_py a
  exact ⟨lay_of x h1.1, by omega⟩
theorem rv_inQ {e : En} {neg : Bool} : RvD e (rInQ e.K neg) (memQ neg) := fun L H dx dy x y d dm rx ry h Q q => by
  have up : ∀ {vs : List V} {ds : List PyData}, DpAll e.K (fz L H) vs ds → DpAll e.K H vs ds := fun {vs ds} r => by
    induction vs generalizing ds with
    | nil => cases r; exact .nil
    | cons v vs ih => cases r with | cons a b => exact .cons (dp_up fz_le a) (ih b)
  unfold memQ at h
  split at h
  · rename_i xs
    split at h
    · rename_i hc
      cases h
      obtain ⟨a, vs, rfl, r1, r2⟩ := ry
      obtain ⟨p1, p2, p3⟩ := memQ_all hc r2
      exact ⟨a, vs, pys xs, py dx, rfl, .inr (same_t fz_le r1), up p2, dp_up fz_le (dp_of dx x p1 rx), lay_of dx p1, p3, by rw [pys_any]; exact q _ H (Sm.refl H) rfl⟩
    · cases h
  · rename_i xs
    split at h
    · rename_i hc
      cases h
      obtain ⟨a, vs, rfl, r1, r2⟩ := ry
      obtain ⟨p1, p2, p3⟩ := memQ_all hc r2
      exact ⟨a, vs, pys xs, py dx, rfl, .inl (fz_le.seq r1), up p2, dp_up fz_le (dp_of dx x p1 rx), lay_of dx p1, p3, by rw [pys_any]; exact q _ H (Sm.refl H) rfl⟩
    · cases h
  · cases h
end Ab
end
section
set_option maxRecDepth 100000
set_option maxHeartbeats 1000000
namespace Ab
open PySem L2 PyProof.Rows PySem.Spec
variable [Hd]
section
variable {e : En} {te : TE} {s : State → Option D}
/-- tuple(x), x a list or a tuple -/
def xTupS (s : State → Option D) : State → Option D := fun α => match s α with | some (.lst xs) => some (.tup xs) | some (.tup xs) => some (.tup xs) | _ => none
theorem ev_tupS (h : Evp e te s) : Evp e (tCB (fun xs H Q => ∃ p ys, xs = [.ref p] ∧ ((SqL e.K H p ys ∧ ∀ l, H l = none → Q (.ref l) (upd H l (.tup ys))) ∨ (SqT e.K H p ys ∧ Q (.ref p) H))) (tCons te tNil)) (xTupS s) := fun c L S σ H α d R q Q k => by
  unfold xTupS at q
  split at q
  · rename_i xs hs
    cases q
    refine h c L S σ H α _ R hs _ fun v H' e1 ⟨a, vs, ea, r1, r2⟩ => ?_
    subst ea
    refine ⟨a, vs, rfl, .inl ⟨fz_le.seq r1, fun l hl => ?_⟩⟩
    have s4 : Sm H' (upd H' l (.tup vs)) := same_upd hl
    exact k _ _ (e1.trans s4) ⟨l, vs, rfl, .inl (.inl (fz_new (fresh_nL (dom_up e1 R.dm) hl) upd_same)), r2.up (fz_same s4)⟩
  · rename_i xs hs
    cases q
    refine h c L S σ H α _ R hs _ fun v H' e1 ⟨a, vs, ea, r1, r2⟩ => ?_
    subst ea
    exact ⟨a, vs, rfl, .inr ⟨same_t fz_le r1, k _ H' e1 ⟨a, vs, rfl, r1, r2⟩⟩⟩
  · cases q
@[simp] theorem a_xTupS {α : State} : xTupS s α = (match s α with | some (.lst xs) => some (.tup xs) | some (.tup xs) => some (.tup xs) | _ => none) := (rfl)
end
end Ab
end
section

end
section

end
section
set_option maxRecDepth 100000
set_option maxHeartbeats 400000
namespace W_k12
open PySem L2 PyProof.Rows PySem.Spec Ab
noncomputable section
def topS (i : Nat) : Stmt := PySem.Challenge.pw_figurebook_k12_whole_alike_by_steps.main.body.getD i (.Pass ⟨0, 0, 0, 0⟩)
def clsM (i j : Nat) : Stmt := match topS i with | .ClassDef (body := b) .. => b.getD j (.Pass ⟨0, 0, 0, 0⟩) | _ => .Pass ⟨0, 0, 0, 0⟩

structure Zs (mg : Str → Option Value) : Prop where
  z_enumerate : mg "enumerate" = none
  z_len : mg "len" = none
  z_list : mg "list" = none
  z_min : mg "min" = none
  z_range : mg "range" = none
  z_reversed : mg "reversed" = none
  z_sorted : mg "sorted" = none
  z_sum : mg "sum" = none
  z_tuple : mg "tuple" = none
abbrev s_parts_of : Stmt := topS 3
abbrev N_parts_of : List Str := ["figure"]
theorem sc_parts_of : FnScope ["figure"] ["figure"] (defScope s_parts_of) := ⟨rfl, rfl, rfl, by decide +kernel, rfl, by decide +kernel, by decide +kernel⟩
def b_parts_of : State → Out :=
      (sSeq (sIf (liftB (asB (x2 fEq (xIx (qT (xVar 0)) (xC (.int 0))) (xC (.str "bead"))))) (sRet (lift (xTup aNil))) sNext)
      (sSeq (sIf (liftB (asB (x2 (memD false) (xIx (qT (xVar 0)) (xC (.int 0))) (xC (.tup [.str "row", .str "bag", .str "choice", .str "ring"]))))) (sRet (lift (xIx (qT (xVar 0)) (xC (.int 1))))) sNext)
      (sRet (lift (xSlA (qT (xVar 0)) (oSome (xC (.int 1))) oNone)))))
def m_parts_of : List D → Option D := runP 1 1 b_parts_of
abbrev s_with_parts : Stmt := topS 4
abbrev N_with_parts : List Str := ["figure", "parts"]
theorem sc_with_parts : FnScope ["figure", "parts"] ["figure", "parts"] (defScope s_with_parts) := ⟨rfl, rfl, rfl, by decide +kernel, rfl, by decide +kernel, by decide +kernel⟩
def b_with_parts : State → Out :=
      (sSeq (sIf (liftB (asB (x2 fEq (xIx (qT (xVar 0)) (xC (.int 0))) (xC (.str "bead"))))) (sRet (lift (xVar 0))) sNext)
      (sSeq (sIf (liftB (asB (x2 (memD false) (xIx (qT (xVar 0)) (xC (.int 0))) (xC (.tup [.str "row", .str "bag", .str "choice", .str "ring"]))))) (sRet (lift (xTup (aCons (xIx (qT (xVar 0)) (xC (.int 0))) (aCons (xTupL (qL (xVar 1))) aNil))))) sNext)
      (sRet (lift (xCatT (qT (xTup (aCons (xIx (qT (xVar 0)) (xC (.int 0))) aNil))) (qT (xTupL (qL (xVar 1)))))))))
def m_with_parts : List D → Option D := runP 2 2 b_with_parts
abbrev s_key_of : Stmt := topS 5
abbrev N_key_of : List Str := ["figure", "keys", "part", "key"]
theorem sc_key_of : FnScope ["figure", "keys", "part", "key"] ["figure"] (defScope s_key_of) := ⟨rfl, rfl, rfl, by decide +kernel, rfl, by decide +kernel, by decide +kernel⟩
def b_key_of (mm_key_of : List D → Option D) : State → Out :=
      (sSeq (sIf (liftB (asB (x2 fEq (xIx (qT (xVar 0)) (xC (.int 0))) (xC (.str "bead"))))) (sRet (lift (xTup (aCons (xC (.int 1)) (aCons (xC (.int 1)) (aCons (xIx (qT (xVar 0)) (xC (.int 1))) aNil)))))) sNext)
      (sSeq (sSet 1 (lift (xL (xLc [2] (qT (xCall m_parts_of (aCons (xVar 0) aNil))) (gN 2) tbYes (xCall mm_key_of (aCons (xVar 2) aNil))))))
      (sRet (lift (xCatT (qT (xTup (aCons (xSum (xLc [3] (qL (xVar 1)) (gN 3) tbYes (xIx (qT (xVar 3)) (xC (.int 0))))) (aCons (xIdx (fun _ => some [.str "nothing", .str "bead", .str "left", .str "right", .str "pair", .str "row", .str "bag", .str "choice", .str "ring"]) (xIx (qT (xVar 0)) (xC (.int 0)))) aNil)))) (qT (xTupL (qL (xVar 1)))))))))
def mF_key_of : Nat → List D → Option D
  | 0 => fun _ => none
  | n + 1 => runP 4 1 (b_key_of (mF_key_of n))
def m_key_of : List D → Option D := mF_key_of 60
abbrev s_first_turn : Stmt := topS 6
abbrev N_first_turn : List Str := ["parts", "keys", "part", "best", "k"]
theorem sc_first_turn : FnScope ["parts", "keys", "part", "best", "k"] ["parts"] (defScope s_first_turn) := ⟨rfl, rfl, rfl, by decide +kernel, rfl, by decide +kernel, by decide +kernel⟩
def bl_first_turn_1 : State → Out :=
      (sIf (liftB (asB (x2 fLtQ (xL (xCat (xSlL (qL (xVar 1)) (oSome (xVar 4)) oNone) (xSlL (qL (xVar 1)) oNone (oSome (xVar 4))))) (xL (xCat (xSlL (qL (xVar 1)) (oSome (xVar 3)) oNone) (xSlL (qL (xVar 1)) oNone (oSome (xVar 3)))))))) (sSet 3 (lift (xVar 4))) sNext)
def b_first_turn : State → Out :=
      (sSeq (sSet 1 (lift (xL (xLc [2] (qL (xVar 0)) (gN 2) tbYes (xCall m_key_of (aCons (xVar 2) aNil))))))
      (sSeq (sSet 3 (lift (xC (.int 0))))
      (sSeq (sFor (xRng2 (aCons (xC (.int 1)) (aCons (xLen (qL (xVar 1))) aNil))) (gN 4)
      bl_first_turn_1)
      (sRet (lift (xVar 3))))))
def m_first_turn : List D → Option D := runP 5 1 b_first_turn
abbrev s_plain : Stmt := topS 7
abbrev N_plain : List Str := ["writing", "parts", "part", "turn"]
theorem sc_plain : FnScope ["writing", "parts", "part", "turn"] ["writing"] (defScope s_plain) := ⟨rfl, rfl, rfl, by decide +kernel, rfl, by decide +kernel, by decide +kernel⟩
def b_plain (mm_plain : List D → Option D) : State → Out :=
      (sSeq (sSet 1 (lift (xL (xLc [2] (qT (xCall m_parts_of (aCons (xVar 0) aNil))) (gN 2) tbYes (xCall mm_plain (aCons (xVar 2) aNil))))))
      (sSeq (sIf (liftB (asB (x2 (memD false) (xIx (qT (xVar 0)) (xC (.int 0))) (xTup (aCons (xC (.str "bag")) (aCons (xC (.str "choice")) aNil)))))) (sSet 1 (lift (xL (xSortKey m_key_of true (qL (xVar 1)))))) sNext)
      (sSeq (sIf (liftB (asB (x2 fEq (xIx (qT (xVar 0)) (xC (.int 0))) (xC (.str "ring"))))) (sSeq (sSet 3 (lift (xCall m_first_turn (aCons (xVar 1) aNil))))
      (sSet 1 (lift (xL (xCat (xSlL (qL (xVar 1)) (oSome (xVar 3)) oNone) (xSlL (qL (xVar 1)) oNone (oSome (xVar 3)))))))) sNext)
      (sRet (lift (xCall m_with_parts (aCons (xVar 0) (aCons (xVar 1) aNil))))))))
def mF_plain : Nat → List D → Option D
  | 0 => fun _ => none
  | n + 1 => runP 4 1 (b_plain (mF_plain n))
def m_plain : List D → Option D := mF_plain 60
abbrev s__law_mix : Stmt := topS 9
abbrev N__law_mix : List Str := ["_law_script", "_law_made", "_law_k", "_law_cell_here"]
theorem sc__law_mix : FnScope ["_law_script", "_law_made", "_law_k", "_law_cell_here"] ["_law_script"] (defScope s__law_mix) := ⟨rfl, rfl, rfl, by decide +kernel, rfl, by decide +kernel, by decide +kernel⟩
def bl__law_mix_1 : State → Out :=
      (sApp 1 (lift (x2 fMod (x2 fMul (x2 fMod (x2 fAdd (x2 fMul (x2 fMod (xVar 3) (x2 fPow (xC (.int 10)) (xC (.int 18)))) (xC (.int 48271))) (x2 fMul (xC (.int 16807)) (xVar 2))) (xC (.int 2147483647))) (xC (.int 69621))) (xC (.int 2147483629)))))
def b__law_mix : State → Out :=
      (sSeq (sIf (liftB (tbAnd (asB (x2 fGt (xLen (qL (xVar 0))) (xC (.int 0)))) (asB (x2 fEq (x2 fMod (xIx (qL (xVar 0)) (xC (.int 0))) (xC (.int 2))) (xC (.int 1)))))) (sRetL (liftL (xCat (fun α => bnd ((aCons (x2 fDiv (xIx (qL (xVar 0)) (xC (.int 0))) (xC (.int 2))) aNil) α) lenOk) (xSlL (qL (xVar 0)) (oSome (xC (.int 1))) oNone)))) sNext)
      (sSeq (sSetL 1 (liftL (fun α => bnd (aNil α) lenOk)))
      (sSeq (sFor (xEnum (xVar 0)) (gT 2 (gsC (gN 2) (gsC (gN 3) gsN)))
      bl__law_mix_1)
      (sRetO 1))))
def m__law_mix : List D → Option (List D) := runL 4 1 b__law_mix
abbrev s__law_cell : Stmt := topS 10
abbrev N__law_cell : List Str := ["_law_script", "_law_k"]
theorem sc__law_cell : FnScope ["_law_script", "_law_k"] ["_law_script", "_law_k"] (defScope s__law_cell) := ⟨rfl, rfl, rfl, by decide +kernel, rfl, by decide +kernel, by decide +kernel⟩
def b__law_cell : State → Out :=
      (sSeq (sIf (liftB (asB (x2 fLt (xVar 1) (xLen (qL (xVar 0)))))) (sRet (lift (xIx (qL (xVar 0)) (xVar 1)))) sNext)
      (sRet (lift (xC (.int 0)))))
def m__law_cell : List D → Option D := runP 2 2 b__law_cell
abbrev s__law_put : Stmt := topS 11
abbrev N__law_put : List Str := ["_law_stack", "_law_cell_here", "_law_kind", "_law_turn", "_law_many", "_law_part", "_law_parts_here", "_law_k"]
theorem sc__law_put : FnScope ["_law_stack", "_law_cell_here", "_law_kind", "_law_turn", "_law_many", "_law_part", "_law_parts_here", "_law_k"] ["_law_stack", "_law_cell_here"] (defScope s__law_put) := ⟨rfl, rfl, rfl, by decide +kernel, rfl, by decide +kernel, by decide +kernel⟩
def b__law_put : State → Out :=
      (sSeq (sSet 2 (lift (x2 fMod (xVar 1) (xC (.int 12)))))
      (sSeq (sSet 3 (lift (x2 fDiv (xVar 1) (xC (.int 12)))))
      (sSeq (sSet 4 (lift (xCall fMin2 (aCons (xLen (qO 0)) (aCons (x2 fAdd (xC (.int 2)) (x2 fMod (xVar 3) (xC (.int 4)))) aNil)))))
      (sIf (liftB (tbAnd (asB (x2 fEq (xVar 2) (xC (.int 11)))) (asB (x2 fGt (xLen (qO 0)) (xC (.int 1)))))) (sSeq (sSet 5 (xPop 0))
      (sApp 0 (rTup (acons (lift (xC (.str "pair"))) (acons (xPop 0) (acons (lift (xVar 5)) anil)))))) (sIf (liftB (tbOr (asB (x2 fLt (xVar 2) (xC (.int 4)))) (tbOr (asB (x2 fEq (xVar 2) (xC (.int 11)))) (asB (x2 fEq (xLen (qO 0)) (xC (.int 0))))))) (sApp 0 (lift (xTup (aCons (xC (.str "bead")) (aCons (xIx (fun α => bnd ((aCons (xC (.str "red")) (aCons (xC (.str "ash")) (aCons (xC (.str "blue")) aNil))) α) lenOk) (x2 fMod (xVar 3) (xC (.int 3)))) aNil))))) (sIf (liftB (asB (x2 fEq (xVar 2) (xC (.int 4))))) (sApp 0 (lift (xTup (aCons (xC (.str "nothing")) aNil)))) (sIf (liftB (asB (x2 fLt (xVar 2) (xC (.int 7))))) (sApp 0 (rTup (acons (lift (xIx (fun α => bnd ((aCons (xC (.str "left")) (aCons (xC (.str "right")) aNil)) α) lenOk) (x2 fSub (xVar 2) (xC (.int 5))))) (acons (xPop 0) anil)))) (sSeq (sSetL 6 (rLc [7] (xRng1 (aCons (xVar 4) aNil)) (gN 7) (xPop 0)))
      (sApp 0 (lift (xTup (aCons (xIx (fun α => bnd ((aCons (xC (.str "row")) (aCons (xC (.str "bag")) (aCons (xC (.str "choice")) (aCons (xC (.str "ring")) aNil)))) α) lenOk) (x2 fSub (xVar 2) (xC (.int 7)))) (aCons (xTupRev (qO 6)) aNil)))))))))))))
def m__law_put : List A → MRes := runM 8 2 b__law_put
abbrev s__law_small : Stmt := topS 12
abbrev N__law_small : List Str := ["_law_cells", "_law_how", "_law_stack", "_law_cell_here"]
theorem sc__law_small : FnScope ["_law_cells", "_law_how", "_law_stack", "_law_cell_here"] ["_law_cells", "_law_how"] (defScope s__law_small) := ⟨rfl, rfl, rfl, by decide +kernel, rfl, by decide +kernel, by decide +kernel⟩
def bl__law_small_1 : State → Out :=
      (sDrop (rCallM (noExcM m__law_put) (aslot 2 (acons (lift (x2 fMod (xVar 3) (x2 fPow (xC (.int 10)) (xC (.int 12))))) anil))))
def b__law_small : State → Out :=
      (sSeq (sSetL 2 (liftL (fun α => bnd (aNil α) lenOk)))
      (sSeq (sFor (qL (xVar 0)) (gN 3)
      bl__law_small_1)
      (sRet (lift (xTup (aCons (xIx (fun α => bnd ((aCons (xC (.str "bag")) (aCons (xC (.str "ring")) (aCons (xC (.str "choice")) (aCons (xC (.str "bag")) (aCons (xC (.str "ring")) (aCons (xC (.str "row")) aNil)))))) α) lenOk) (x2 fMod (xVar 1) (xC (.int 6)))) (aCons (xTupL (qO 2)) aNil)))))))
def m__law_small : List D → Option D := runP 4 2 b__law_small
abbrev s__law_parts : Stmt := topS 13
abbrev N__law_parts : List Str := ["_law_figure"]
theorem sc__law_parts : FnScope ["_law_figure"] ["_law_figure"] (defScope s__law_parts) := ⟨rfl, rfl, rfl, by decide +kernel, rfl, by decide +kernel, by decide +kernel⟩
def b__law_parts : State → Out :=
      (sSeq (sIf (liftB (asB (x2 fEq (xIx (qT (xVar 0)) (xC (.int 0))) (xC (.str "bead"))))) (sRet (lift (xTup aNil))) sNext)
      (sSeq (sIf (liftB (asB (x2 (memD false) (xIx (qT (xVar 0)) (xC (.int 0))) (xTup (aCons (xC (.str "row")) (aCons (xC (.str "bag")) (aCons (xC (.str "choice")) (aCons (xC (.str "ring")) aNil)))))))) (sRet (lift (xIx (qT (xVar 0)) (xC (.int 1))))) sNext)
      (sRet (lift (xSlA (qT (xVar 0)) (oSome (xC (.int 1))) oNone)))))
def m__law_parts : List D → Option D := runP 1 1 b__law_parts
abbrev s__law_with : Stmt := topS 14
abbrev N__law_with : List Str := ["_law_figure", "_law_parts_here"]
theorem sc__law_with : FnScope ["_law_figure", "_law_parts_here"] ["_law_figure", "_law_parts_here"] (defScope s__law_with) := ⟨rfl, rfl, rfl, by decide +kernel, rfl, by decide +kernel, by decide +kernel⟩
def b__law_with : State → Out :=
      (sSeq (sIf (liftB (asB (x2 (memD false) (xIx (qT (xVar 0)) (xC (.int 0))) (xTup (aCons (xC (.str "row")) (aCons (xC (.str "bag")) (aCons (xC (.str "choice")) (aCons (xC (.str "ring")) aNil)))))))) (sRet (lift (xTup (aCons (xIx (qT (xVar 0)) (xC (.int 0))) (aCons (xTupS (xVar 1)) aNil))))) sNext)
      (sRet (lift (xCatT (qT (xTup (aCons (xIx (qT (xVar 0)) (xC (.int 0))) aNil))) (qT (xTupS (xVar 1)))))))
def m__law_with : List D → Option D := runP 2 2 b__law_with
abbrev s__law_stepped : Stmt := topS 15
abbrev N__law_stepped : List Str := ["_law_figure", "_law_parts_here", "_law_found", "_law_k", "_law_part", "_law_other_here"]
theorem sc__law_stepped : FnScope ["_law_figure", "_law_parts_here", "_law_found", "_law_k", "_law_part", "_law_other_here"] ["_law_figure"] (defScope s__law_stepped) := ⟨rfl, rfl, rfl, by decide +kernel, rfl, by decide +kernel, by decide +kernel⟩
def bl__law_stepped_1 (mm__law_stepped : List D → Option D) : State → Out :=
      (sApp 2 (lift (xTup (aCons (xIx (qT (xVar 0)) (xC (.int 0))) (aCons (xCatT (qT (xCatT (qT (xSlA (qT (xVar 1)) oNone (oSome (xVar 3)))) (qT (xTup (aCons (xIx (qT (xVar 1)) (x2 fAdd (xVar 3) (xC (.int 1)))) (aCons (xIx (qT (xVar 1)) (xVar 3)) aNil)))))) (qT (xSlA (qT (xVar 1)) (oSome (x2 fAdd (xVar 3) (xC (.int 2)))) oNone))) aNil)))))
def bl__law_stepped_2 (mm__law_stepped : List D → Option D) : State → Out :=
      (sApp 2 (lift (xTup (aCons (xIx (qT (xVar 0)) (xC (.int 0))) (aCons (xCatT (qT (xSlA (qT (xVar 1)) (oSome (xVar 3)) oNone)) (qT (xSlA (qT (xVar 1)) oNone (oSome (xVar 3))))) aNil)))))
def bl__law_stepped_3 (mm__law_stepped : List D → Option D) : State → Out :=
      (sApp 2 (lift (xCall m__law_with (aCons (xVar 0) (aCons (xCatT (qT (xCatT (qT (xSlA (qT (xVar 1)) oNone (oSome (xVar 3)))) (qT (xTup (aCons (xVar 5) aNil))))) (qT (xSlA (qT (xVar 1)) (oSome (x2 fAdd (xVar 3) (xC (.int 1)))) oNone))) aNil)))))
def bl__law_stepped_4 (mm__law_stepped : List D → Option D) : State → Out :=
      (sFor (qL (xCall mm__law_stepped (aCons (xVar 4) aNil))) (gN 5)
      (bl__law_stepped_3 mm__law_stepped))
def b__law_stepped (mm__law_stepped : List D → Option D) : State → Out :=
      (sSeq (sIf (liftB (asB (x2 fEq (xIx (qT (xVar 0)) (xC (.int 0))) (xC (.str "bead"))))) (sRet (lift (xL (fun α => bnd (aNil α) lenOk)))) sNext)
      (sSeq (sSet 1 (lift (xCall m__law_parts (aCons (xVar 0) aNil))))
      (sSeq (sSetL 2 (liftL (fun α => bnd (aNil α) lenOk)))
      (sSeq (sIf (liftB (asB (x2 (memD false) (xIx (qT (xVar 0)) (xC (.int 0))) (xTup (aCons (xC (.str "bag")) (aCons (xC (.str "choice")) aNil)))))) (sFor (xRng1 (aCons (x2 fSub (xLen (qT (xVar 1))) (xC (.int 1))) aNil)) (gN 3)
      (bl__law_stepped_1 mm__law_stepped)) sNext)
      (sSeq (sIf (liftB (asB (x2 fEq (xIx (qT (xVar 0)) (xC (.int 0))) (xC (.str "ring"))))) (sFor (xRng2 (aCons (xC (.int 1)) (aCons (xLen (qT (xVar 1))) aNil))) (gN 3)
      (bl__law_stepped_2 mm__law_stepped)) sNext)
      (sSeq (sFor (xEnumT (xVar 1)) (gT 2 (gsC (gN 3) (gsC (gN 4) gsN)))
      (bl__law_stepped_4 mm__law_stepped))
      (sFrz 2 (sRet (lift (xVar 2))))))))))
def mF__law_stepped : Nat → List D → Option D
  | 0 => fun _ => none
  | n + 1 => runP 6 1 (b__law_stepped (mF__law_stepped n))
def m__law_stepped : List D → Option D := mF__law_stepped 60
abbrev s__law_reached : Stmt := topS 16
abbrev N__law_reached : List Str := ["_law_figure", "_law_waiting", "_law_seen", "_law_other_here"]
theorem sc__law_reached : FnScope ["_law_figure", "_law_waiting", "_law_seen", "_law_other_here"] ["_law_figure"] (defScope s__law_reached) := ⟨rfl, rfl, rfl, by decide +kernel, rfl, by decide +kernel, by decide +kernel⟩
def bl__law_reached_1 : State → Out :=
      (sIf (liftB (tLend 2 (asB (x2 (memQ true) (xVar 3) (xVar 2))))) (sSeq (sApp 2 (lift (xVar 3)))
      (sApp 1 (lift (xVar 3)))) sNext)
def bl__law_reached_2 : State → Out :=
      (sForE (rCall m__law_stepped (acons (xPop 1) anil)) (gN 3)
      bl__law_reached_1)
def bt__law_reached_3 : State → Res Bool :=
      (liftB (asB (x2 fGt (xLen (qO 1)) (xC (.int 0)))))
def b__law_reached : State → Out :=
      (sSeq (sSetL 1 (liftL (fun α => bnd ((aCons (xVar 0) aNil) α) lenOk)))
      (sSeq (sSetL 2 (liftL (fun α => bnd ((aCons (xVar 0) aNil) α) lenOk)))
      (sSeq (fun α => loopW bt__law_reached_3
      bl__law_reached_2 ((fun _ => 1000) α) α)
      (sRetO 2))))
def m__law_reached : List D → Option (List D) := runL 4 1 b__law_reached
abbrev s__law_other : Stmt := topS 17
abbrev N__law_other : List Str := ["_law_figure", "_law_how", "_law_turn", "_law_parts_here", "_law_k", "_law_part"]
theorem sc__law_other : FnScope ["_law_figure", "_law_how", "_law_turn", "_law_parts_here", "_law_k", "_law_part"] ["_law_figure", "_law_how", "_law_turn"] (defScope s__law_other) := ⟨rfl, rfl, rfl, by decide +kernel, rfl, by decide +kernel, by decide +kernel⟩
def b__law_other (mm__law_other : List D → Option D) : State → Out :=
      (sSeq (sIf (liftB (asB (x2 fEq (xIx (qT (xVar 0)) (xC (.int 0))) (xC (.str "bead"))))) (sSeq (sIf (liftB (asB (x2 fEq (x2 fMod (xVar 1) (xC (.int 3))) (xC (.int 2))))) (sRet (lift (xTup (aCons (xC (.str "bead")) (aCons (xIx (fun α => bnd ((aCons (xC (.str "red")) (aCons (xC (.str "ash")) (aCons (xC (.str "blue")) aNil))) α) lenOk) (x2 fMod (xVar 2) (xC (.int 3)))) aNil))))) sNext)
      (sRet (lift (xVar 0)))) sNext)
      (sSeq (sSet 3 (lift (xL (xLc [4, 5] (xEnumT (xCall m__law_parts (aCons (xVar 0) aNil))) (gT 2 (gsC (gN 4) (gsC (gN 5) gsN))) tbYes (xCall mm__law_other (aCons (xVar 5) (aCons (xVar 1) (aCons (x2 fAdd (x2 fDiv (xVar 2) (xC (.int 2))) (xVar 4)) aNil))))))))
      (sSeq (sIf (liftB (tbAnd (asB (x2 fEq (x2 fMod (xVar 1) (xC (.int 3))) (xC (.int 0)))) (asB (x2 fGt (xLen (qL (xVar 3))) (xC (.int 1)))))) (sSet 3 (lift (xL (xCat (xSlL (qL (xVar 3)) (oSome (xC (.int 1))) oNone) (xSlL (qL (xVar 3)) oNone (oSome (xC (.int 1)))))))) sNext)
      (sSeq (sIf (liftB (asB (x2 fEq (x2 fMod (xVar 1) (xC (.int 3))) (xC (.int 1))))) (sSet 3 (lift (xL (xLstRev (qL (xVar 3)))))) sNext)
      (sRet (lift (xCall m__law_with (aCons (xVar 0) (aCons (xVar 3) aNil)))))))))
def mF__law_other : Nat → List D → Option D
  | 0 => fun _ => none
  | n + 1 => runP 6 3 (b__law_other (mF__law_other n))
def m__law_other : List D → Option D := mF__law_other 60
abbrev s_law : Stmt := topS 18
abbrev N_law : List Str := ["_law_script", "_law_cell_here", "_law_figure", "_law_other_here", "_law_due", "_law_seen", "_law_writing"]
theorem sc_law : FnScope ["_law_script", "_law_cell_here", "_law_figure", "_law_other_here", "_law_due", "_law_seen", "_law_writing"] ["_law_script"] (defScope s_law) := ⟨rfl, rfl, rfl, by decide +kernel, rfl, by decide +kernel, by decide +kernel⟩
def bl_law_1 : State → Out :=
      (sIf (liftB (asB (x2 fNeQ (xCall m_plain (aCons (xVar 6) aNil)) (xVar 4)))) (sRet (lift (xC (.bl false)))) sNext)
def b_law : State → Out :=
      (sSeq (sSet 0 (lift (xL (fun α => bnd ((aCons (xVar 0) aNil) α) m__law_mix))))
      (sSeq (sSet 1 (lift (xCall m__law_cell (aCons (xVar 0) (aCons (xC (.int 0)) aNil)))))
      (sSeq (sSet 2 (lift (xCall m__law_small (aCons (xL (xSlL (qL (xVar 0)) (oSome (xC (.int 2))) (oSome (xC (.int 7))))) (aCons (xVar 1) aNil)))))
      (sSeq (sSet 3 (lift (xCall m__law_other (aCons (xVar 2) (aCons (x2 fDiv (xVar 1) (xC (.int 6))) (aCons (x2 fMod (xCall m__law_cell (aCons (xVar 0) (aCons (xC (.int 1)) aNil))) (x2 fPow (xC (.int 10)) (xC (.int 12)))) aNil))))))
      (sSeq (sSet 4 (lift (xCall m_plain (aCons (xVar 2) aNil))))
      (sSeq (sSet 5 (lift (xL (fun α => bnd ((aCons (xVar 2) aNil) α) m__law_reached))))
      (sSeq (sIf (liftB (asB (x2 (memQ true) (xVar 4) (xVar 5)))) (sRet (lift (xC (.bl false)))) sNext)
      (sSeq (sFor (xSlL (qL (xVar 5)) oNone (oSome (xC (.int 200)))) (gN 6)
      bl_law_1)
      (sRet (lift (x2 fEq (x2 fEqQ (xCall m_plain (aCons (xVar 3) aNil)) (xVar 4)) (x2 (memQ false) (xVar 3) (xVar 5)))))))))))))
def m_law : List D → Option D := runP 7 1 b_law
section
variable {P : Program} {w : World} {K : PySem.W.Frag} {mg : Str → Option Value} {base : Heap} {cls : String → Addr}
theorem ok_parts_of {f : Addr} {fd : FuncData} (F : Fun K "parts_of" "parts_of" s_parts_of f fd) (Z : Zs mg) {a_MANY_PARTS : Addr} (c_MANY_PARTS : mg "MANY_PARTS" = some (.ref a_MANY_PARTS) ∧ (∀ F, Rep ⟨K, cls⟩ F (.tup [.str "row", .str "bag", .str "choice", .str "ring"]) (.ref a_MANY_PARTS)) ∧ ∀ H, tyV K "tuple" (.ref a_MANY_PARTS) H) :
    FnOk P w K mg base CX0 1 f fd ["figure"] (spP ⟨K, cls⟩ m_parts_of) := by
  have nd := sc_parts_of.nd
  refine fn_P b_parts_of F sc_parts_of (n := 1) (kk := 1) rfl rfl (by decide) rfl (fun cdv A outer s0 H E hr => ?_)
  refine ⟨_, (pss_cons (ps_if (pt_cmpR op_eq (pe_ix (ixt (K := K) rfl) (pv 0) pe_int (fun _ _ => rfl)) pe_str (nomark _)) (pss_one (ps_ret (pe_tup pa_nil))) pss_nil)
      (pss_cons (ps_if (pt_cmpR (in_q (K := K) rfl) (pe_ix (ixt (K := K) rfl) (pv 0) pe_int (fun _ _ => rfl)) (pe_glob (v := .ref a_MANY_PARTS) rfl c_MANY_PARTS.1 rfl) (by rfl)) (pss_one (ps_ret (pe_ix (ixt (K := K) rfl) (pv 0) pe_int (fun _ _ => rfl)))) pss_nil)
      (pss_one (ps_ret (pe_slice (sla (K := K) rfl) (pv 0) (po_some pe_int) po_none))))), ?_⟩
  exact (st_seq (st_if (ete_p (et_test (ev_op rv_eq (ev_ixT (eq_t (ev_var 0)) ev_int) ev_str))) (st_ret (ee_p (ev_tup ea_nil))) st_next)
      (st_seq (st_if (ete_p (et_test (ev_op rv_in (ev_ixT (eq_t (ev_var 0)) ev_int) (ev_top c_MANY_PARTS.2.1)))) (st_ret (ee_p (ev_ixT (eq_t (ev_var 0)) ev_int))) st_next)
      (st_ret (ee_p (ev_slA (eq_t (ev_var 0)) (eo_some ev_int) eo_none)))))
theorem ok_with_parts {f : Addr} {fd : FuncData} (F : Fun K "with_parts" "with_parts" s_with_parts f fd) (Z : Zs mg) {a_MANY_PARTS : Addr} (c_MANY_PARTS : mg "MANY_PARTS" = some (.ref a_MANY_PARTS) ∧ (∀ F, Rep ⟨K, cls⟩ F (.tup [.str "row", .str "bag", .str "choice", .str "ring"]) (.ref a_MANY_PARTS)) ∧ ∀ H, tyV K "tuple" (.ref a_MANY_PARTS) H) :
    FnOk P w K mg base CX0 1 f fd ["figure", "parts"] (spP ⟨K, cls⟩ m_with_parts) := by
  have nd := sc_with_parts.nd
  refine fn_P b_with_parts F sc_with_parts (n := 2) (kk := 2) rfl rfl (by decide) rfl (fun cdv A outer s0 H E hr => ?_)
  refine ⟨_, (pss_cons (ps_if (pt_cmpR op_eq (pe_ix (ixt (K := K) rfl) (pv 0) pe_int (fun _ _ => rfl)) pe_str (nomark _)) (pss_one (ps_ret (pv 0))) pss_nil)
      (pss_cons (ps_if (pt_cmpR (in_q (K := K) rfl) (pe_ix (ixt (K := K) rfl) (pv 0) pe_int (fun _ _ => rfl)) (pe_glob (v := .ref a_MANY_PARTS) rfl c_MANY_PARTS.1 rfl) (by rfl)) (pss_one (ps_ret (pe_tup (pa_cons (pe_ix (ixt (K := K) rfl) (pv 0) pe_int (fun _ _ => rfl)) (pa_cons (pe_callTy (tuple_q (K := K) rfl) (by rfl) Z.z_tuple (by decide +kernel) (pa_cons (pv 1) pa_nil)) pa_nil))))) pss_nil)
      (pss_one (ps_ret (pe_op (cat_a (K := K) rfl) (pe_tup (pa_cons (pe_ix (ixt (K := K) rfl) (pv 0) pe_int (fun _ _ => rfl)) pa_nil)) (pe_callTy (tuple_q (K := K) rfl) (by rfl) Z.z_tuple (by decide +kernel) (pa_cons (pv 1) pa_nil))))))), ?_⟩
  exact (st_seq (st_if (ete_p (et_test (ev_op rv_eq (ev_ixT (eq_t (ev_var 0)) ev_int) ev_str))) (st_ret (ee_p (ev_var 0))) st_next)
      (st_seq (st_if (ete_p (et_test (ev_op rv_in (ev_ixT (eq_t (ev_var 0)) ev_int) (ev_top c_MANY_PARTS.2.1)))) (st_ret (ee_p (ev_tup (ea_cons (ev_ixT (eq_t (ev_var 0)) ev_int) (ea_cons (ev_tupL (eq_l (ev_var 1))) ea_nil))))) st_next)
      (st_ret (ee_p (ev_catT (eq_t (ev_tup (ea_cons (ev_ixT (eq_t (ev_var 0)) ev_int) ea_nil))) (eq_t (ev_tupL (eq_l (ev_var 1)))))))))
theorem okF_key_of  {f_key_of : Addr} {fd_key_of : FuncData} (F_key_of : Fun K "key_of" "key_of" s_key_of f_key_of fd_key_of) (bF_key_of : Binds K fd_key_of ["figure"] []) (gF_key_of : mg "key_of" = some (.ref f_key_of)) (Z : Zs mg) {a_KINDS : Addr} (c_KINDS : mg "KINDS" = some (.ref a_KINDS) ∧ (∀ F, Rep ⟨K, cls⟩ F (.tup [.str "nothing", .str "bead", .str "left", .str "right", .str "pair", .str "row", .str "bag", .str "choice", .str "ring"]) (.ref a_KINDS)) ∧ ∀ H, tyV K "tuple" (.ref a_KINDS) H) (C_parts_of : Cal P w K mg base "parts_of" ["figure"] 1 (spP ⟨K, cls⟩ m_parts_of)) : ∀ n : Nat, (Cal P w K mg base "key_of" ["figure"] (1 + n) (spP ⟨K, cls⟩ (mF_key_of n))) := by
  intro n
  induction n with
  | zero => exact Cal.vacuous gF_key_of F_key_of.kp bF_key_of (no_P fun _ => by unfold mF_key_of; rfl)
  | succ n ih =>
    have C_key_of := ih
    have G_key_of : FnOk P w K mg base CX0 (1 + n + 1) f_key_of fd_key_of ["figure"] (spP ⟨K, cls⟩ (mF_key_of (n + 1))) := by
      have nd := sc_key_of.nd
      unfold mF_key_of
      refine fn_P (b_key_of (mF_key_of n)) F_key_of sc_key_of (n := 4) (kk := 1) rfl rfl (by decide) rfl (fun cdv A outer s0 H E hr => ?_)
      refine ⟨_, (pss_cons (ps_if (pt_cmpR op_eq (pe_ix (ixt (K := K) rfl) (pv 0) pe_int (fun _ _ => rfl)) pe_str (nomark _)) (pss_one (ps_ret (pe_tup (pa_cons pe_int (pa_cons pe_int (pa_cons (pe_ix (ixt (K := K) rfl) (pv 0) pe_int (fun _ _ => rfl)) pa_nil)))))) pss_nil)
      (pss_cons (ps_setLc (i := 1) (own := [("part", 2)]) rfl nd rfl rfl (sw_true rfl rfl rfl (by decide +kernel)) (pit (K := K) rfl (pe_cal C_parts_of hr (by first | omega | exact Nat.le_refl _ | exact Nat.le_trans (by decide) (Nat.le_add_right _ _)) rfl (pa_cons (pv 0) pa_nil))) (blkOk_by (N := N_key_of) (sc := defScope s_key_of) (by decide +kernel)) (fun _ _ _ _ _ => (pg_name (i := 2) nd rfl (Or.inl rfl))) (fun _ _ _ _ _ => pts_nil) (fun _ _ _ _ _ => (pe_cal C_key_of hr (by first | omega | exact Nat.le_refl _ | exact Nat.le_trans (by decide) (Nat.le_add_right _ _)) rfl (pa_cons (pv 2) pa_nil))))
      (pss_one (ps_ret (pe_op (cat_a (K := K) rfl) (pe_tup (pa_cons (pe_callB (sum_q (K := K) rfl rfl) (by rfl) Z.z_sum PyProof.Rows.boot_sum (pa_cons (pe_lc (own := [("key", 3)]) rfl nd (pil (K := K) rfl (pv 1)) (blkOk_by (N := N_key_of) (sc := defScope s_key_of) (by decide +kernel)) (fun _ _ _ _ _ => (pg_name (i := 3) nd rfl (Or.inl rfl))) (fun _ _ _ _ _ => pts_nil) (fun _ _ _ _ _ => (pe_ix (ixt (K := K) rfl) (pv 3) pe_int (fun _ _ => rfl)))) pa_nil)) (pa_cons (pe_bm PySem.F.plainAttrs_tuple PySem.F.slot_tuple_index PySem.F.type_tuple_index (mt_idxT (K := K) rfl) (pe_glob (v := .ref a_KINDS) rfl c_KINDS.1 rfl) (pa_cons (pe_ix (ixt (K := K) rfl) (pv 0) pe_int (fun _ _ => rfl)) pa_nil)) pa_nil))) (pe_callTy (tuple_q (K := K) rfl) (by rfl) Z.z_tuple (by decide +kernel) (pa_cons (pv 1) pa_nil))))))), ?_⟩
      exact (st_seq (st_if (ete_p (et_test (ev_op rv_eq (ev_ixT (eq_t (ev_var 0)) ev_int) ev_str))) (st_ret (ee_p (ev_tup (ea_cons ev_int (ea_cons ev_int (ea_cons (ev_ixT (eq_t (ev_var 0)) ev_int) ea_nil)))))) st_next)
      (st_seq (st_set (i := 1) (ee_p (el_d (el_lc (vs := [2]) (ei_tup (ev_call (ea_cons (ev_var 0) ea_nil)) rfl) (eg_name 2) (by decide) et_yes (ev_call (ea_cons (ev_var 2) ea_nil))))))
      (st_ret (ee_p (ev_catT (eq_t (ev_tup (ea_cons (ev_sum (eq_n (el_lc (vs := [3]) (ei_list (ev_var 1) rfl) (eg_name 3) (by decide) et_yes (ev_ixT (eq_t (ev_var 3)) ev_int)))) (ea_cons (ev_idxT c_KINDS.2.1 c_KINDS.2.2 (ev_ixT (eq_t (ev_var 0)) ev_int)) ea_nil)))) (eq_t (ev_tupL (eq_l (ev_var 1)))))))))
    exact ⟨f_key_of, fd_key_of, G_key_of, gF_key_of, F_key_of.kp, bF_key_of⟩
theorem ok_first_turn {f : Addr} {fd : FuncData} (F : Fun K "first_turn" "first_turn" s_first_turn f fd) (Z : Zs mg) (C_key_of : Cal P w K mg base "key_of" ["figure"] 61 (spP ⟨K, cls⟩ m_key_of)) :
    FnOk P w K mg base CX0 62 f fd ["parts"] (spP ⟨K, cls⟩ m_first_turn) := by
  have nd := sc_first_turn.nd
  refine fn_P b_first_turn F sc_first_turn (n := 5) (kk := 1) rfl rfl (by decide) rfl (fun cdv A outer s0 H E hr => ?_)
  refine ⟨_, (pss_cons (ps_setLc (i := 1) (own := [("part", 2)]) rfl nd rfl rfl (sw_true rfl rfl rfl (by decide +kernel)) (pil (K := K) rfl (pv 0)) (blkOk_by (N := N_first_turn) (sc := defScope s_first_turn) (by decide +kernel)) (fun _ _ _ _ _ => (pg_name (i := 2) nd rfl (Or.inl rfl))) (fun _ _ _ _ _ => pts_nil) (fun _ _ _ _ _ => (pe_cal C_key_of hr (by first | omega | exact Nat.le_refl _ | exact Nat.le_trans (by decide) (Nat.le_add_right _ _)) rfl (pa_cons (pv 2) pa_nil))))
      (pss_cons (ps_set (i := 3) nd rfl (by first | exact Or.inl rfl | exact Or.inr rfl) pe_int)
      (pss_cons (ps_for PassesOwn.never rfl (pi_range2 (by rfl) Z.z_range (pa_cons pe_int (pa_cons (pe_callB (len_q (K := K) rfl) (by rfl) Z.z_len PySem.boot_len (pa_cons (pv 1) pa_nil)) pa_nil))) (pg_name (i := 4) nd rfl (by first | exact Or.inl rfl | exact Or.inr rfl))
      (pss_one (ps_if (pt_cmpR (lt_q (K := K) rfl (units_of hr)) (pe_op (cat_q (K := K) rfl) (pe_slice (sll (K := K) rfl) (pv 1) (po_some (pv 4)) po_none) (pe_slice (sll (K := K) rfl) (pv 1) po_none (po_some (pv 4)))) (pe_op (cat_q (K := K) rfl) (pe_slice (sll (K := K) rfl) (pv 1) (po_some (pv 3)) po_none) (pe_slice (sll (K := K) rfl) (pv 1) po_none (po_some (pv 3)))) (nomark _)) (pss_one (ps_set (i := 3) nd rfl (by first | exact Or.inl rfl | exact Or.inr rfl) (pv 4))) pss_nil)))
      (pss_one (ps_ret (pv 3)))))), ?_⟩
  exact (st_seq (st_set (i := 1) (ee_p (el_d (el_lc (vs := [2]) (ei_list (ev_var 0) rfl) (eg_name 2) (by decide) et_yes (ev_call (ea_cons (ev_var 2) ea_nil))))))
      (st_seq (st_set (i := 3) (ee_p ev_int))
      (st_seq (st_for (ei_rng2 (ea_cons ev_int (ea_cons (ev_lenL (eq_l (ev_var 1))) ea_nil))) (eg_name 4)
      (st_if (ete_p (et_test (ev_op rv_ltQ (el_d (el_cat (eq_n (el_slL (eq_l (ev_var 1)) (eo_some (ev_var 4)) eo_none)) (eq_n (el_slL (eq_l (ev_var 1)) eo_none (eo_some (ev_var 4)))))) (el_d (el_cat (eq_n (el_slL (eq_l (ev_var 1)) (eo_some (ev_var 3)) eo_none)) (eq_n (el_slL (eq_l (ev_var 1)) eo_none (eo_some (ev_var 3))))))))) (st_set (i := 3) (ee_p (ev_var 4))) st_next))
      (st_ret (ee_p (ev_var 3))))))
theorem okF_plain  {f_plain : Addr} {fd_plain : FuncData} (F_plain : Fun K "plain" "plain" s_plain f_plain fd_plain) (bF_plain : Binds K fd_plain ["writing"] []) (gF_plain : mg "plain" = some (.ref f_plain)) (Z : Zs mg) (C_first_turn : Cal P w K mg base "first_turn" ["parts"] 62 (spP ⟨K, cls⟩ m_first_turn)) (C_key_of : Cal P w K mg base "key_of" ["figure"] 61 (spP ⟨K, cls⟩ m_key_of)) (C_parts_of : Cal P w K mg base "parts_of" ["figure"] 1 (spP ⟨K, cls⟩ m_parts_of)) (C_with_parts : Cal P w K mg base "with_parts" ["figure", "parts"] 1 (spP ⟨K, cls⟩ m_with_parts)) : ∀ n : Nat, (Cal P w K mg base "plain" ["writing"] (63 + n) (spP ⟨K, cls⟩ (mF_plain n))) := by
  intro n
  induction n with
  | zero => exact Cal.vacuous gF_plain F_plain.kp bF_plain (no_P fun _ => by unfold mF_plain; rfl)
  | succ n ih =>
    have C_plain := ih
    have G_plain : FnOk P w K mg base CX0 (63 + n + 1) f_plain fd_plain ["writing"] (spP ⟨K, cls⟩ (mF_plain (n + 1))) := by
      have nd := sc_plain.nd
      unfold mF_plain
      obtain ⟨kf_key_of, kd_key_of, kG_key_of, kM_key_of, kk_key_of, kB_key_of⟩ := C_key_of.ex
      refine fn_P (b_plain (mF_plain n)) F_plain sc_plain (n := 4) (kk := 1) rfl rfl (by decide) rfl (fun cdv A outer s0 H E hr => ?_)
      refine ⟨_, (pss_cons (ps_setLc (i := 1) (own := [("part", 2)]) rfl nd rfl rfl (sw_true rfl rfl rfl (by decide +kernel)) (pit (K := K) rfl (pe_cal C_parts_of hr (by first | omega | exact Nat.le_refl _ | exact Nat.le_trans (by decide) (Nat.le_add_right _ _)) rfl (pa_cons (pv 0) pa_nil))) (blkOk_by (N := N_plain) (sc := defScope s_plain) (by decide +kernel)) (fun _ _ _ _ _ => (pg_name (i := 2) nd rfl (Or.inl rfl))) (fun _ _ _ _ _ => pts_nil) (fun _ _ _ _ _ => (pe_cal C_plain hr (by first | omega | exact Nat.le_refl _ | exact Nat.le_trans (by decide) (Nat.le_add_right _ _)) rfl (pa_cons (pv 2) pa_nil))))
      (pss_cons (ps_if (pt_cmpR (in_q (K := K) rfl) (pe_ix (ixt (K := K) rfl) (pv 0) pe_int (fun _ _ => rfl)) (pe_tup (pa_cons pe_str (pa_cons pe_str pa_nil))) (by rfl)) (pss_one (ps_set (i := 1) nd rfl (by first | exact Or.inl rfl | exact Or.inr rfl) (pe_callBK (sort_q (K := K) (b := true) rfl kG_key_of hr (by first | omega | exact Nat.le_refl _ | exact Nat.le_trans (by decide) (Nat.le_add_right _ _)) kB_key_of) (by rfl) Z.z_sorted (by decide +kernel) (pa_cons (pv 1) pa_nil) (pk_cons (pe_glob (v := .ref kf_key_of) (by rfl) kM_key_of rfl) (pk_cons pe_bl pk_nil))))) pss_nil)
      (pss_cons (ps_if (pt_cmpR op_eq (pe_ix (ixt (K := K) rfl) (pv 0) pe_int (fun _ _ => rfl)) pe_str (nomark _)) (pss_cons (ps_set (i := 3) nd rfl (by first | exact Or.inl rfl | exact Or.inr rfl) (pe_cal C_first_turn hr (by first | omega | exact Nat.le_refl _ | exact Nat.le_trans (by decide) (Nat.le_add_right _ _)) rfl (pa_cons (pv 1) pa_nil)))
      (pss_one (ps_set (i := 1) nd rfl (by first | exact Or.inl rfl | exact Or.inr rfl) (pe_op (cat_q (K := K) rfl) (pe_slice (sll (K := K) rfl) (pv 1) (po_some (pv 3)) po_none) (pe_slice (sll (K := K) rfl) (pv 1) po_none (po_some (pv 3))))))) pss_nil)
      (pss_one (ps_ret (pe_cal C_with_parts hr (by first | omega | exact Nat.le_refl _ | exact Nat.le_trans (by decide) (Nat.le_add_right _ _)) rfl (pa_cons (pv 0) (pa_cons (pv 1) pa_nil)))))))), ?_⟩
      exact (st_seq (st_set (i := 1) (ee_p (el_d (el_lc (vs := [2]) (ei_tup (ev_call (ea_cons (ev_var 0) ea_nil)) rfl) (eg_name 2) (by decide) et_yes (ev_call (ea_cons (ev_var 2) ea_nil))))))
      (st_seq (st_if (ete_p (et_test (ev_op rv_in (ev_ixT (eq_t (ev_var 0)) ev_int) (ev_tup (ea_cons ev_str (ea_cons ev_str ea_nil)))))) (st_set (i := 1) (ee_p (el_d (el_sortKey (b := true) (eq_l (ev_var 1)))))) st_next)
      (st_seq (st_if (ete_p (et_test (ev_op rv_eq (ev_ixT (eq_t (ev_var 0)) ev_int) ev_str))) (st_seq (st_set (i := 3) (ee_p (ev_call (ea_cons (ev_var 1) ea_nil))))
      (st_set (i := 1) (ee_p (el_d (el_cat (eq_n (el_slL (eq_l (ev_var 1)) (eo_some (ev_var 3)) eo_none)) (eq_n (el_slL (eq_l (ev_var 1)) eo_none (eo_some (ev_var 3))))))))) st_next)
      (st_ret (ee_p (ev_call (ea_cons (ev_var 0) (ea_cons (ev_var 1) ea_nil))))))))
    exact ⟨f_plain, fd_plain, G_plain, gF_plain, F_plain.kp, bF_plain⟩
theorem ok__law_mix {f : Addr} {fd : FuncData} (F : Fun K "_law_mix" "_law_mix" s__law_mix f fd) (Z : Zs mg) :
    FnOk P w K mg base CX0 1 f fd ["_law_script"] (spL ⟨K, cls⟩ m__law_mix) := by
  have nd := sc__law_mix.nd
  refine fn_L b__law_mix F sc__law_mix (n := 4) (kk := 1) rfl rfl (by decide) rfl (fun cdv A outer s0 H E hr => ?_)
  refine ⟨_, (pss_cons (ps_if (PW.pt (pw_and (pt_cmpR op_gt (pe_callB (len_q (K := K) rfl) (by rfl) Z.z_len PySem.boot_len (pa_cons (pv 0) pa_nil)) pe_int (nomark _)) (pw_and1 (pt_cmpR op_eq (pe_op op_mod (pe_ix (ixl (K := K) rfl) (pv 0) pe_int (fun _ _ => rfl)) pe_int) pe_int (nomark _))))) (pss_one (ps_ret (pe_op (cat_q (K := K) rfl) (pe_lst (pa_cons (pe_op op_fdiv (pe_ix (ixl (K := K) rfl) (pv 0) pe_int (fun _ _ => rfl)) pe_int) pa_nil)) (pe_callTy (list_q (K := K) rfl) (by rfl) Z.z_list (by decide +kernel) (pa_cons (pe_slice (sll (K := K) rfl) (pv 0) (po_some pe_int) po_none) pa_nil))))) pss_nil)
      (pss_cons (ps_set (i := 1) nd rfl (by first | exact Or.inl rfl | exact Or.inr rfl) (pe_lst pa_nil))
      (pss_cons (ps_for PassesOwn.never rfl (pienum (K := K) rfl (by rfl) Z.z_enumerate (pa_cons (pv 0) pa_nil)) (pg_tup (by rfl) (pgs_cons (pg_name (i := 2) nd rfl (by first | exact Or.inl rfl | exact Or.inr rfl)) (pgs_cons (pg_name (i := 3) nd rfl (by first | exact Or.inl rfl | exact Or.inr rfl)) pgs_nil)))
      (pss_one (ps_expr (pe_bm PySem.F.plainAttrs_list PySem.F.slot_list_append PySem.F.type_list_append mt_append (pv 1) (pa_cons (pe_op op_mod (pe_op op_mul (pe_op op_mod (pe_op op_add (pe_op op_mul (pe_op op_mod (pv 3) (pe_op op_pow pe_int pe_int)) pe_int) (pe_op op_mul pe_int (pv 2))) pe_int) pe_int) pe_int) pa_nil)))))
      (pss_one (ps_ret (pv 1)))))), ?_⟩
  exact (st_seq (st_if (ete_p (et_and (et_test (ev_op rv_gt (ev_lenL (eq_l (ev_var 0))) ev_int)) (et_test (ev_op rv_eq (ev_op rv_mod (ev_ixL (eq_l (ev_var 0)) ev_int) ev_int) ev_int)))) (st_retL (ele_p (el_cat (eq_n (el_lst (ea_cons (ev_op rv_div (ev_ixL (eq_l (ev_var 0)) ev_int) ev_int) ea_nil))) (eq_n (el_listL (eq_n (el_slL (eq_l (ev_var 0)) (eo_some ev_int) eo_none))))))) st_next)
      (st_seq (st_setL (i := 1) (ele_p (el_lst ea_nil)))
      (st_seq (st_for (ei_enum (ev_var 0)) (eg_tup (egs_cons (eg_name 2) (egs_cons (eg_name 3) egs_nil)))
      (st_app (i := 1) (ee_p (ev_op rv_mod (ev_op rv_mul (ev_op rv_mod (ev_op rv_add (ev_op rv_mul (ev_op rv_mod (ev_var 3) (ev_op rv_pow ev_int ev_int)) ev_int) (ev_op rv_mul ev_int (ev_var 2))) ev_int) ev_int) ev_int))))
      (st_retO 1))))
theorem ok__law_cell {f : Addr} {fd : FuncData} (F : Fun K "_law_cell" "_law_cell" s__law_cell f fd) (Z : Zs mg) :
    FnOk P w K mg base CX0 1 f fd ["_law_script", "_law_k"] (spP ⟨K, cls⟩ m__law_cell) := by
  have nd := sc__law_cell.nd
  refine fn_P b__law_cell F sc__law_cell (n := 2) (kk := 2) rfl rfl (by decide) rfl (fun cdv A outer s0 H E hr => ?_)
  refine ⟨_, (pss_cons (ps_if (pt_cmpR op_lt (pv 1) (pe_callB (len_q (K := K) rfl) (by rfl) Z.z_len PySem.boot_len (pa_cons (pv 0) pa_nil)) (nomark _)) (pss_one (ps_ret (pe_ix (ixl (K := K) rfl) (pv 0) (pv 1) (fun _ _ => rfl)))) pss_nil)
      (pss_one (ps_ret pe_int))), ?_⟩
  exact (st_seq (st_if (ete_p (et_test (ev_op rv_lt (ev_var 1) (ev_lenL (eq_l (ev_var 0)))))) (st_ret (ee_p (ev_ixL (eq_l (ev_var 0)) (ev_var 1)))) st_next)
      (st_ret (ee_p ev_int)))
theorem ok__law_put {f : Addr} {fd : FuncData} (F : Fun K "_law_put" "_law_put" s__law_put f fd) (Z : Zs mg) :
    FnOk P w K mg base CX0 1 f fd ["_law_stack", "_law_cell_here"] (spM ⟨K, cls⟩ m__law_put) := by
  have nd := sc__law_put.nd
  refine fn_M b__law_put F sc__law_put (n := 8) (kk := 2) rfl rfl (by decide) rfl (fun cdv A outer s0 H E hr => ?_)
  refine ⟨_, (pss_cons (ps_set (i := 2) nd rfl (by first | exact Or.inl rfl | exact Or.inr rfl) (pe_op op_mod (pv 1) pe_int))
      (pss_cons (ps_set (i := 3) nd rfl (by first | exact Or.inl rfl | exact Or.inr rfl) (pe_op op_fdiv (pv 1) pe_int))
      (pss_cons (ps_set (i := 4) nd rfl (by first | exact Or.inl rfl | exact Or.inr rfl) (pe_callB (call_min2 rfl) (by rfl) Z.z_min PyProof.Rows.boot_min (pa_cons (pe_callB (len_q (K := K) rfl) (by rfl) Z.z_len PySem.boot_len (pa_cons (pv 0) pa_nil)) (pa_cons (pe_op op_add pe_int (pe_op op_mod (pv 3) pe_int)) pa_nil))))
      (pss_one (ps_if (PW.pt (pw_and (pt_cmpR op_eq (pv 2) pe_int (nomark _)) (pw_and1 (pt_cmpR op_gt (pe_callB (len_q (K := K) rfl) (by rfl) Z.z_len PySem.boot_len (pa_cons (pv 0) pa_nil)) pe_int (nomark _))))) (pss_cons (ps_set (i := 5) nd rfl (by first | exact Or.inl rfl | exact Or.inr rfl) (pe_pop (K := K) rfl (pv 0)))
      (pss_one (ps_expr (pe_bm PySem.F.plainAttrs_list PySem.F.slot_list_append PySem.F.type_list_append mt_append (pv 0) (pa_cons (pe_tup (pa_cons pe_str (pa_cons (pe_pop (K := K) rfl (pv 0)) (pa_cons (pv 5) pa_nil)))) pa_nil))))) (pss_one (ps_if (PW.pt (pw_or (pt_cmpR op_lt (pv 2) pe_int (nomark _)) (pw_or (pt_cmpR op_eq (pv 2) pe_int (nomark _)) (pw_or1 (pt_cmpR op_eq (pe_callB (len_q (K := K) rfl) (by rfl) Z.z_len PySem.boot_len (pa_cons (pv 0) pa_nil)) pe_int (nomark _)))))) (pss_one (ps_expr (pe_bm PySem.F.plainAttrs_list PySem.F.slot_list_append PySem.F.type_list_append mt_append (pv 0) (pa_cons (pe_tup (pa_cons pe_str (pa_cons (pe_ix (ixl (K := K) rfl) (pe_lst (pa_cons pe_str (pa_cons pe_str (pa_cons pe_str pa_nil)))) (pe_op op_mod (pv 3) pe_int) (fun _ _ => rfl)) pa_nil))) pa_nil)))) (pss_one (ps_if (pt_cmpR op_eq (pv 2) pe_int (nomark _)) (pss_one (ps_expr (pe_bm PySem.F.plainAttrs_list PySem.F.slot_list_append PySem.F.type_list_append mt_append (pv 0) (pa_cons (pe_tup (pa_cons pe_str pa_nil)) pa_nil)))) (pss_one (ps_if (pt_cmpR op_lt (pv 2) pe_int (nomark _)) (pss_one (ps_expr (pe_bm PySem.F.plainAttrs_list PySem.F.slot_list_append PySem.F.type_list_append mt_append (pv 0) (pa_cons (pe_tup (pa_cons (pe_ix (ixl (K := K) rfl) (pe_lst (pa_cons pe_str (pa_cons pe_str pa_nil))) (pe_op op_sub (pv 2) pe_int) (fun _ _ => rfl)) (pa_cons (pe_pop (K := K) rfl (pv 0)) pa_nil))) pa_nil)))) (pss_cons (ps_setLc (i := 6) (own := [("_law_k", 7)]) rfl nd rfl rfl (sw_true rfl rfl rfl (by decide +kernel)) (pi_range1 (by rfl) Z.z_range (pa_cons (pv 4) pa_nil)) (blkOk_by (N := N__law_put) (sc := defScope s__law_put) (by decide +kernel)) (fun _ _ _ _ _ => (pg_name (i := 7) nd rfl (Or.inl rfl))) (fun _ _ _ _ _ => pts_nil) (fun _ _ _ _ _ => (pe_pop (K := K) rfl (pv 0))))
      (pss_one (ps_expr (pe_bm PySem.F.plainAttrs_list PySem.F.slot_list_append PySem.F.type_list_append mt_append (pv 0) (pa_cons (pe_tup (pa_cons (pe_ix (ixl (K := K) rfl) (pe_lst (pa_cons pe_str (pa_cons pe_str (pa_cons pe_str (pa_cons pe_str pa_nil))))) (pe_op op_sub (pv 2) pe_int) (fun _ _ => rfl)) (pa_cons (RT.pe_tupRev rfl rfl Z.z_tuple rfl Z.z_reversed (pv 6)) pa_nil))) pa_nil)))))))))))))))), ?_⟩
  exact (st_seq (st_set (i := 2) (ee_p (ev_op rv_mod (ev_var 1) ev_int)))
      (st_seq (st_set (i := 3) (ee_p (ev_op rv_div (ev_var 1) ev_int)))
      (st_seq (st_set (i := 4) (ee_p (ev_callB rc_min2 (ea_cons (ev_lenL (eq_o 0)) (ea_cons (ev_op rv_add ev_int (ev_op rv_mod (ev_var 3) ev_int)) ea_nil)))))
      (st_if (ete_p (et_and (et_test (ev_op rv_eq (ev_var 2) ev_int)) (et_test (ev_op rv_gt (ev_lenL (eq_o 0)) ev_int)))) (st_seq (st_set (i := 5) (ee_pop 0))
      (st_app (i := 0) (ee_tup (eae_cons (ee_p ev_str) (eae_cons (ee_pop 0) (eae_cons (ee_p (ev_var 5)) eae_nil)))))) (st_if (ete_p (et_or (et_test (ev_op rv_lt (ev_var 2) ev_int)) (et_or (et_test (ev_op rv_eq (ev_var 2) ev_int)) (et_test (ev_op rv_eq (ev_lenL (eq_o 0)) ev_int))))) (st_app (i := 0) (ee_p (ev_tup (ea_cons ev_str (ea_cons (ev_ixL (eq_n (el_lst (ea_cons ev_str (ea_cons ev_str (ea_cons ev_str ea_nil))))) (ev_op rv_mod (ev_var 3) ev_int)) ea_nil))))) (st_if (ete_p (et_test (ev_op rv_eq (ev_var 2) ev_int))) (st_app (i := 0) (ee_p (ev_tup (ea_cons ev_str ea_nil)))) (st_if (ete_p (et_test (ev_op rv_lt (ev_var 2) ev_int))) (st_app (i := 0) (ee_tup (eae_cons (ee_p (ev_ixL (eq_n (el_lst (ea_cons ev_str (ea_cons ev_str ea_nil)))) (ev_op rv_sub (ev_var 2) ev_int))) (eae_cons (ee_pop 0) eae_nil)))) (st_seq (st_setL (i := 6) (ele_lc (vs := [7]) (ei_rng1 (ea_cons (ev_var 4) ea_nil)) (eg_name 7) (by decide) (ee_pop 0)))
      (st_app (i := 0) (ee_p (ev_tup (ea_cons (ev_ixL (eq_n (el_lst (ea_cons ev_str (ea_cons ev_str (ea_cons ev_str (ea_cons ev_str ea_nil)))))) (ev_op rv_sub (ev_var 2) ev_int)) (ea_cons (ev_tupRev (eq_o 6)) ea_nil)))))))))))))
theorem ok__law_small {f : Addr} {fd : FuncData} (F : Fun K "_law_small" "_law_small" s__law_small f fd) (Z : Zs mg) (C__law_put : Cal P w K mg base "_law_put" ["_law_stack", "_law_cell_here"] 1 (spM ⟨K, cls⟩ m__law_put)) :
    FnOk P w K mg base CX0 2 f fd ["_law_cells", "_law_how"] (spP ⟨K, cls⟩ m__law_small) := by
  have nd := sc__law_small.nd
  refine fn_P b__law_small F sc__law_small (n := 4) (kk := 2) rfl rfl (by decide) rfl (fun cdv A outer s0 H E hr => ?_)
  refine ⟨_, (pss_cons (ps_set (i := 2) nd rfl (by first | exact Or.inl rfl | exact Or.inr rfl) (pe_lst pa_nil))
      (pss_cons (ps_for PassesOwn.never rfl (pil (K := K) rfl (pv 0)) (pg_name (i := 3) nd rfl (by first | exact Or.inl rfl | exact Or.inr rfl))
      (pss_one (ps_expr (pe_cal C__law_put hr (by first | omega | exact Nat.le_refl _ | exact Nat.le_trans (by decide) (Nat.le_add_right _ _)) rfl (pa_cons (pv 2) (pa_cons (pe_op op_mod (pv 3) (pe_op op_pow pe_int pe_int)) pa_nil))))))
      (pss_one (ps_ret (pe_tup (pa_cons (pe_ix (ixl (K := K) rfl) (pe_lst (pa_cons pe_str (pa_cons pe_str (pa_cons pe_str (pa_cons pe_str (pa_cons pe_str (pa_cons pe_str pa_nil))))))) (pe_op op_mod (pv 1) pe_int) (fun _ _ => rfl)) (pa_cons (pe_callTy (tuple_q (K := K) rfl) (by rfl) Z.z_tuple (by decide +kernel) (pa_cons (pv 2) pa_nil)) pa_nil))))))), ?_⟩
  exact (st_seq (st_setL (i := 2) (ele_p (el_lst ea_nil)))
      (st_seq (st_for (ei_list (ev_var 0) rfl) (eg_name 3)
      (st_drop (ee_callM0 (eae_slot 2 (eae_cons (ee_p (ev_op rv_mod (ev_var 3) (ev_op rv_pow ev_int ev_int))) eae_nil)))))
      (st_ret (ee_p (ev_tup (ea_cons (ev_ixL (eq_n (el_lst (ea_cons ev_str (ea_cons ev_str (ea_cons ev_str (ea_cons ev_str (ea_cons ev_str (ea_cons ev_str ea_nil)))))))) (ev_op rv_mod (ev_var 1) ev_int)) (ea_cons (ev_tupL (eq_o 2)) ea_nil)))))))
theorem ok__law_parts {f : Addr} {fd : FuncData} (F : Fun K "_law_parts" "_law_parts" s__law_parts f fd) (Z : Zs mg) :
    FnOk P w K mg base CX0 1 f fd ["_law_figure"] (spP ⟨K, cls⟩ m__law_parts) := by
  have nd := sc__law_parts.nd
  refine fn_P b__law_parts F sc__law_parts (n := 1) (kk := 1) rfl rfl (by decide) rfl (fun cdv A outer s0 H E hr => ?_)
  refine ⟨_, (pss_cons (ps_if (pt_cmpR op_eq (pe_ix (ixt (K := K) rfl) (pv 0) pe_int (fun _ _ => rfl)) pe_str (nomark _)) (pss_one (ps_ret (pe_tup pa_nil))) pss_nil)
      (pss_cons (ps_if (pt_cmpR (in_q (K := K) rfl) (pe_ix (ixt (K := K) rfl) (pv 0) pe_int (fun _ _ => rfl)) (pe_tup (pa_cons pe_str (pa_cons pe_str (pa_cons pe_str (pa_cons pe_str pa_nil))))) (by rfl)) (pss_one (ps_ret (pe_ix (ixt (K := K) rfl) (pv 0) pe_int (fun _ _ => rfl)))) pss_nil)
      (pss_one (ps_ret (pe_slice (sla (K := K) rfl) (pv 0) (po_some pe_int) po_none))))), ?_⟩
  exact (st_seq (st_if (ete_p (et_test (ev_op rv_eq (ev_ixT (eq_t (ev_var 0)) ev_int) ev_str))) (st_ret (ee_p (ev_tup ea_nil))) st_next)
      (st_seq (st_if (ete_p (et_test (ev_op rv_in (ev_ixT (eq_t (ev_var 0)) ev_int) (ev_tup (ea_cons ev_str (ea_cons ev_str (ea_cons ev_str (ea_cons ev_str ea_nil)))))))) (st_ret (ee_p (ev_ixT (eq_t (ev_var 0)) ev_int))) st_next)
      (st_ret (ee_p (ev_slA (eq_t (ev_var 0)) (eo_some ev_int) eo_none)))))
theorem ok__law_with {f : Addr} {fd : FuncData} (F : Fun K "_law_with" "_law_with" s__law_with f fd) (Z : Zs mg) :
    FnOk P w K mg base CX0 1 f fd ["_law_figure", "_law_parts_here"] (spP ⟨K, cls⟩ m__law_with) := by
  have nd := sc__law_with.nd
  refine fn_P b__law_with F sc__law_with (n := 2) (kk := 2) rfl rfl (by decide) rfl (fun cdv A outer s0 H E hr => ?_)
  refine ⟨_, (pss_cons (ps_if (pt_cmpR (in_q (K := K) rfl) (pe_ix (ixt (K := K) rfl) (pv 0) pe_int (fun _ _ => rfl)) (pe_tup (pa_cons pe_str (pa_cons pe_str (pa_cons pe_str (pa_cons pe_str pa_nil))))) (by rfl)) (pss_one (ps_ret (pe_tup (pa_cons (pe_ix (ixt (K := K) rfl) (pv 0) pe_int (fun _ _ => rfl)) (pa_cons (pe_callTy (tuple_q (K := K) rfl) (by rfl) Z.z_tuple (by decide +kernel) (pa_cons (pv 1) pa_nil)) pa_nil))))) pss_nil)
      (pss_one (ps_ret (pe_op (cat_a (K := K) rfl) (pe_tup (pa_cons (pe_ix (ixt (K := K) rfl) (pv 0) pe_int (fun _ _ => rfl)) pa_nil)) (pe_callTy (tuple_q (K := K) rfl) (by rfl) Z.z_tuple (by decide +kernel) (pa_cons (pv 1) pa_nil)))))), ?_⟩
  exact (st_seq (st_if (ete_p (et_test (ev_op rv_in (ev_ixT (eq_t (ev_var 0)) ev_int) (ev_tup (ea_cons ev_str (ea_cons ev_str (ea_cons ev_str (ea_cons ev_str ea_nil)))))))) (st_ret (ee_p (ev_tup (ea_cons (ev_ixT (eq_t (ev_var 0)) ev_int) (ea_cons (ev_tupS (ev_var 1)) ea_nil))))) st_next)
      (st_ret (ee_p (ev_catT (eq_t (ev_tup (ea_cons (ev_ixT (eq_t (ev_var 0)) ev_int) ea_nil))) (eq_t (ev_tupS (ev_var 1)))))))
theorem okF__law_stepped  {f__law_stepped : Addr} {fd__law_stepped : FuncData} (F__law_stepped : Fun K "_law_stepped" "_law_stepped" s__law_stepped f__law_stepped fd__law_stepped) (bF__law_stepped : Binds K fd__law_stepped ["_law_figure"] []) (gF__law_stepped : mg "_law_stepped" = some (.ref f__law_stepped)) (Z : Zs mg) (C__law_parts : Cal P w K mg base "_law_parts" ["_law_figure"] 1 (spP ⟨K, cls⟩ m__law_parts)) (C__law_with : Cal P w K mg base "_law_with" ["_law_figure", "_law_parts_here"] 1 (spP ⟨K, cls⟩ m__law_with)) : ∀ n : Nat, (Cal P w K mg base "_law_stepped" ["_law_figure"] (1 + n) (spP ⟨K, cls⟩ (mF__law_stepped n))) := by
  intro n
  induction n with
  | zero => exact Cal.vacuous gF__law_stepped F__law_stepped.kp bF__law_stepped (no_P fun _ => by unfold mF__law_stepped; rfl)
  | succ n ih =>
    have C__law_stepped := ih
    have G__law_stepped : FnOk P w K mg base CX0 (1 + n + 1) f__law_stepped fd__law_stepped ["_law_figure"] (spP ⟨K, cls⟩ (mF__law_stepped (n + 1))) := by
      have nd := sc__law_stepped.nd
      unfold mF__law_stepped
      refine fn_P (b__law_stepped (mF__law_stepped n)) F__law_stepped sc__law_stepped (n := 6) (kk := 1) rfl rfl (by decide) rfl (fun cdv A outer s0 H E hr => ?_)
      refine ⟨_, (pss_cons (ps_if (pt_cmpR op_eq (pe_ix (ixt (K := K) rfl) (pv 0) pe_int (fun _ _ => rfl)) pe_str (nomark _)) (pss_one (ps_ret (pe_lst pa_nil))) pss_nil)
      (pss_cons (ps_set (i := 1) nd rfl (by first | exact Or.inl rfl | exact Or.inr rfl) (pe_cal C__law_parts hr (by first | omega | exact Nat.le_refl _ | exact Nat.le_trans (by decide) (Nat.le_add_right _ _)) rfl (pa_cons (pv 0) pa_nil)))
      (pss_cons (ps_set (i := 2) nd rfl (by first | exact Or.inl rfl | exact Or.inr rfl) (pe_lst pa_nil))
      (pss_cons (ps_if (pt_cmpR (in_q (K := K) rfl) (pe_ix (ixt (K := K) rfl) (pv 0) pe_int (fun _ _ => rfl)) (pe_tup (pa_cons pe_str (pa_cons pe_str pa_nil))) (by rfl)) (pss_one (ps_for PassesOwn.never rfl (pi_range1 (by rfl) Z.z_range (pa_cons (pe_op op_sub (pe_callB (len_q (K := K) rfl) (by rfl) Z.z_len PySem.boot_len (pa_cons (pv 1) pa_nil)) pe_int) pa_nil)) (pg_name (i := 3) nd rfl (by first | exact Or.inl rfl | exact Or.inr rfl))
      (pss_one (ps_expr (pe_bm PySem.F.plainAttrs_list PySem.F.slot_list_append PySem.F.type_list_append mt_append (pv 2) (pa_cons (pe_tup (pa_cons (pe_ix (ixt (K := K) rfl) (pv 0) pe_int (fun _ _ => rfl)) (pa_cons (pe_op (cat_a (K := K) rfl) (pe_op (cat_a (K := K) rfl) (pe_slice (sla (K := K) rfl) (pv 1) po_none (po_some (pv 3))) (pe_tup (pa_cons (pe_ix (ixt (K := K) rfl) (pv 1) (pe_op op_add (pv 3) pe_int) (fun _ _ => rfl)) (pa_cons (pe_ix (ixt (K := K) rfl) (pv 1) (pv 3) (fun _ _ => rfl)) pa_nil)))) (pe_slice (sla (K := K) rfl) (pv 1) (po_some (pe_op op_add (pv 3) pe_int)) po_none)) pa_nil))) pa_nil)))))) pss_nil)
      (pss_cons (ps_if (pt_cmpR op_eq (pe_ix (ixt (K := K) rfl) (pv 0) pe_int (fun _ _ => rfl)) pe_str (nomark _)) (pss_one (ps_for PassesOwn.never rfl (pi_range2 (by rfl) Z.z_range (pa_cons pe_int (pa_cons (pe_callB (len_q (K := K) rfl) (by rfl) Z.z_len PySem.boot_len (pa_cons (pv 1) pa_nil)) pa_nil))) (pg_name (i := 3) nd rfl (by first | exact Or.inl rfl | exact Or.inr rfl))
      (pss_one (ps_expr (pe_bm PySem.F.plainAttrs_list PySem.F.slot_list_append PySem.F.type_list_append mt_append (pv 2) (pa_cons (pe_tup (pa_cons (pe_ix (ixt (K := K) rfl) (pv 0) pe_int (fun _ _ => rfl)) (pa_cons (pe_op (cat_a (K := K) rfl) (pe_slice (sla (K := K) rfl) (pv 1) (po_some (pv 3)) po_none) (pe_slice (sla (K := K) rfl) (pv 1) po_none (po_some (pv 3)))) pa_nil))) pa_nil)))))) pss_nil)
      (pss_cons (ps_for PassesOwn.never rfl (pienumT (K := K) rfl (by rfl) Z.z_enumerate (pa_cons (pv 1) pa_nil)) (pg_tup (by rfl) (pgs_cons (pg_name (i := 3) nd rfl (by first | exact Or.inl rfl | exact Or.inr rfl)) (pgs_cons (pg_name (i := 4) nd rfl (by first | exact Or.inl rfl | exact Or.inr rfl)) pgs_nil)))
      (pss_one (ps_for PassesOwn.never rfl (pil (K := K) rfl (pe_cal C__law_stepped hr (by first | omega | exact Nat.le_refl _ | exact Nat.le_trans (by decide) (Nat.le_add_right _ _)) rfl (pa_cons (pv 4) pa_nil))) (pg_name (i := 5) nd rfl (by first | exact Or.inl rfl | exact Or.inr rfl))
      (pss_one (ps_expr (pe_bm PySem.F.plainAttrs_list PySem.F.slot_list_append PySem.F.type_list_append mt_append (pv 2) (pa_cons (pe_cal C__law_with hr (by first | omega | exact Nat.le_refl _ | exact Nat.le_trans (by decide) (Nat.le_add_right _ _)) rfl (pa_cons (pv 0) (pa_cons (pe_op (cat_a (K := K) rfl) (pe_op (cat_a (K := K) rfl) (pe_slice (sla (K := K) rfl) (pv 1) po_none (po_some (pv 3))) (pe_tup (pa_cons (pv 5) pa_nil))) (pe_slice (sla (K := K) rfl) (pv 1) (po_some (pe_op op_add (pv 3) pe_int)) po_none)) pa_nil))) pa_nil)))))))
      (pss_one (ps_ret (pv 2))))))))), ?_⟩
      exact (st_seq (st_if (ete_p (et_test (ev_op rv_eq (ev_ixT (eq_t (ev_var 0)) ev_int) ev_str))) (st_ret (ee_p (el_d (el_lst ea_nil)))) st_next)
      (st_seq (st_set (i := 1) (ee_p (ev_call (ea_cons (ev_var 0) ea_nil))))
      (st_seq (st_setL (i := 2) (ele_p (el_lst ea_nil)))
      (st_seq (st_if (ete_p (et_test (ev_op rv_in (ev_ixT (eq_t (ev_var 0)) ev_int) (ev_tup (ea_cons ev_str (ea_cons ev_str ea_nil)))))) (st_for (ei_rng1 (ea_cons (ev_op rv_sub (ev_lenT (eq_t (ev_var 1))) ev_int) ea_nil)) (eg_name 3)
      (st_app (i := 2) (ee_p (ev_tup (ea_cons (ev_ixT (eq_t (ev_var 0)) ev_int) (ea_cons (ev_catT (eq_t (ev_catT (eq_t (ev_slA (eq_t (ev_var 1)) eo_none (eo_some (ev_var 3)))) (eq_t (ev_tup (ea_cons (ev_ixT (eq_t (ev_var 1)) (ev_op rv_add (ev_var 3) ev_int)) (ea_cons (ev_ixT (eq_t (ev_var 1)) (ev_var 3)) ea_nil)))))) (eq_t (ev_slA (eq_t (ev_var 1)) (eo_some (ev_op rv_add (ev_var 3) ev_int)) eo_none))) ea_nil)))))) st_next)
      (st_seq (st_if (ete_p (et_test (ev_op rv_eq (ev_ixT (eq_t (ev_var 0)) ev_int) ev_str))) (st_for (ei_rng2 (ea_cons ev_int (ea_cons (ev_lenT (eq_t (ev_var 1))) ea_nil))) (eg_name 3)
      (st_app (i := 2) (ee_p (ev_tup (ea_cons (ev_ixT (eq_t (ev_var 0)) ev_int) (ea_cons (ev_catT (eq_t (ev_slA (eq_t (ev_var 1)) (eo_some (ev_var 3)) eo_none)) (eq_t (ev_slA (eq_t (ev_var 1)) eo_none (eo_some (ev_var 3))))) ea_nil)))))) st_next)
      (st_seq (st_for (ei_enumT (ev_var 1)) (eg_tup (egs_cons (eg_name 3) (egs_cons (eg_name 4) egs_nil)))
      (st_for (ei_list (ev_call (ea_cons (ev_var 4) ea_nil)) rfl) (eg_name 5)
      (st_app (i := 2) (ee_p (ev_call (ea_cons (ev_var 0) (ea_cons (ev_catT (eq_t (ev_catT (eq_t (ev_slA (eq_t (ev_var 1)) eo_none (eo_some (ev_var 3)))) (eq_t (ev_tup (ea_cons (ev_var 5) ea_nil))))) (eq_t (ev_slA (eq_t (ev_var 1)) (eo_some (ev_op rv_add (ev_var 3) ev_int)) eo_none))) ea_nil)))))))
      (st_frz 2 (st_ret (ee_p (ev_var 2))))))))))
    exact ⟨f__law_stepped, fd__law_stepped, G__law_stepped, gF__law_stepped, F__law_stepped.kp, bF__law_stepped⟩
theorem ok__law_reached {f : Addr} {fd : FuncData} (F : Fun K "_law_reached" "_law_reached" s__law_reached f fd) (Z : Zs mg) (C__law_stepped : Cal P w K mg base "_law_stepped" ["_law_figure"] 61 (spP ⟨K, cls⟩ m__law_stepped)) :
    FnOk P w K mg base CX0 62 f fd ["_law_figure"] (spL ⟨K, cls⟩ m__law_reached) := by
  have nd := sc__law_reached.nd
  refine fn_L b__law_reached F sc__law_reached (n := 4) (kk := 1) rfl rfl (by decide) rfl (fun cdv A outer s0 H E hr => ?_)
  refine ⟨_, (pss_cons (ps_set (i := 1) nd rfl (by first | exact Or.inl rfl | exact Or.inr rfl) (pe_lst (pa_cons (pv 0) pa_nil)))
      (pss_cons (ps_set (i := 2) nd rfl (by first | exact Or.inl rfl | exact Or.inr rfl) (pe_lst (pa_cons (pv 0) pa_nil)))
      (pss_cons (ps_while PassesOwn.never (pt_cmpR op_gt (pe_callB (len_q (K := K) rfl) (by rfl) Z.z_len PySem.boot_len (pa_cons (pv 1) pa_nil)) pe_int (nomark _))
      (pss_one (ps_for PassesOwn.never rfl (pil (K := K) rfl (pe_cal C__law_stepped hr (by first | omega | exact Nat.le_refl _ | exact Nat.le_trans (by decide) (Nat.le_add_right _ _)) rfl (pa_cons (pe_pop (K := K) rfl (pv 1)) pa_nil))) (pg_name (i := 3) nd rfl (by first | exact Or.inl rfl | exact Or.inr rfl))
      (pss_one (ps_if (pt_cmpR (nin_qD (K := K) rfl (units_of hr)) (pv 3) (pv 2) (by rfl)) (pss_cons (ps_expr (pe_bm PySem.F.plainAttrs_list PySem.F.slot_list_append PySem.F.type_list_append mt_append (pv 2) (pa_cons (pv 3) pa_nil)))
      (pss_one (ps_expr (pe_bm PySem.F.plainAttrs_list PySem.F.slot_list_append PySem.F.type_list_append mt_append (pv 1) (pa_cons (pv 3) pa_nil))))) pss_nil)))))
      (pss_one (ps_ret (pv 2)))))), ?_⟩
  exact (st_seq (st_setL (i := 1) (ele_p (el_lst (ea_cons (ev_var 0) ea_nil))))
      (st_seq (st_setL (i := 2) (ele_p (el_lst (ea_cons (ev_var 0) ea_nil))))
      (st_seq (st_while (fun _ => 1000) (ete_p (et_test (ev_op rv_gt (ev_lenL (eq_o 1)) ev_int)))
      (st_forE (ee_call (eae_cons (ee_pop 1) eae_nil)) (eg_name 3)
      (st_if (ete_p (et_lend 2 (et_test (ev_op rv_inQ (ev_var 3) (ev_var 2))))) (st_seq (st_app (i := 2) (ee_p (ev_var 3)))
      (st_app (i := 1) (ee_p (ev_var 3)))) st_next)))
      (st_retO 2))))
theorem okF__law_other  {f__law_other : Addr} {fd__law_other : FuncData} (F__law_other : Fun K "_law_other" "_law_other" s__law_other f__law_other fd__law_other) (bF__law_other : Binds K fd__law_other ["_law_figure", "_law_how", "_law_turn"] []) (gF__law_other : mg "_law_other" = some (.ref f__law_other)) (Z : Zs mg) (C__law_parts : Cal P w K mg base "_law_parts" ["_law_figure"] 1 (spP ⟨K, cls⟩ m__law_parts)) (C__law_with : Cal P w K mg base "_law_with" ["_law_figure", "_law_parts_here"] 1 (spP ⟨K, cls⟩ m__law_with)) : ∀ n : Nat, (Cal P w K mg base "_law_other" ["_law_figure", "_law_how", "_law_turn"] (1 + n) (spP ⟨K, cls⟩ (mF__law_other n))) := by
  intro n
  induction n with
  | zero => exact Cal.vacuous gF__law_other F__law_other.kp bF__law_other (no_P fun _ => by unfold mF__law_other; rfl)
  | succ n ih =>
    have C__law_other := ih
    have G__law_other : FnOk P w K mg base CX0 (1 + n + 1) f__law_other fd__law_other ["_law_figure", "_law_how", "_law_turn"] (spP ⟨K, cls⟩ (mF__law_other (n + 1))) := by
      have nd := sc__law_other.nd
      unfold mF__law_other
      refine fn_P (b__law_other (mF__law_other n)) F__law_other sc__law_other (n := 6) (kk := 3) rfl rfl (by decide) rfl (fun cdv A outer s0 H E hr => ?_)
      refine ⟨_, (pss_cons (ps_if (pt_cmpR op_eq (pe_ix (ixt (K := K) rfl) (pv 0) pe_int (fun _ _ => rfl)) pe_str (nomark _)) (pss_cons (ps_if (pt_cmpR op_eq (pe_op op_mod (pv 1) pe_int) pe_int (nomark _)) (pss_one (ps_ret (pe_tup (pa_cons pe_str (pa_cons (pe_ix (ixl (K := K) rfl) (pe_lst (pa_cons pe_str (pa_cons pe_str (pa_cons pe_str pa_nil)))) (pe_op op_mod (pv 2) pe_int) (fun _ _ => rfl)) pa_nil))))) pss_nil)
      (pss_one (ps_ret (pv 0)))) pss_nil)
      (pss_cons (ps_setLc (i := 3) (own := [("_law_k", 4), ("_law_part", 5)]) rfl nd rfl rfl (sw_true rfl rfl rfl (by decide +kernel)) (pienumT (K := K) rfl (by rfl) Z.z_enumerate (pa_cons (pe_cal C__law_parts hr (by first | omega | exact Nat.le_refl _ | exact Nat.le_trans (by decide) (Nat.le_add_right _ _)) rfl (pa_cons (pv 0) pa_nil)) pa_nil)) (blkOk_by (N := N__law_other) (sc := defScope s__law_other) (by decide +kernel)) (fun _ _ _ _ _ => (pgt (K := K) (n := 2) rfl (by rfl) (pgs_cons (pg_name (i := 4) nd rfl (Or.inl rfl)) (pgs_cons (pg_name (i := 5) nd rfl (Or.inl rfl)) pgs_nil)))) (fun _ _ _ _ _ => pts_nil) (fun _ _ _ _ _ => (pe_cal C__law_other hr (by first | omega | exact Nat.le_refl _ | exact Nat.le_trans (by decide) (Nat.le_add_right _ _)) rfl (pa_cons (pv 5) (pa_cons (pv 1) (pa_cons (pe_op op_add (pe_op op_fdiv (pv 2) pe_int) (pv 4)) pa_nil))))))
      (pss_cons (ps_if (PW.pt (pw_and (pt_cmpR op_eq (pe_op op_mod (pv 1) pe_int) pe_int (nomark _)) (pw_and1 (pt_cmpR op_gt (pe_callB (len_q (K := K) rfl) (by rfl) Z.z_len PySem.boot_len (pa_cons (pv 3) pa_nil)) pe_int (nomark _))))) (pss_one (ps_set (i := 3) nd rfl (by first | exact Or.inl rfl | exact Or.inr rfl) (pe_op (cat_q (K := K) rfl) (pe_slice (sll (K := K) rfl) (pv 3) (po_some pe_int) po_none) (pe_slice (sll (K := K) rfl) (pv 3) po_none (po_some pe_int))))) pss_nil)
      (pss_cons (ps_if (pt_cmpR op_eq (pe_op op_mod (pv 1) pe_int) pe_int (nomark _)) (pss_one (ps_set (i := 3) nd rfl (by first | exact Or.inl rfl | exact Or.inr rfl) (pe_lstRev rfl rfl Z.z_list rfl Z.z_reversed (pv 3)))) pss_nil)
      (pss_one (ps_ret (pe_cal C__law_with hr (by first | omega | exact Nat.le_refl _ | exact Nat.le_trans (by decide) (Nat.le_add_right _ _)) rfl (pa_cons (pv 0) (pa_cons (pv 3) pa_nil))))))))), ?_⟩
      exact (st_seq (st_if (ete_p (et_test (ev_op rv_eq (ev_ixT (eq_t (ev_var 0)) ev_int) ev_str))) (st_seq (st_if (ete_p (et_test (ev_op rv_eq (ev_op rv_mod (ev_var 1) ev_int) ev_int))) (st_ret (ee_p (ev_tup (ea_cons ev_str (ea_cons (ev_ixL (eq_n (el_lst (ea_cons ev_str (ea_cons ev_str (ea_cons ev_str ea_nil))))) (ev_op rv_mod (ev_var 2) ev_int)) ea_nil))))) st_next)
      (st_ret (ee_p (ev_var 0)))) st_next)
      (st_seq (st_set (i := 3) (ee_p (el_d (el_lc (vs := [4, 5]) (ei_enumT (ev_call (ea_cons (ev_var 0) ea_nil))) (eg_tup (egs_cons (eg_name 4) (egs_cons (eg_name 5) egs_nil))) (by decide) et_yes (ev_call (ea_cons (ev_var 5) (ea_cons (ev_var 1) (ea_cons (ev_op rv_add (ev_op rv_div (ev_var 2) ev_int) (ev_var 4)) ea_nil))))))))
      (st_seq (st_if (ete_p (et_and (et_test (ev_op rv_eq (ev_op rv_mod (ev_var 1) ev_int) ev_int)) (et_test (ev_op rv_gt (ev_lenL (eq_l (ev_var 3))) ev_int)))) (st_set (i := 3) (ee_p (el_d (el_cat (eq_n (el_slL (eq_l (ev_var 3)) (eo_some ev_int) eo_none)) (eq_n (el_slL (eq_l (ev_var 3)) eo_none (eo_some ev_int))))))) st_next)
      (st_seq (st_if (ete_p (et_test (ev_op rv_eq (ev_op rv_mod (ev_var 1) ev_int) ev_int))) (st_set (i := 3) (ee_p (el_d (el_lstRev (eq_l (ev_var 3)))))) st_next)
      (st_ret (ee_p (ev_call (ea_cons (ev_var 0) (ea_cons (ev_var 3) ea_nil)))))))))
    exact ⟨f__law_other, fd__law_other, G__law_other, gF__law_other, F__law_other.kp, bF__law_other⟩
theorem ok_law {f : Addr} {fd : FuncData} (F : Fun K "law" "law" s_law f fd) (Z : Zs mg) (C__law_cell : Cal P w K mg base "_law_cell" ["_law_script", "_law_k"] 1 (spP ⟨K, cls⟩ m__law_cell)) (C__law_mix : Cal P w K mg base "_law_mix" ["_law_script"] 1 (spL ⟨K, cls⟩ m__law_mix)) (C__law_other : Cal P w K mg base "_law_other" ["_law_figure", "_law_how", "_law_turn"] 61 (spP ⟨K, cls⟩ m__law_other)) (C__law_reached : Cal P w K mg base "_law_reached" ["_law_figure"] 62 (spL ⟨K, cls⟩ m__law_reached)) (C__law_small : Cal P w K mg base "_law_small" ["_law_cells", "_law_how"] 2 (spP ⟨K, cls⟩ m__law_small)) (C_plain : Cal P w K mg base "plain" ["writing"] 123 (spP ⟨K, cls⟩ m_plain)) :
    FnOk P w K mg base CX0 124 f fd ["_law_script"] (spP ⟨K, cls⟩ m_law) := by
  have nd := sc_law.nd
  refine fn_P b_law F sc_law (n := 7) (kk := 1) rfl rfl (by decide) rfl (fun cdv A outer s0 H E hr => ?_)
  refine ⟨_, (pss_cons (ps_set (i := 0) nd rfl (by first | exact Or.inl rfl | exact Or.inr rfl) (pe_cal C__law_mix hr (by first | omega | exact Nat.le_refl _ | exact Nat.le_trans (by decide) (Nat.le_add_right _ _)) rfl (pa_cons (pv 0) pa_nil)))
      (pss_cons (ps_set (i := 1) nd rfl (by first | exact Or.inl rfl | exact Or.inr rfl) (pe_cal C__law_cell hr (by first | omega | exact Nat.le_refl _ | exact Nat.le_trans (by decide) (Nat.le_add_right _ _)) rfl (pa_cons (pv 0) (pa_cons pe_int pa_nil))))
      (pss_cons (ps_set (i := 2) nd rfl (by first | exact Or.inl rfl | exact Or.inr rfl) (pe_cal C__law_small hr (by first | omega | exact Nat.le_refl _ | exact Nat.le_trans (by decide) (Nat.le_add_right _ _)) rfl (pa_cons (pe_slice (sll (K := K) rfl) (pv 0) (po_some pe_int) (po_some pe_int)) (pa_cons (pv 1) pa_nil))))
      (pss_cons (ps_set (i := 3) nd rfl (by first | exact Or.inl rfl | exact Or.inr rfl) (pe_cal C__law_other hr (by first | omega | exact Nat.le_refl _ | exact Nat.le_trans (by decide) (Nat.le_add_right _ _)) rfl (pa_cons (pv 2) (pa_cons (pe_op op_fdiv (pv 1) pe_int) (pa_cons (pe_op op_mod (pe_cal C__law_cell hr (by first | omega | exact Nat.le_refl _ | exact Nat.le_trans (by decide) (Nat.le_add_right _ _)) rfl (pa_cons (pv 0) (pa_cons pe_int pa_nil))) (pe_op op_pow pe_int pe_int)) pa_nil)))))
      (pss_cons (ps_set (i := 4) nd rfl (by first | exact Or.inl rfl | exact Or.inr rfl) (pe_cal C_plain hr (by first | omega | exact Nat.le_refl _ | exact Nat.le_trans (by decide) (Nat.le_add_right _ _)) rfl (pa_cons (pv 2) pa_nil)))
      (pss_cons (ps_set (i := 5) nd rfl (by first | exact Or.inl rfl | exact Or.inr rfl) (pe_cal C__law_reached hr (by first | omega | exact Nat.le_refl _ | exact Nat.le_trans (by decide) (Nat.le_add_right _ _)) rfl (pa_cons (pv 2) pa_nil)))
      (pss_cons (ps_if (pt_cmpR (nin_qD (K := K) rfl (units_of hr)) (pv 4) (pv 5) (by rfl)) (pss_one (ps_ret pe_bl)) pss_nil)
      (pss_cons (ps_for PassesOwn.never rfl (pil (K := K) rfl (pe_slice (sll (K := K) rfl) (pv 5) po_none (po_some pe_int))) (pg_name (i := 6) nd rfl (by first | exact Or.inl rfl | exact Or.inr rfl))
      (pss_one (ps_if (pt_cmpR (ne_q (K := K) rfl (units_of hr)) (pe_cal C_plain hr (by first | omega | exact Nat.le_refl _ | exact Nat.le_trans (by decide) (Nat.le_add_right _ _)) rfl (pa_cons (pv 6) pa_nil)) (pv 4) (nomark _)) (pss_one (ps_ret pe_bl)) pss_nil)))
      (pss_one (ps_ret (pe_cmpR op_eq (pe_cmpR (eq_q (K := K) rfl (units_of hr)) (pe_cal C_plain hr (by first | omega | exact Nat.le_refl _ | exact Nat.le_trans (by decide) (Nat.le_add_right _ _)) rfl (pa_cons (pv 3) pa_nil)) (pv 4) (nomark _)) (pe_cmpR (in_qD (K := K) rfl (units_of hr)) (pv 3) (pv 5) (by rfl)) (nomark _)))))))))))), ?_⟩
  exact (st_seq (st_set (i := 0) (ee_p (el_d (el_call (ea_cons (ev_var 0) ea_nil)))))
      (st_seq (st_set (i := 1) (ee_p (ev_call (ea_cons (ev_var 0) (ea_cons ev_int ea_nil)))))
      (st_seq (st_set (i := 2) (ee_p (ev_call (ea_cons (el_d (el_slL (eq_l (ev_var 0)) (eo_some ev_int) (eo_some ev_int))) (ea_cons (ev_var 1) ea_nil)))))
      (st_seq (st_set (i := 3) (ee_p (ev_call (ea_cons (ev_var 2) (ea_cons (ev_op rv_div (ev_var 1) ev_int) (ea_cons (ev_op rv_mod (ev_call (ea_cons (ev_var 0) (ea_cons ev_int ea_nil))) (ev_op rv_pow ev_int ev_int)) ea_nil))))))
      (st_seq (st_set (i := 4) (ee_p (ev_call (ea_cons (ev_var 2) ea_nil))))
      (st_seq (st_set (i := 5) (ee_p (el_d (el_call (ea_cons (ev_var 2) ea_nil)))))
      (st_seq (st_if (ete_p (et_test (ev_op rv_inQ (ev_var 4) (ev_var 5)))) (st_ret (ee_p ev_bl)) st_next)
      (st_seq (st_for (ei_listL (el_slL (eq_l (ev_var 5)) eo_none (eo_some ev_int))) (eg_name 6)
      (st_if (ete_p (et_test (ev_op rv_neQ (ev_call (ea_cons (ev_var 6) ea_nil)) (ev_var 4)))) (st_ret (ee_p ev_bl)) st_next))
      (st_ret (ee_p (ev_op rv_eq (ev_op rv_eqQ (ev_call (ea_cons (ev_var 3) ea_nil)) (ev_var 4)) (ev_op rv_inQ (ev_var 3) (ev_var 5)))))))))))))
end
theorem all_mk {l : PySem.W.OpenLaw} {w : World} {K : PySem.W.Frag} {h : Heap} {mg : Str → Option Value} {fa : Addr} (X : K.In h) (G : h.Ns mainGlobals mg) (hfa : mg "law" = some (.ref fa))
    {od_parts_of an_parts_of od_with_parts an_with_parts od_key_of an_key_of od_first_turn an_first_turn od_plain an_plain od__law_mix an__law_mix od__law_cell an__law_cell od__law_put an__law_put od__law_small an__law_small od__law_parts an__law_parts od__law_with an__law_with od__law_stepped an__law_stepped od__law_reached an__law_reached od__law_other an__law_other od_law an_law : Option Addr} {sl_parts_of sl_with_parts sl_key_of sl_first_turn sl_plain sl__law_mix sl__law_cell sl__law_put sl__law_small sl__law_parts sl__law_with sl__law_stepped sl__law_reached sl__law_other sl_law : Array (Option Value)} {oc_parts_of kV_parts_of dc_parts_of pm_parts_of ct_parts_of cd_parts_of oc_with_parts kV_with_parts dc_with_parts pm_with_parts ct_with_parts cd_with_parts oc_key_of kV_key_of dc_key_of pm_key_of ct_key_of cd_key_of oc_first_turn kV_first_turn dc_first_turn pm_first_turn ct_first_turn cd_first_turn oc_plain kV_plain dc_plain pm_plain ct_plain cd_plain oc__law_mix kV__law_mix dc__law_mix pm__law_mix ct__law_mix cd__law_mix oc__law_cell kV__law_cell dc__law_cell pm__law_cell ct__law_cell cd__law_cell oc__law_put kV__law_put dc__law_put pm__law_put ct__law_put cd__law_put oc__law_small kV__law_small dc__law_small pm__law_small ct__law_small cd__law_small oc__law_parts kV__law_parts dc__law_parts pm__law_parts ct__law_parts cd__law_parts oc__law_with kV__law_with dc__law_with pm__law_with ct__law_with cd__law_with oc__law_stepped kV__law_stepped dc__law_stepped pm__law_stepped ct__law_stepped cd__law_stepped oc__law_reached kV__law_reached dc__law_reached pm__law_reached ct__law_reached cd__law_reached oc__law_other kV__law_other dc__law_other pm__law_other ct__law_other cd__law_other oc_law kV_law dc_law pm_law ct_law cd_law : Value} {f_parts_of f_with_parts f_key_of f_first_turn f_plain f__law_mix f__law_cell f__law_put f__law_small f__law_parts f__law_with f__law_stepped f__law_reached f__law_other f_law : Addr} {q_KINDS : Addr} {o_KINDS : Obj} {q_MANY_PARTS : Addr} {o_MANY_PARTS : Obj}
    (a_parts_of : PySem.W.nsIn K mainGlobals "parts_of" = some (some (.ref f_parts_of)))
    (a_with_parts : PySem.W.nsIn K mainGlobals "with_parts" = some (some (.ref f_with_parts)))
    (a_key_of : PySem.W.nsIn K mainGlobals "key_of" = some (some (.ref f_key_of)))
    (a_first_turn : PySem.W.nsIn K mainGlobals "first_turn" = some (some (.ref f_first_turn)))
    (a_plain : PySem.W.nsIn K mainGlobals "plain" = some (some (.ref f_plain)))
    (a__law_mix : PySem.W.nsIn K mainGlobals "_law_mix" = some (some (.ref f__law_mix)))
    (a__law_cell : PySem.W.nsIn K mainGlobals "_law_cell" = some (some (.ref f__law_cell)))
    (a__law_put : PySem.W.nsIn K mainGlobals "_law_put" = some (some (.ref f__law_put)))
    (a__law_small : PySem.W.nsIn K mainGlobals "_law_small" = some (some (.ref f__law_small)))
    (a__law_parts : PySem.W.nsIn K mainGlobals "_law_parts" = some (some (.ref f__law_parts)))
    (a__law_with : PySem.W.nsIn K mainGlobals "_law_with" = some (some (.ref f__law_with)))
    (a__law_stepped : PySem.W.nsIn K mainGlobals "_law_stepped" = some (some (.ref f__law_stepped)))
    (a__law_reached : PySem.W.nsIn K mainGlobals "_law_reached" = some (some (.ref f__law_reached)))
    (a__law_other : PySem.W.nsIn K mainGlobals "_law_other" = some (some (.ref f__law_other)))
    (a_law : PySem.W.nsIn K mainGlobals "law" = some (some (.ref f_law)))
    (l_parts_of : K.lookup f_parts_of = some ⟨oc_parts_of, od_parts_of, .func (PySem.W.fnOf "parts_of" "parts_of" (defArgs s_parts_of) (defBody s_parts_of) (defScope s_parts_of) .none kV_parts_of dc_parts_of pm_parts_of an_parts_of cd_parts_of ct_parts_of), sl_parts_of⟩)
    (c_parts_of : PySem.W.codeIn K cd_parts_of "parts_of" = true)
    (k_parts_of : PySem.W.keepIn K (.ref f_parts_of) = true)
    (l_with_parts : K.lookup f_with_parts = some ⟨oc_with_parts, od_with_parts, .func (PySem.W.fnOf "with_parts" "with_parts" (defArgs s_with_parts) (defBody s_with_parts) (defScope s_with_parts) .none kV_with_parts dc_with_parts pm_with_parts an_with_parts cd_with_parts ct_with_parts), sl_with_parts⟩)
    (c_with_parts : PySem.W.codeIn K cd_with_parts "with_parts" = true)
    (k_with_parts : PySem.W.keepIn K (.ref f_with_parts) = true)
    (l_key_of : K.lookup f_key_of = some ⟨oc_key_of, od_key_of, .func (PySem.W.fnOf "key_of" "key_of" (defArgs s_key_of) (defBody s_key_of) (defScope s_key_of) .none kV_key_of dc_key_of pm_key_of an_key_of cd_key_of ct_key_of), sl_key_of⟩)
    (c_key_of : PySem.W.codeIn K cd_key_of "key_of" = true)
    (k_key_of : PySem.W.keepIn K (.ref f_key_of) = true)
    (l_first_turn : K.lookup f_first_turn = some ⟨oc_first_turn, od_first_turn, .func (PySem.W.fnOf "first_turn" "first_turn" (defArgs s_first_turn) (defBody s_first_turn) (defScope s_first_turn) .none kV_first_turn dc_first_turn pm_first_turn an_first_turn cd_first_turn ct_first_turn), sl_first_turn⟩)
    (c_first_turn : PySem.W.codeIn K cd_first_turn "first_turn" = true)
    (k_first_turn : PySem.W.keepIn K (.ref f_first_turn) = true)
    (l_plain : K.lookup f_plain = some ⟨oc_plain, od_plain, .func (PySem.W.fnOf "plain" "plain" (defArgs s_plain) (defBody s_plain) (defScope s_plain) .none kV_plain dc_plain pm_plain an_plain cd_plain ct_plain), sl_plain⟩)
    (c_plain : PySem.W.codeIn K cd_plain "plain" = true)
    (k_plain : PySem.W.keepIn K (.ref f_plain) = true)
    (l__law_mix : K.lookup f__law_mix = some ⟨oc__law_mix, od__law_mix, .func (PySem.W.fnOf "_law_mix" "_law_mix" (defArgs s__law_mix) (defBody s__law_mix) (defScope s__law_mix) .none kV__law_mix dc__law_mix pm__law_mix an__law_mix cd__law_mix ct__law_mix), sl__law_mix⟩)
    (c__law_mix : PySem.W.codeIn K cd__law_mix "_law_mix" = true)
    (k__law_mix : PySem.W.keepIn K (.ref f__law_mix) = true)
    (l__law_cell : K.lookup f__law_cell = some ⟨oc__law_cell, od__law_cell, .func (PySem.W.fnOf "_law_cell" "_law_cell" (defArgs s__law_cell) (defBody s__law_cell) (defScope s__law_cell) .none kV__law_cell dc__law_cell pm__law_cell an__law_cell cd__law_cell ct__law_cell), sl__law_cell⟩)
    (c__law_cell : PySem.W.codeIn K cd__law_cell "_law_cell" = true)
    (k__law_cell : PySem.W.keepIn K (.ref f__law_cell) = true)
    (l__law_put : K.lookup f__law_put = some ⟨oc__law_put, od__law_put, .func (PySem.W.fnOf "_law_put" "_law_put" (defArgs s__law_put) (defBody s__law_put) (defScope s__law_put) .none kV__law_put dc__law_put pm__law_put an__law_put cd__law_put ct__law_put), sl__law_put⟩)
    (c__law_put : PySem.W.codeIn K cd__law_put "_law_put" = true)
    (k__law_put : PySem.W.keepIn K (.ref f__law_put) = true)
    (l__law_small : K.lookup f__law_small = some ⟨oc__law_small, od__law_small, .func (PySem.W.fnOf "_law_small" "_law_small" (defArgs s__law_small) (defBody s__law_small) (defScope s__law_small) .none kV__law_small dc__law_small pm__law_small an__law_small cd__law_small ct__law_small), sl__law_small⟩)
    (c__law_small : PySem.W.codeIn K cd__law_small "_law_small" = true)
    (k__law_small : PySem.W.keepIn K (.ref f__law_small) = true)
    (l__law_parts : K.lookup f__law_parts = some ⟨oc__law_parts, od__law_parts, .func (PySem.W.fnOf "_law_parts" "_law_parts" (defArgs s__law_parts) (defBody s__law_parts) (defScope s__law_parts) .none kV__law_parts dc__law_parts pm__law_parts an__law_parts cd__law_parts ct__law_parts), sl__law_parts⟩)
    (c__law_parts : PySem.W.codeIn K cd__law_parts "_law_parts" = true)
    (k__law_parts : PySem.W.keepIn K (.ref f__law_parts) = true)
    (l__law_with : K.lookup f__law_with = some ⟨oc__law_with, od__law_with, .func (PySem.W.fnOf "_law_with" "_law_with" (defArgs s__law_with) (defBody s__law_with) (defScope s__law_with) .none kV__law_with dc__law_with pm__law_with an__law_with cd__law_with ct__law_with), sl__law_with⟩)
    (c__law_with : PySem.W.codeIn K cd__law_with "_law_with" = true)
    (k__law_with : PySem.W.keepIn K (.ref f__law_with) = true)
    (l__law_stepped : K.lookup f__law_stepped = some ⟨oc__law_stepped, od__law_stepped, .func (PySem.W.fnOf "_law_stepped" "_law_stepped" (defArgs s__law_stepped) (defBody s__law_stepped) (defScope s__law_stepped) .none kV__law_stepped dc__law_stepped pm__law_stepped an__law_stepped cd__law_stepped ct__law_stepped), sl__law_stepped⟩)
    (c__law_stepped : PySem.W.codeIn K cd__law_stepped "_law_stepped" = true)
    (k__law_stepped : PySem.W.keepIn K (.ref f__law_stepped) = true)
    (l__law_reached : K.lookup f__law_reached = some ⟨oc__law_reached, od__law_reached, .func (PySem.W.fnOf "_law_reached" "_law_reached" (defArgs s__law_reached) (defBody s__law_reached) (defScope s__law_reached) .none kV__law_reached dc__law_reached pm__law_reached an__law_reached cd__law_reached ct__law_reached), sl__law_reached⟩)
    (c__law_reached : PySem.W.codeIn K cd__law_reached "_law_reached" = true)
    (k__law_reached : PySem.W.keepIn K (.ref f__law_reached) = true)
    (l__law_other : K.lookup f__law_other = some ⟨oc__law_other, od__law_other, .func (PySem.W.fnOf "_law_other" "_law_other" (defArgs s__law_other) (defBody s__law_other) (defScope s__law_other) .none kV__law_other dc__law_other pm__law_other an__law_other cd__law_other ct__law_other), sl__law_other⟩)
    (c__law_other : PySem.W.codeIn K cd__law_other "_law_other" = true)
    (k__law_other : PySem.W.keepIn K (.ref f__law_other) = true)
    (l_law : K.lookup f_law = some ⟨oc_law, od_law, .func (PySem.W.fnOf "law" "law" (defArgs s_law) (defBody s_law) (defScope s_law) .none kV_law dc_law pm_law an_law cd_law ct_law), sl_law⟩)
    (c_law : PySem.W.codeIn K cd_law "law" = true)
    (k_law : PySem.W.keepIn K (.ref f_law) = true)
    (ga_KINDS : PySem.W.nsIn K mainGlobals "KINDS" = some (some (.ref q_KINDS)))
    (gl_KINDS : K.lookup q_KINDS = some o_KINDS)
    (gr_KINDS : isTup [.str "nothing", .str "bead", .str "left", .str "right", .str "pair", .str "row", .str "bag", .str "choice", .str "ring"] o_KINDS)
    (ga_MANY_PARTS : PySem.W.nsIn K mainGlobals "MANY_PARTS" = some (some (.ref q_MANY_PARTS)))
    (gl_MANY_PARTS : K.lookup q_MANY_PARTS = some o_MANY_PARTS)
    (gr_MANY_PARTS : isTup [.str "row", .str "bag", .str "choice", .str "ring"] o_MANY_PARTS)
    (zz_enumerate : PySem.W.nsIn K mainGlobals "enumerate" = some none)
    (zz_len : PySem.W.nsIn K mainGlobals "len" = some none)
    (zz_list : PySem.W.nsIn K mainGlobals "list" = some none)
    (zz_min : PySem.W.nsIn K mainGlobals "min" = some none)
    (zz_range : PySem.W.nsIn K mainGlobals "range" = some none)
    (zz_reversed : PySem.W.nsIn K mainGlobals "reversed" = some none)
    (zz_sorted : PySem.W.nsIn K mainGlobals "sorted" = some none)
    (zz_sum : PySem.W.nsIn K mainGlobals "sum" = some none)
    (zz_tuple : PySem.W.nsIn K mainGlobals "tuple" = some none)
    (goal : ∀ ns : List Int, ns.length ≤ 63 → m_law [.lst (ns.map .int)] = some (.bl true)) :
    ∃ fd : FuncData, (∀ (s : Shared) (v : Value), BindsTo s fd ⟨[v], []⟩ [("_law_script", v)]) ∧ ∀ base : Heap, K.In base → base.Ns mainGlobals mg → FnOk l.prog w K mg base CX0 124 fa fd ["_law_script"] (Ab.spLaw K) := by
  have e := hfa.symm.trans (PySem.W.mg_of X G a_law)
  cases e
  have Z : Zs mg := ⟨PySem.W.mg_none_of X G zz_enumerate, PySem.W.mg_none_of X G zz_len, PySem.W.mg_none_of X G zz_list, PySem.W.mg_none_of X G zz_min, PySem.W.mg_none_of X G zz_range, PySem.W.mg_none_of X G zz_reversed, PySem.W.mg_none_of X G zz_sorted, PySem.W.mg_none_of X G zz_sum, PySem.W.mg_none_of X G zz_tuple⟩
  obtain ⟨cls, hcls⟩ : ∃ cls : String → Addr, cls = fun c => 0 := ⟨_, rfl⟩
  have F_parts_of := fun_mk (st := s_parts_of) l_parts_of c_parts_of k_parts_of
  have b_parts_of := F_parts_of.binds (ps := ["figure"]) fun _ _ _ _ _ _ us hl => match us, hl with | [_], _ => rfl
  have F_with_parts := fun_mk (st := s_with_parts) l_with_parts c_with_parts k_with_parts
  have b_with_parts := F_with_parts.binds (ps := ["figure", "parts"]) fun _ _ _ _ _ _ us hl => match us, hl with | [_, _], _ => rfl
  have F_key_of := fun_mk (st := s_key_of) l_key_of c_key_of k_key_of
  have b_key_of := F_key_of.binds (ps := ["figure"]) fun _ _ _ _ _ _ us hl => match us, hl with | [_], _ => rfl
  have F_first_turn := fun_mk (st := s_first_turn) l_first_turn c_first_turn k_first_turn
  have b_first_turn := F_first_turn.binds (ps := ["parts"]) fun _ _ _ _ _ _ us hl => match us, hl with | [_], _ => rfl
  have F_plain := fun_mk (st := s_plain) l_plain c_plain k_plain
  have b_plain := F_plain.binds (ps := ["writing"]) fun _ _ _ _ _ _ us hl => match us, hl with | [_], _ => rfl
  have F__law_mix := fun_mk (st := s__law_mix) l__law_mix c__law_mix k__law_mix
  have b__law_mix := F__law_mix.binds (ps := ["_law_script"]) fun _ _ _ _ _ _ us hl => match us, hl with | [_], _ => rfl
  have F__law_cell := fun_mk (st := s__law_cell) l__law_cell c__law_cell k__law_cell
  have b__law_cell := F__law_cell.binds (ps := ["_law_script", "_law_k"]) fun _ _ _ _ _ _ us hl => match us, hl with | [_, _], _ => rfl
  have F__law_put := fun_mk (st := s__law_put) l__law_put c__law_put k__law_put
  have b__law_put := F__law_put.binds (ps := ["_law_stack", "_law_cell_here"]) fun _ _ _ _ _ _ us hl => match us, hl with | [_, _], _ => rfl
  have F__law_small := fun_mk (st := s__law_small) l__law_small c__law_small k__law_small
  have b__law_small := F__law_small.binds (ps := ["_law_cells", "_law_how"]) fun _ _ _ _ _ _ us hl => match us, hl with | [_, _], _ => rfl
  have F__law_parts := fun_mk (st := s__law_parts) l__law_parts c__law_parts k__law_parts
  have b__law_parts := F__law_parts.binds (ps := ["_law_figure"]) fun _ _ _ _ _ _ us hl => match us, hl with | [_], _ => rfl
  have F__law_with := fun_mk (st := s__law_with) l__law_with c__law_with k__law_with
  have b__law_with := F__law_with.binds (ps := ["_law_figure", "_law_parts_here"]) fun _ _ _ _ _ _ us hl => match us, hl with | [_, _], _ => rfl
  have F__law_stepped := fun_mk (st := s__law_stepped) l__law_stepped c__law_stepped k__law_stepped
  have b__law_stepped := F__law_stepped.binds (ps := ["_law_figure"]) fun _ _ _ _ _ _ us hl => match us, hl with | [_], _ => rfl
  have F__law_reached := fun_mk (st := s__law_reached) l__law_reached c__law_reached k__law_reached
  have b__law_reached := F__law_reached.binds (ps := ["_law_figure"]) fun _ _ _ _ _ _ us hl => match us, hl with | [_], _ => rfl
  have F__law_other := fun_mk (st := s__law_other) l__law_other c__law_other k__law_other
  have b__law_other := F__law_other.binds (ps := ["_law_figure", "_law_how", "_law_turn"]) fun _ _ _ _ _ _ us hl => match us, hl with | [_, _, _], _ => rfl
  have F_law := fun_mk (st := s_law) l_law c_law k_law
  have b_law := F_law.binds (ps := ["_law_script"]) fun _ _ _ _ _ _ us hl => match us, hl with | [_], _ => rfl
  have c_KINDS : mg "KINDS" = some (.ref q_KINDS) ∧ (∀ F, Rep ⟨K, cls⟩ F (.tup [.str "nothing", .str "bead", .str "left", .str "right", .str "pair", .str "row", .str "bag", .str "choice", .str "ring"]) (.ref q_KINDS)) ∧ ∀ H, tyV K "tuple" (.ref q_KINDS) H := ⟨PySem.W.mg_of X G ga_KINDS, top_tup gl_KINDS gr_KINDS, top_ty gl_KINDS gr_KINDS⟩
  have c_MANY_PARTS : mg "MANY_PARTS" = some (.ref q_MANY_PARTS) ∧ (∀ F, Rep ⟨K, cls⟩ F (.tup [.str "row", .str "bag", .str "choice", .str "ring"]) (.ref q_MANY_PARTS)) ∧ ∀ H, tyV K "tuple" (.ref q_MANY_PARTS) H := ⟨PySem.W.mg_of X G ga_MANY_PARTS, top_tup gl_MANY_PARTS gr_MANY_PARTS, top_ty gl_MANY_PARTS gr_MANY_PARTS⟩
  refine ⟨PySem.W.fnOf "law" "law" (defArgs s_law) (defBody s_law) (defScope s_law) .none kV_law dc_law pm_law an_law cd_law ct_law, fun s v => .of_eq rfl, fun base bI bN => ?_⟩
  have C_parts_of : Cal l.prog w K mg base "parts_of" ["figure"] 1 (spP ⟨K, cls⟩ m_parts_of) := ⟨_, _, ok_parts_of (P := l.prog) (w := w) (base := base) (cls := cls) F_parts_of Z c_MANY_PARTS, PySem.W.mg_of X G a_parts_of, F_parts_of.kp, b_parts_of⟩
  have C_with_parts : Cal l.prog w K mg base "with_parts" ["figure", "parts"] 1 (spP ⟨K, cls⟩ m_with_parts) := ⟨_, _, ok_with_parts (P := l.prog) (w := w) (base := base) (cls := cls) F_with_parts Z c_MANY_PARTS, PySem.W.mg_of X G a_with_parts, F_with_parts.kp, b_with_parts⟩
  have C_key_of := okF_key_of (P := l.prog) (w := w) (base := base) (cls := cls) F_key_of b_key_of (PySem.W.mg_of X G a_key_of) Z c_KINDS C_parts_of 60
  have C_first_turn : Cal l.prog w K mg base "first_turn" ["parts"] 62 (spP ⟨K, cls⟩ m_first_turn) := ⟨_, _, ok_first_turn (P := l.prog) (w := w) (base := base) (cls := cls) F_first_turn Z C_key_of, PySem.W.mg_of X G a_first_turn, F_first_turn.kp, b_first_turn⟩
  have C_plain := okF_plain (P := l.prog) (w := w) (base := base) (cls := cls) F_plain b_plain (PySem.W.mg_of X G a_plain) Z C_first_turn C_key_of C_parts_of C_with_parts 60
  have C__law_mix : Cal l.prog w K mg base "_law_mix" ["_law_script"] 1 (spL ⟨K, cls⟩ m__law_mix) := ⟨_, _, ok__law_mix (P := l.prog) (w := w) (base := base) (cls := cls) F__law_mix Z, PySem.W.mg_of X G a__law_mix, F__law_mix.kp, b__law_mix⟩
  have C__law_cell : Cal l.prog w K mg base "_law_cell" ["_law_script", "_law_k"] 1 (spP ⟨K, cls⟩ m__law_cell) := ⟨_, _, ok__law_cell (P := l.prog) (w := w) (base := base) (cls := cls) F__law_cell Z, PySem.W.mg_of X G a__law_cell, F__law_cell.kp, b__law_cell⟩
  have C__law_put : Cal l.prog w K mg base "_law_put" ["_law_stack", "_law_cell_here"] 1 (spM ⟨K, cls⟩ m__law_put) := ⟨_, _, ok__law_put (P := l.prog) (w := w) (base := base) (cls := cls) F__law_put Z, PySem.W.mg_of X G a__law_put, F__law_put.kp, b__law_put⟩
  have C__law_small : Cal l.prog w K mg base "_law_small" ["_law_cells", "_law_how"] 2 (spP ⟨K, cls⟩ m__law_small) := ⟨_, _, ok__law_small (P := l.prog) (w := w) (base := base) (cls := cls) F__law_small Z C__law_put, PySem.W.mg_of X G a__law_small, F__law_small.kp, b__law_small⟩
  have C__law_parts : Cal l.prog w K mg base "_law_parts" ["_law_figure"] 1 (spP ⟨K, cls⟩ m__law_parts) := ⟨_, _, ok__law_parts (P := l.prog) (w := w) (base := base) (cls := cls) F__law_parts Z, PySem.W.mg_of X G a__law_parts, F__law_parts.kp, b__law_parts⟩
  have C__law_with : Cal l.prog w K mg base "_law_with" ["_law_figure", "_law_parts_here"] 1 (spP ⟨K, cls⟩ m__law_with) := ⟨_, _, ok__law_with (P := l.prog) (w := w) (base := base) (cls := cls) F__law_with Z, PySem.W.mg_of X G a__law_with, F__law_with.kp, b__law_with⟩
  have C__law_stepped := okF__law_stepped (P := l.prog) (w := w) (base := base) (cls := cls) F__law_stepped b__law_stepped (PySem.W.mg_of X G a__law_stepped) Z C__law_parts C__law_with 60
  have C__law_reached : Cal l.prog w K mg base "_law_reached" ["_law_figure"] 62 (spL ⟨K, cls⟩ m__law_reached) := ⟨_, _, ok__law_reached (P := l.prog) (w := w) (base := base) (cls := cls) F__law_reached Z C__law_stepped, PySem.W.mg_of X G a__law_reached, F__law_reached.kp, b__law_reached⟩
  have C__law_other := okF__law_other (P := l.prog) (w := w) (base := base) (cls := cls) F__law_other b__law_other (PySem.W.mg_of X G a__law_other) Z C__law_parts C__law_with 60
  exact Ab.law_of (ok_law (P := l.prog) (w := w) (base := base) (cls := cls) F_law Z C__law_cell C__law_mix C__law_other C__law_reached C__law_small C_plain) goal
-- LEVEL 124
end
end W_k12
end
section
set_option maxRecDepth 100000
set_option maxHeartbeats 2000000
namespace W_k12
open PySem L2 PyProof.Rows PySem.Spec Ab
theorem mix_loop (s : Option A) : ∀ (ns : List Int) (k : Nat) (ms : List Int) (a b : Option A), k + ns.length ≤ 1000 → ms.length = k →
    ∃ (ms' : List Int) (y2 y3 : Option A), loopF (gT 2 (gsC (gN 2) (gsC (gN 3) gsN))) bl__law_mix_1 (enumL (k : Int) (ns.map .int)) [s, some (.own (.lst (ms.map .int))), a, b] = .nxt [s, some (.own (.lst (ms'.map .int))), y2, y3]
      ∧ ms'.length = k + ns.length
  | [], k, ms, a, b, _, hm => ⟨ms, a, b, rfl, by simpa using hm⟩
  | n :: ns, k, ms, a, b, hk, hm => by
    simp only [List.length_cons] at hk
    obtain ⟨gs, y2, y3, i1, i2⟩ := mix_loop s ns (k + 1) (ms ++ [(n % 1000000000000000000 * 48271 + 16807 * (k : Int)) % 2147483647 * 69621 % 2147483629]) (some (.dat (.int k))) (some (.dat (.int n))) (by omega) (by simp [hm])
    refine ⟨gs, y2, y3, ?_, by rw [i2]; simp; omega⟩
    have eb : bl__law_mix_1 [s, some (.own (.lst (ms.map .int))), some (.dat (.int k)), some (.dat (.int n))] = .nxt [s, some (.own (.lst ((ms ++ [(n % 1000000000000000000 * 48271 + 16807 * (k : Int)) % 2147483647 * 69621 % 2147483629]).map .int))), some (.dat (.int k)), some (.dat (.int n))] := by
      unfold bl__law_mix_1
      simp [CPow, CMul, putC, hm, show k < 100000 by omega]
    have hk' : ((k + 1 : Nat) : Int) = (k : Int) + 1 := by omega
    rw [hk'] at i1
    show loopF _ _ (.tup [.int k, .int n] :: enumL ((k : Int) + 1) (ns.map .int)) _ = _
    unfold loopF
    simp only [List.map_append, List.map_cons, List.map_nil] at eb i1
    simp [eb, i1]
theorem v_mix (ns : List Int) (hl : ns.length ≤ 63) : ∃ ms : List Int, m__law_mix [.lst (ns.map .int)] = some (ms.map .int) ∧ ms.length = ns.length := by
  obtain ⟨ms, y2, y3, h, h1⟩ := mix_loop (some (.dat (.lst (ns.map .int)))) ns 0 [] none none (by omega) rfl
  have hz : ((0 : Nat) : Int) = 0 := rfl
  rw [hz] at h
  cases ns with
  | nil => exact ⟨[], rfl, rfl⟩
  | cons n t =>
    by_cases hn : n % 2 = 1
    · refine ⟨n / 2 :: t, ?_, rfl⟩
      have : ∃ β, b__law_mix (inP 4 1 [.lst ((n :: t).map .int)]) = .ret (.lst ((n / 2 :: t).map .int)) β := by
        unfold b__law_mix inP
        have hl' : 1 + t.length ≤ 100000 := by simp at hl; omega
        have hp : (0 : Int) < (t.length : Int) + 1 := by omega
        simp [hn, CDiv, hl', hp]
      obtain ⟨β, e⟩ := this
      exact runL_lst rfl e
    · refine ⟨ms, ?_, by omega⟩
      have : ∃ β, b__law_mix (inP 4 1 [.lst ((n :: t).map .int)]) = .ret (.lst (ms.map .int)) β := by
        unfold b__law_mix inP
        have hp : (0 : Int) < (t.length : Int) + 1 := by omega
        simp only [List.map_nil, List.map_cons] at h
        simp [hn, hp, h]
      obtain ⟨β, e⟩ := this
      exact runL_lst rfl e
theorem v_cell (ns : List Int) (k : Int) (h0 : 0 ≤ k) : ∃ n, m__law_cell [.lst (ns.map .int), .int k] = some (.int n) := by
  by_cases h : k < (ns.length : Int)
  · obtain ⟨j, rfl⟩ : ∃ j : Nat, k = j := ⟨k.toNat, by omega⟩
    have e : atI (ns.map D.int) (j : Int) = some (.int (ns[j]'(by omega))) := by rw [atI_nat' (by simpa using h)]; simp
    have : ∃ β, b__law_cell (inP 2 2 [.lst (ns.map .int), .int j]) = .ret (.dat (.int (ns[j]'(by omega)))) β := by
      unfold b__law_cell inP
      simp [h, e]
    obtain ⟨β, e⟩ := this
    exact ⟨_, runP_dat rfl e⟩
  · have : ∃ β, b__law_cell (inP 2 2 [.lst (ns.map .int), .int k]) = .ret (.dat (.int 0)) β := by
      unfold b__law_cell inP
      simp [h]
    obtain ⟨β, e⟩ := this
    exact ⟨_, runP_dat rfl e⟩
theorem v_parts_of (f : Fig) : m_parts_of [enc f] = some (.tup (encs f.parts)) := by
  have h : ∃ β, b_parts_of (inP 1 1 [enc f]) = .ret (.dat (.tup (encs f.parts))) β := by
    unfold b_parts_of inP
    cases f with
    | many k ps => cases k <;> simp [enc, encs, Fig.parts, memD, flat, dv, inV, eqV, Mn.w]
    | _ => simp [enc, encs, Fig.parts, memD, flat, dv, inV, eqV]
  obtain ⟨β, h⟩ := h
  exact runP_dat rfl h
theorem v_law_parts (f : Fig) : m__law_parts [enc f] = some (.tup (encs f.parts)) := by
  have h : ∃ β, b__law_parts (inP 1 1 [enc f]) = .ret (.dat (.tup (encs f.parts))) β := by
    unfold b__law_parts inP
    cases f with
    | many k ps => cases k <;> simp [enc, encs, Fig.parts, memD, flat, dv, inV, eqV, Mn.w]
    | _ => simp [enc, encs, Fig.parts, memD, flat, dv, inV, eqV]
  obtain ⟨β, h⟩ := h
  exact runP_dat rfl h
end W_k12
end
section
set_option maxRecDepth 100000
set_option maxHeartbeats 2000000
namespace W_k12
open PySem L2 PyProof.Rows PySem.Spec Ab
mutual
def szF : Fig → Nat
  | .nothing => 0 | .bead _ => 1 | .left f => szF f | .right f => szF f | .pair f g => szF f + szF g | .many _ ps => szFs ps
def szFs : List Fig → Nat
  | [] => 0 | f :: fs => szF f + szFs fs
end
theorem szFs_sum : ∀ fs : List Fig, ((fs.map fun f => (szF f : Int)).sum) = (szFs fs : Int)
  | [] => rfl
  | f :: fs => by simp only [List.map_cons, List.sum_cons, szFs_sum fs, szFs]; omega
def mnIx : Mn → Int
  | .row => 5 | .bag => 6 | .choice => 7 | .ring => 8
mutual
def keyD : Fig → D
  | .nothing => .tup [.int 0, .int 0] | .bead c => .tup [.int 1, .int 1, .str c]
  | .left f => .tup [.int (szF f), .int 2, keyD f] | .right f => .tup [.int (szF f), .int 3, keyD f]
  | .pair f g => .tup [.int (szF f + szF g), .int 4, keyD f, keyD g]
  | .many k ps => .tup (.int (szFs ps) :: .int (mnIx k) :: kysD ps)
def kysD : List Fig → List D
  | [] => [] | f :: fs => keyD f :: kysD fs
end
theorem kysD_map : ∀ fs : List Fig, kysD fs = fs.map keyD
  | [] => rfl
  | f :: fs => by rw [kysD, kysD_map fs]; rfl
@[simp] theorem kysD_len (fs : List Fig) : (kysD fs).length = fs.length := by rw [kysD_map, List.length_map]
theorem key_head : ∀ f : Fig, ∃ r, keyD f = .tup (.int (szF f) :: r)
  | .nothing => ⟨_, rfl⟩ | .bead _ => ⟨_, rfl⟩ | .left _ => ⟨_, rfl⟩ | .right _ => ⟨_, rfl⟩ | .pair f g => ⟨_, by simp only [keyD, szF]; norm_cast⟩ | .many _ _ => ⟨_, rfl⟩
theorem v_key_of : ∀ (n : Nat) (f : Fig), hgt f ≤ n → Ab.cnt f ≤ 1000 → mF_key_of n [enc f] = some (keyD f)
  | 0, f, h, _ => by cases f <;> simp [hgt] at h
  | n + 1, f, h, hc => by
    have sub : ∀ g ∈ f.parts, mF_key_of n [enc g] = some (keyD g) := fun g m => by
      have h1 := hgt_parts m
      have h2 := cnts_mem m
      have h3 := cnt_parts f
      exact v_key_of n g (by omega) (by omega)
    have hp : f.parts.length ≤ 1000 := by have := cnts_len f.parts; have := cnt_parts f; omega
    have hp' : f.parts.length ≤ 100000 := by omega
    have hp2 : 2 + f.parts.length ≤ 100000 := by omega
    have go : lcF (gN 2) tbYes (xCall (mF_key_of n) (aCons (xVar 2) aNil)) (encs f.parts) [some (.dat (enc f)), none, none, none] = some (kysD f.parts) := by
      rw [encs_map, kysD_map]
      refine lcF_list fun g m => ⟨[some (.dat (enc f)), none, some (.dat (enc g)), none], rfl, ?_⟩
      simp [sub g m]
    have go2 : ∀ a : Option A, lcF (gN 3) tbYes (xIx (qT (xVar 3)) (xC (.int 0))) (kysD f.parts) [some (.dat (enc f)), a, none, none] = some ((f.parts.map fun g => (szF g : Int)).map .int) := fun a => by
      rw [kysD_map, List.map_map]
      refine lcF_list fun g m => ⟨[some (.dat (enc f)), a, none, some (.dat (keyD g))], rfl, ?_⟩
      obtain ⟨r, hr⟩ := key_head g
      rw [hr]
      simp
    have hs := szFs_sum f.parts
    have h : ∃ β, b_key_of (mF_key_of n) (inP 4 1 [enc f]) = .ret (.dat (keyD f)) β := by
      unfold b_key_of inP
      have vp := v_parts_of f
      cases f with
      | bead c => simp [enc, keyD]
      | many k ps =>
        simp only [Fig.parts] at go go2 hs vp hp' hp2
        cases k <;> (simp only [enc, Mn.w] at go go2 vp ⊢; simp [vp, go, go2, hp', hp2, hs, keyD, mnIx, dstrs, ixOf])
      | _ => (simp only [enc, Fig.parts] at go go2 hs vp ⊢; simp [enc, kysD] at go go2 vp; simp [vp, go, go2, keyD, dstrs, ixOf])
    obtain ⟨β, h⟩ := h
    exact runP_dat rfl h
end W_k12
end
section
set_option maxRecDepth 100000
set_option maxHeartbeats 2000000
namespace W_k12
open PySem L2 PyProof.Rows PySem.Spec Ab
mutual
def nst : D → Bool
  | .int _ => true | .str s => PyData.strOk s | .tup xs => nsts xs && decide (xs.length ≤ 100000) | _ => false
def nsts : List D → Bool
  | [] => true | d :: ds => nst d && nsts ds
end
mutual
def dh : D → Nat
  | .tup xs => dhs xs + 1 | _ => 1
def dhs : List D → Nat
  | [] => 0 | d :: ds => max (dh d) (dhs ds)
end
theorem nsts_mem : ∀ {ds : List D}, nsts ds = true → ∀ d ∈ ds, nst d = true
  | [], _, d, h => by cases h
  | x :: ds, h, d, m => by
    simp only [nsts, Bool.and_eq_true] at h
    rcases List.mem_cons.mp m with rfl | m
    · exact h.1
    · exact nsts_mem h.2 d m
theorem dhs_mem : ∀ {ds : List D}, ∀ d ∈ ds, dh d ≤ dhs ds
  | [], d, h => by cases h
  | x :: ds, d, m => by
    simp only [dhs]
    rcases List.mem_cons.mp m with rfl | m
    · omega
    · have := dhs_mem d m; omega
mutual
theorem noBl_enc : ∀ f : Fig, noBl (enc f) = true
  | .nothing => by simp [enc, noBl, noBls] | .bead c => by simp [enc, noBl, noBls]
  | .left f => by simp [enc, noBl, noBls, noBl_enc f] | .right f => by simp [enc, noBl, noBls, noBl_enc f]
  | .pair f g => by simp [enc, noBl, noBls, noBl_enc f, noBl_enc g] | .many k ps => by simp [enc, noBl, noBls, noBls_enc ps]
theorem noBls_enc : ∀ fs : List Fig, noBls (encs fs) = true
  | [] => rfl
  | f :: fs => by simp [encs, noBls, noBl_enc f, noBls_enc fs]
end
mutual
theorem noBl_key : ∀ f : Fig, noBl (keyD f) = true
  | .nothing => by simp [keyD, noBl, noBls] | .bead c => by simp [keyD, noBl, noBls]
  | .left f => by simp [keyD, noBl, noBls, noBl_key f] | .right f => by simp [keyD, noBl, noBls, noBl_key f]
  | .pair f g => by simp [keyD, noBl, noBls, noBl_key f, noBl_key g] | .many k ps => by simp [keyD, noBl, noBls, noBls_key ps]
theorem noBls_key : ∀ fs : List Fig, noBls (kysD fs) = true
  | [] => rfl
  | f :: fs => by simp [kysD, noBls, noBl_key f, noBls_key fs]
end
mutual
theorem nst_key : ∀ f : Fig, cok f = true → Ab.cnt f ≤ 1000 → nst (keyD f) = true
  | .nothing, _, _ => by simp [keyD, nst, nsts] | .bead c, h, _ => by simp only [cok] at h; simp [keyD, nst, nsts, h]
  | .left f, h, hc => by simp only [cok] at h; simp only [Ab.cnt] at hc; simp [keyD, nst, nsts, nst_key f h (by omega)]
  | .right f, h, hc => by simp only [cok] at h; simp only [Ab.cnt] at hc; simp [keyD, nst, nsts, nst_key f h (by omega)]
  | .pair f g, h, hc => by simp only [cok, Bool.and_eq_true] at h; simp only [Ab.cnt] at hc; simp [keyD, nst, nsts, nst_key f h.1 (by omega), nst_key g h.2 (by omega)]
  | .many k ps, h, hc => by
    simp only [cok] at h; simp only [Ab.cnt] at hc
    have := cnts_len ps
    simp [keyD, nst, nsts, nsts_key ps h (by omega)]
    omega
theorem nsts_key : ∀ fs : List Fig, coks fs = true → cnts fs ≤ 1000 → nsts (kysD fs) = true
  | [], _, _ => rfl
  | f :: fs, h, hc => by
    simp only [coks, Bool.and_eq_true] at h
    simp only [cnts] at hc
    simp [kysD, nsts, nst_key f h.1 (by omega), nsts_key fs h.2 (by omega)]
end
mutual
theorem dh_key : ∀ f : Fig, dh (keyD f) ≤ hgt f + 1
  | .nothing => by simp [keyD, dh, dhs, hgt] | .bead c => by simp [keyD, dh, dhs, hgt]
  | .left f => by have := dh_key f; simp only [keyD, dh, dhs, hgt]; omega
  | .right f => by have := dh_key f; simp only [keyD, dh, dhs, hgt]; omega
  | .pair f g => by have := dh_key f; have := dh_key g; simp only [keyD, dh, dhs, hgt]; omega
  | .many k ps => by have := dhs_key ps; simp only [keyD, dh, dhs, hgt]; omega
theorem dhs_key : ∀ fs : List Fig, dhs (kysD fs) ≤ hgts fs + 1
  | [] => by simp [kysD, dhs]
  | f :: fs => by have := dh_key f; have := dhs_key fs; simp only [kysD, dhs, hgts]; omega
end
mutual
theorem nst_plain : ∀ d : D, nst d = true → plainD d = true ∧ depD d ≤ dh d
  | .int _, _ => ⟨rfl, by simp [depD]⟩
  | .str s, h => ⟨h, by simp [depD]⟩
  | .tup xs, h => by
    simp only [nst, Bool.and_eq_true] at h
    have := nsts_plain xs h.1
    exact ⟨this.1, by simp only [depD, dh]; omega⟩
  | .non, h | .bl _, h | .lst _, h | .ins _ _, h | .ty _, h | .cls _, h => by simp [nst] at h
theorem nsts_plain : ∀ ds : List D, nsts ds = true → plainDs ds = true ∧ depDs ds ≤ dhs ds
  | [], _ => ⟨rfl, Nat.le_refl _⟩
  | d :: ds, h => by
    simp only [nsts, Bool.and_eq_true] at h
    have h1 := nst_plain d h.1
    have h2 := nsts_plain ds h.2
    exact ⟨by simp only [plainDs, h1.1, h2.1]; rfl, by simp only [depDs, dhs]; omega⟩
end
theorem mnw_inj : ∀ {a b : Mn}, a.w = b.w → a = b
  | .row, .row, _ | .bag, .bag, _ | .choice, .choice, _ | .ring, .ring, _ => rfl
  | .row, .bag, h | .row, .choice, h | .row, .ring, h | .bag, .row, h | .bag, .choice, h | .bag, .ring, h | .choice, .row, h | .choice, .bag, h | .choice, .ring, h | .ring, .row, h | .ring, .bag, h | .ring, .choice, h => by simp [Mn.w] at h
theorem mnix_inj : ∀ {a b : Mn}, mnIx a = mnIx b → a = b
  | .row, .row, _ | .bag, .bag, _ | .choice, .choice, _ | .ring, .ring, _ => rfl
  | .row, .bag, h | .row, .choice, h | .row, .ring, h | .bag, .row, h | .bag, .choice, h | .bag, .ring, h | .choice, .row, h | .choice, .bag, h | .choice, .ring, h | .ring, .row, h | .ring, .bag, h | .ring, .choice, h => by simp [mnIx] at h
theorem mnix_ge (a : Mn) : 5 ≤ mnIx a := by cases a <;> decide
mutual
theorem enc_inj : ∀ (f g : Fig), enc f = enc g → f = g
  | .nothing, g, h => by cases g <;> first | rfl | (simp [enc] at h; done) | (rename_i k _; cases k <;> simp [enc, Mn.w] at h)
  | .bead c, g, h => by cases g <;> first | (simp [enc] at h; done) | (simp [enc] at h; rw [h]) | (rename_i k _; cases k <;> simp [enc, Mn.w] at h)
  | .left f, g, h => by
    cases g with
    | left g => simp [enc] at h; rw [enc_inj f g h]
    | many k ps => cases k <;> simp [enc, Mn.w] at h
    | _ => simp [enc] at h
  | .right f, g, h => by
    cases g with
    | right g => simp [enc] at h; rw [enc_inj f g h]
    | many k ps => cases k <;> simp [enc, Mn.w] at h
    | _ => simp [enc] at h
  | .pair f f', g, h => by
    cases g with
    | pair g g' => simp [enc] at h; rw [enc_inj f g h.1, enc_inj f' g' h.2]
    | many k ps => cases k <;> simp [enc, Mn.w] at h
    | _ => simp [enc] at h
  | .many k ps, g, h => by
    cases g with
    | many k' qs =>
      simp only [enc, D.tup.injEq, List.cons.injEq, D.str.injEq] at h
      rw [mnw_inj h.1, encs_inj ps qs h.2.1]
    | _ => cases k <;> simp [enc, Mn.w] at h
theorem encs_inj : ∀ (fs gs : List Fig), encs fs = encs gs → fs = gs
  | [], [], _ => rfl
  | [], _ :: _, h => by simp [encs] at h
  | _ :: _, [], h => by simp [encs] at h
  | f :: fs, g :: gs, h => by
    simp only [encs, List.cons.injEq] at h
    rw [enc_inj f g h.1, encs_inj fs gs h.2]
end
mutual
theorem key_inj : ∀ (f g : Fig), keyD f = keyD g → f = g
  | .nothing, g, h => by cases g <;> first | rfl | (simp [keyD] at h; done) | (rename_i k _; cases k <;> simp [keyD, mnIx] at h)
  | .bead c, g, h => by cases g <;> first | (simp [keyD] at h; done) | (simp [keyD] at h; rw [h]) | (rename_i k _; cases k <;> simp [keyD, mnIx] at h)
  | .left f, g, h => by
    cases g with
    | left g => simp [keyD] at h; rw [key_inj f g h.2]
    | many k ps => cases k <;> simp [keyD, mnIx] at h
    | _ => simp [keyD] at h
  | .right f, g, h => by
    cases g with
    | right g => simp [keyD] at h; rw [key_inj f g h.2]
    | many k ps => cases k <;> simp [keyD, mnIx] at h
    | _ => simp [keyD] at h
  | .pair f f', g, h => by
    cases g with
    | pair g g' => simp [keyD] at h; rw [key_inj f g h.2.1, key_inj f' g' h.2.2]
    | many k ps => cases k <;> simp [keyD, mnIx] at h
    | _ => simp [keyD] at h
  | .many k ps, g, h => by
    cases g with
    | many k' qs =>
      simp only [keyD, D.tup.injEq, List.cons.injEq, D.int.injEq] at h
      rw [mnix_inj h.2.1, keys_inj ps qs h.2.2]
    | _ => cases k <;> simp [keyD, mnIx] at h
theorem keys_inj : ∀ (fs gs : List Fig), kysD fs = kysD gs → fs = gs
  | [], [], _ => rfl
  | [], _ :: _, h => by simp [kysD] at h
  | _ :: _, [], h => by simp [kysD] at h
  | f :: fs, g :: gs, h => by
    simp only [kysD, List.cons.injEq] at h
    rw [key_inj f g h.1, keys_inj fs gs h.2]
end
theorem eqQ_of {a b : D} (p : plainD a = true) (q : plainD b = true) (h : depD a ≤ 190) (na : noBl a = true) (nb : noBl b = true) {c : Bool} (hc : c = true ↔ a = b) : fEqQ a b = some (.bl c) := by
  unfold fEqQ
  rw [if_pos (by unfold eqOk; simp only [p, q, Bool.true_and, decide_eq_true_eq]; omega)]
  have : eqv a b = c := by
    unfold eqv
    rw [Bool.eq_iff_iff, hc]
    constructor
    · exact eqv_eq a b na nb
    · rintro rfl; exact eqv_refl a
  rw [this]
end W_k12
end
section
set_option maxRecDepth 100000
set_option maxHeartbeats 2000000
namespace W_k12
open PySem L2 PyProof.Rows PySem.Spec Ab
/-! ### the order of keys -/
theorem al_hd {a b i j : Int} {xs ys : List PyData} (h : i = j → alLs xs ys = true) : alL (.tuple (.int a :: .int i :: xs)) (.tuple (.int b :: .int j :: ys)) = true := by
  show (true && (!PyData.eqv (.int a) (.int b) || (true && (!PyData.eqv (.int i) (.int j) || alLs xs ys)))) = true
  by_cases hij : i = j
  · rw [h hij]; simp
  · have : PyData.eqv (.int i) (.int j) = false := by simp [PyData.eqv, hij]
    rw [this]; simp
theorem mnix_no {k : Mn} {i : Int} {P : Prop} (h : i < 5) (e : i = mnIx k) : P := absurd (mnix_ge k) (by omega)
theorem al_1 {x y : PyData} (h : alL x y = true) : alLs [x] [y] = true := by
  rw [alLs, h]; simp [alLs]
theorem al_2 {x y z w : PyData} (h : alL x y = true) (k : alL z w = true) : alLs [x, z] [y, w] = true := by
  rw [alLs, h, al_1 k]; simp
mutual
theorem al_key : ∀ f g : Fig, alD (keyD f) (keyD g) = true
  | .nothing, g => by
    unfold alD
    cases g <;> simp only [keyD, py, pys] <;> first | exact al_hd fun _ => rfl | exact al_hd fun e => absurd e (by decide) | exact al_hd fun e => mnix_no (by decide) e
  | .bead c, g => by
    unfold alD
    cases g <;> simp only [keyD, py, pys] <;> first | exact al_hd fun e => absurd e (by decide) | exact al_hd fun _ => al_1 rfl | exact al_hd fun e => mnix_no (by decide) e
  | .left f, g => by
    unfold alD
    cases g with
    | left g => simp only [keyD, py, pys]; exact al_hd fun _ => al_1 (al_key f g)
    | _ => simp only [keyD, py, pys]; first | exact al_hd fun e => absurd e (by decide) | exact al_hd fun e => mnix_no (by decide) e
  | .right f, g => by
    unfold alD
    cases g with
    | right g => simp only [keyD, py, pys]; exact al_hd fun _ => al_1 (al_key f g)
    | _ => simp only [keyD, py, pys]; first | exact al_hd fun e => absurd e (by decide) | exact al_hd fun e => mnix_no (by decide) e
  | .pair f f', g => by
    unfold alD
    cases g with
    | pair g g' => simp only [keyD, py, pys]; exact al_hd fun _ => al_2 (al_key f g) (al_key f' g')
    | _ => simp only [keyD, py, pys]; first | exact al_hd fun e => absurd e (by decide) | exact al_hd fun e => mnix_no (by decide) e
  | .many k ps, g => by
    unfold alD
    cases g with
    | many k' qs => simp only [keyD, py, pys]; exact al_hd fun _ => al_keys ps qs
    | _ => simp only [keyD, py, pys]; exact al_hd fun e => mnix_no (by decide) e.symm
theorem al_keys : ∀ fs gs : List Fig, alLs (pys (kysD fs)) (pys (kysD gs)) = true
  | [], gs => by simp only [kysD, pys]; cases gs <;> rfl
  | f :: fs, [] => by simp only [kysD, pys, alLs]
  | f :: fs, g :: gs => by
    have h1 := al_key f g
    have h2 := al_keys fs gs
    unfold alD at h1
    simp only [kysD, pys, alLs, h1, h2]; simp
end
/-- what a key weighs, place by place -/
def kt (f : Fig) : List (Int ⊕ List Nat) := PySem.W.keyToks (py (keyD f))
def ktl (fs : List Fig) : List (Int ⊕ List Nat) := PySem.W.keyToksAll (pys (kysD fs))
theorem lex_grow (x : List (Int ⊕ List Nat)) : PyProof.Rows.lexLt PyProof.Rows.itemOrd (x ++ []) (x ++ [.inl 0]) = true := by
  rw [PySem.W.lex_pre]; rfl
theorem kt_inj {f g : Fig} (h : kt f = kt g) : f = g := by
  have ha := al_key f g
  unfold alD at ha
  cases he : PyData.eqv (py (keyD f)) (py (keyD g)) with
  | true => exact key_inj f g (eqv_eq _ _ (noBl_key f) (noBl_key g) he)
  | false =>
    have := (tokL _ _ ha).2 he [] [.inl 0]
    unfold kt at h
    rw [h, lex_grow, PyProof.Rows.lex_irrefl] at this
    cases this
theorem pys_eqv : ∀ fs gs : List Fig, PyData.eqvAll (pys (kysD fs)) (pys (kysD gs)) = true → fs = gs := fun fs gs h =>
  keys_inj fs gs (by
    have := eqv_eq (.tup (kysD fs)) (.tup (kysD gs)) (noBls_key fs) (noBls_key gs) h
    exact (D.tup.inj this))
theorem ktl_inj {fs gs : List Fig} (h : ktl fs = ktl gs) : fs = gs := by
  cases he : PyData.eqvAll (pys (kysD fs)) (pys (kysD gs)) with
  | true => exact pys_eqv fs gs he
  | false =>
    have := (toksL _ _ (al_keys fs gs)).2 he [] [.inl 0]
    unfold ktl at h
    rw [h, lex_grow, PyProof.Rows.lex_irrefl] at this
    cases this
/-! ### the figures of a bag, sorted -/
def lt1 (f g : Fig) : Bool := PyProof.Rows.lexLt PyProof.Rows.itemOrd (kt f) (kt g)
def lt2 (f g : List Fig) : Bool := PyProof.Rows.lexLt PyProof.Rows.itemOrd (ktl f) (ktl g)
theorem ltD_key (f g : Fig) : ltD (keyD f) (keyD g) = lt1 f g := rfl
theorem ltD_keys (f g : List Fig) : ltD (.lst (kysD f)) (.lst (kysD g)) = lt2 f g := rfl
def leF (f g : Fig) : Bool := !lt1 f g
theorem leF_trans (a b c : Fig) (h1 : leF a b = true) (h2 : leF b c = true) : leF a c = true := by
  unfold leF lt1 at *
  rw [Bool.not_eq_true'] at *
  cases h : PyProof.Rows.lexLt PyProof.Rows.itemOrd (kt a) (kt c) with
  | false => rfl
  | true =>
    rcases PyProof.Rows.lex_negTrans (O := PyProof.Rows.itemOrd) (kt a) (kt b) (kt c) h with z | z
    · rw [h1] at z; cases z
    · rw [h2] at z; cases z
theorem leF_total (a b : Fig) : (leF a b || leF b a) = true := by
  unfold leF lt1
  cases h : PyProof.Rows.lexLt PyProof.Rows.itemOrd (kt a) (kt b) with
  | false => rfl
  | true =>
    cases h2 : PyProof.Rows.lexLt PyProof.Rows.itemOrd (kt b) (kt a) with
    | false => rfl
    | true =>
      have := PyProof.Rows.lex_trans (O := PyProof.Rows.itemOrd) _ _ _ h h2
      rw [PyProof.Rows.lex_irrefl] at this; cases this
theorem leF_anti (a b : Fig) (h1 : leF a b = true) (h2 : leF b a = true) : a = b := by
  unfold leF lt1 at *
  rw [Bool.not_eq_true'] at *
  exact kt_inj (PyProof.Rows.lex_total (O := PyProof.Rows.itemOrd) _ _ h1 h2)
def sortF (fs : List Fig) : List Fig := fs.mergeSort leF
theorem sortF_perm (fs : List Fig) : (sortF fs).Perm fs := List.mergeSort_perm fs leF
theorem sortF_same {fs gs : List Fig} (h : fs.Perm gs) : sortF fs = sortF gs :=
  List.Perm.eq_of_pairwise (le := fun a b => leF a b = true) (fun a b _ _ => leF_anti a b) (List.pairwise_mergeSort leF_trans leF_total fs) (List.pairwise_mergeSort leF_trans leF_total gs) ((sortF_perm fs).trans (h.trans (sortF_perm gs).symm))
theorem sortF_sortF (fs : List Fig) : sortF (sortF fs) = sortF fs := sortF_same (sortF_perm fs)
/-! ### a ring, turned -/
def rot (k : Nat) (fs : List Fig) : List Fig := fs.drop k ++ fs.take k
/-- the place of the first least turn among the turns 0 .. j -/
def bestF (fs : List Fig) : Nat → Nat
  | 0 => 0
  | j + 1 => if lt2 (rot (j + 1) fs) (rot (bestF fs j) fs) = true then j + 1 else bestF fs j
theorem bestF_le (fs : List Fig) : ∀ j, bestF fs j ≤ j
  | 0 => Nat.le_refl _
  | j + 1 => by unfold bestF; have := bestF_le fs j; split <;> omega
theorem bestF_least (fs : List Fig) : ∀ j k, k ≤ j → lt2 (rot k fs) (rot (bestF fs j) fs) = false
  | 0, k, h => by
    have : k = 0 := by omega
    subst this
    exact PyProof.Rows.lex_irrefl _
  | j + 1, k, h => by
    unfold bestF
    by_cases hl : lt2 (rot (j + 1) fs) (rot (bestF fs j) fs) = true
    · rw [if_pos hl]
      by_cases hk : k = j + 1
      · subst hk; exact PyProof.Rows.lex_irrefl _
      · have := bestF_least fs j k (by omega)
        cases hz : lt2 (rot k fs) (rot (j + 1) fs) with
        | false => rfl
        | true =>
          have := PyProof.Rows.lex_trans (O := PyProof.Rows.itemOrd) _ _ _ hz hl
          have h2 := bestF_least fs j k (by omega)
          unfold lt2 at h2
          rw [this] at h2; cases h2
    · rw [if_neg hl]
      by_cases hk : k = j + 1
      · subst hk; simpa using hl
      · exact bestF_least fs j k (by omega)
def ringF (fs : List Fig) : List Fig := rot (bestF fs (fs.length - 1)) fs
theorem rot_perm (k : Nat) (fs : List Fig) : (rot k fs).Perm fs := by
  unfold rot
  exact (List.perm_append_comm).trans (by rw [List.take_append_drop])
theorem ringF_perm (fs : List Fig) : (ringF fs).Perm fs := rot_perm _ _
theorem rot_rot (j k : Nat) (fs : List Fig) (hj : j ≤ fs.length - 1) (hk : k ≤ fs.length) : ∃ m, (m < fs.length ∨ fs = []) ∧ rot j (rot k fs) = rot m fs := by
  unfold rot
  by_cases h0 : fs = []
  · subst h0; exact ⟨0, .inr rfl, by simp⟩
  have hp : 0 < fs.length := List.length_pos_iff.mpr h0
  by_cases h : j ≤ fs.length - k
  · by_cases he : k + j = fs.length
    · refine ⟨0, .inl hp, ?_⟩
      have h1 : (fs.drop k).length = j := by simp; omega
      rw [List.drop_append_of_le_length (by omega), List.take_append_of_le_length (by omega), ← h1, List.drop_length, List.take_length]
      simp
    · refine ⟨k + j, .inl (by omega), ?_⟩
      rw [List.drop_append_of_le_length (by simp; omega), List.take_append_of_le_length (by simp; omega), List.drop_drop, List.append_assoc]
      congr 1
      have : fs.take (k + j) = fs.take k ++ (fs.drop k).take j := by rw [List.take_add]
      rw [this]
  · refine ⟨k + j - fs.length, .inl (by omega), ?_⟩
    have h1 : (fs.drop k).length ≤ j := by rw [List.length_drop]; omega
    have h2 : j - (fs.drop k).length = k + j - fs.length := by rw [List.length_drop]; omega
    rw [List.drop_append, List.take_append, List.drop_of_length_le h1, List.take_of_length_le h1, h2, List.nil_append]
    have e : fs.drop (k + j - fs.length) = (fs.take k).drop (k + j - fs.length) ++ fs.drop k := by
      have a : fs.drop (k + j - fs.length) = (fs.take k ++ fs.drop k).drop (k + j - fs.length) := by rw [List.take_append_drop]
      rw [a, List.drop_append_of_le_length (by rw [List.length_take]; omega)]
    have e2 : (fs.take k).take (k + j - fs.length) = fs.take (k + j - fs.length) := by
      rw [List.take_take]; congr 1; omega
    rw [e, e2, List.append_assoc]
theorem rot_zero (fs : List Fig) : rot 0 fs = fs := by simp [rot]
theorem rot_back (k : Nat) (fs : List Fig) (hk : k ≤ fs.length) : rot (fs.length - k) (rot k fs) = fs := by
  unfold rot
  have h1 : (fs.drop k).length = fs.length - k := by simp
  rw [List.drop_append_of_le_length (by omega), List.take_append_of_le_length (by omega), ← h1, List.drop_length, List.take_length, List.nil_append, List.take_append_drop]
theorem ringF_rot (k : Nat) (fs : List Fig) (hk : k ≤ fs.length) : ringF (rot k fs) = ringF fs := by
  by_cases h0 : fs = []
  · subst h0; simp [rot]
  have hp : 0 < fs.length := List.length_pos_iff.mpr h0
  have hl : (rot k fs).length = fs.length := (rot_perm k fs).length_eq
  unfold ringF
  rw [hl]
  have b1 := bestF_le fs (fs.length - 1)
  have b2 := bestF_le (rot k fs) (fs.length - 1)
  -- the least of the one is a turn of the other
  obtain ⟨m, hm, e1⟩ := rot_rot (bestF (rot k fs) (fs.length - 1)) k fs (by omega) hk
  have hm : m < fs.length := hm.resolve_right h0
  obtain ⟨m2, hm2, e2⟩ := rot_rot (bestF fs (fs.length - 1)) (fs.length - k) (rot k fs) (by omega) (by rw [hl]; omega)
  have hm2 : m2 < fs.length := by
    rcases hm2 with z | z
    · rw [hl] at z; exact z
    · rw [z] at hl; simp at hl; omega
  rw [rot_back k fs hk] at e2
  have l1 := bestF_least fs (fs.length - 1) m (by omega)
  have l2 := bestF_least (rot k fs) (fs.length - 1) m2 (by omega)
  rw [← e1] at l1
  rw [← e2] at l2
  exact ktl_inj (PyProof.Rows.lex_total (O := PyProof.Rows.itemOrd) _ _ l1 l2)
theorem ringF_ringF (fs : List Fig) : ringF (ringF fs) = ringF fs := by
  have := bestF_le fs (fs.length - 1)
  exact ringF_rot _ fs (by omega)
end W_k12
end
section
set_option maxRecDepth 100000
set_option maxHeartbeats 2000000
namespace W_k12
open PySem L2 PyProof.Rows PySem.Spec Ab
/-! ### steps -/
def withP : Fig → List Fig → Fig
  | .left _, [g] => .left g | .right _, [g] => .right g | .pair _ _, [g, h] => .pair g h | .many k _, ps => .many k ps | f, _ => f
def isMany : Fig → Bool
  | .many _ _ => true | _ => false
theorem withP_parts {f : Fig} {ps : List Fig} (h : ps.length = f.parts.length) : (withP f ps).parts = ps ∨ f.parts = [] := by
  cases f with
  | nothing => exact .inr rfl
  | bead c => exact .inr rfl
  | left g => match ps, h with | [x], _ => exact .inl rfl
  | right g => match ps, h with | [x], _ => exact .inl rfl
  | pair a b => match ps, h with | [x, y], _ => exact .inl rfl
  | many k qs => exact .inl rfl
theorem hgt_P (f : Fig) : hgt f = hgts f.parts + 1 := by cases f <;> simp [hgt, hgts, Fig.parts]
theorem cok_P {f : Fig} {ps : List Fig} (h : ps.length = f.parts.length) (hf : cok f = true) (hp : coks ps = true) : cok (withP f ps) = true := by
  cases f with
  | nothing => exact hf
  | bead c => exact hf
  | left g => match ps, h with | [x], _ => simpa [coks, cok, withP] using hp
  | right g => match ps, h with | [x], _ => simpa [coks, cok, withP] using hp
  | pair a b => match ps, h with | [x, y], _ => simpa [coks, cok, withP] using hp
  | many k qs => exact hp
theorem v_with_parts (f : Fig) (ps : List Fig) (h : ps.length = f.parts.length) (hl : ps.length ≤ 1000) : m_with_parts [enc f, .lst (encs ps)] = some (enc (withP f ps)) := by
  have fin : (∃ β, b_with_parts (inP 2 2 [enc f, .lst (encs ps)]) = .ret (.dat (enc (withP f ps))) β) → m_with_parts [enc f, .lst (encs ps)] = some (enc (withP f ps)) := fun ⟨β, e⟩ => runP_dat rfl e
  apply fin
  cases f with
  | nothing => match ps, h with | [], _ => unfold b_with_parts inP; simp [enc, encs, withP, memD, flat, dv, inV, eqV]
  | bead c => unfold b_with_parts inP; simp [enc, withP]
  | left g => match ps, h with | [x], _ => unfold b_with_parts inP; simp [enc, encs, withP, memD, flat, dv, inV, eqV]
  | right g => match ps, h with | [x], _ => unfold b_with_parts inP; simp [enc, encs, withP, memD, flat, dv, inV, eqV]
  | pair a b => match ps, h with | [x, y], _ => unfold b_with_parts inP; simp [enc, encs, withP, memD, flat, dv, inV, eqV]
  | many k qs => unfold b_with_parts inP; cases k <;> simp [enc, withP, Mn.w, memD, flat, dv, inV, eqV]
def wd (tn : Bool) : Str := if tn then "turn" else "swap"
def rotF (ps : List Fig) (a : Int) : Option (List Fig) := if 0 ≤ a ∧ a < (ps.length : Int) then some (ps.drop a.toNat ++ ps.take a.toNat) else none
/-- two neighbours change places -/
def swpF (ps : List Fig) (a : Int) : Option (List Fig) := if 0 ≤ a then (match ps[a.toNat + 1]?, ps[a.toNat]? with | some x, some y => some (ps.take a.toNat ++ ([x, y] ++ ps.drop (a.toNat + 2))) | _, _ => none) else none
def topF (f : Fig) (tn : Bool) (a : Int) : Option Fig := match f, tn with
  | .many .ring ps, true => (rotF ps a).map (.many .ring)
  | .many .bag ps, false => (swpF ps a).map (.many .bag)
  | .many .choice ps, false => (swpF ps a).map (.many .choice)
  | _, _ => none
theorem rotF_in {ps : List Fig} {n : Nat} (h : n < ps.length) : rotF ps (n : Int) = some (ps.drop n ++ ps.take n) := by
  unfold rotF; rw [if_pos ⟨by omega, by omega⟩]; rfl
theorem rotF_out {ps : List Fig} {a : Int} (h : ¬ (0 ≤ a ∧ a < (ps.length : Int))) : rotF ps a = none := by
  unfold rotF; rw [if_neg h]
theorem swpF_in {ps : List Fig} {n : Nat} {x y : Fig} (h1 : ps[n + 1]? = some x) (h2 : ps[n]? = some y) : swpF ps (n : Int) = some (ps.take n ++ ([x, y] ++ ps.drop (n + 2))) := by
  unfold swpF; rw [if_pos (by omega)]
  show (match ps[n + 1]?, ps[n]? with | some x, some y => some (ps.take n ++ ([x, y] ++ ps.drop (n + 2))) | _, _ => none) = _
  rw [h1, h2]
theorem swpF_out {ps : List Fig} {a : Int} (h : ¬ (0 ≤ a ∧ a < (ps.length : Int) - 1)) : swpF ps a = none := by
  unfold swpF
  by_cases h0 : 0 ≤ a
  · rw [if_pos h0, List.getElem?_eq_none (by omega)]
  · rw [if_neg h0]
def doF : Fig → Bool → List Int → Int → Option Fig
  | f, tn, [], a => topF f tn a
  | f, tn, k :: ks, a => if h : 0 ≤ k ∧ k < (f.parts.length : Int) then (doF (f.parts[k.toNat]'(by omega)) tn ks a).map fun g => withP f (f.parts.set k.toNat g) else none
def putF : Fig → List Int → Fig → Fig
  | _, [], h => h
  | f, k :: ks, g => if h : 0 ≤ k ∧ k < (f.parts.length : Int) then withP f (f.parts.set k.toNat (putF (f.parts[k.toNat]'(by omega)) ks g)) else f
theorem doF_put : ∀ (path : List Int) (f : Fig) (tn : Bool) (a : Int), doF f tn path a = match f.at_ path with | none => none | some g => (topF g tn a).map (putF f path)
  | [], f, tn, a => by
    show topF f tn a = (topF f tn a).map fun h => h
    cases topF f tn a <;> rfl
  | k :: ks, f, tn, a => by
    unfold doF
    rw [at_cons]
    by_cases h : 0 ≤ k ∧ k < (f.parts.length : Int)
    · rw [dif_pos h, dif_pos h, doF_put ks]
      cases Fig.at_ (f.parts[k.toNat]'(by omega)) ks with
      | none => rfl
      | some g =>
        dsimp only
        cases topF g tn a with
        | none => rfl
        | some g2 => simp only [Option.map_some, putF, dif_pos h]
    · rw [dif_neg h, dif_neg h]
def encO : Option Fig → D
  | none => .non | some f => enc f
end W_k12
end
section
set_option maxRecDepth 100000
set_option maxHeartbeats 2000000
namespace W_k12
open PySem L2 PyProof.Rows PySem.Spec Ab
/-! ### the plain form of a figure -/
def arr : Mn → List Fig → List Fig
  | .row => fun fs => fs | .bag => sortF | .choice => sortF | .ring => ringF
mutual
def plF : Fig → Fig
  | .nothing => .nothing | .bead c => .bead c | .left f => .left (plF f) | .right f => .right (plF f)
  | .pair f g => .pair (plF f) (plF g) | .many k ps => .many k (arr k (plFs ps))
def plFs : List Fig → List Fig
  | [] => [] | f :: fs => plF f :: plFs fs
end
theorem plFs_map : ∀ fs : List Fig, plFs fs = fs.map plF
  | [] => rfl
  | f :: fs => by rw [plFs, plFs_map fs]; rfl
theorem arr_perm (k : Mn) (fs : List Fig) : (arr k fs).Perm fs := by
  cases k with
  | row => exact List.Perm.refl _
  | bag => exact sortF_perm fs
  | choice => exact sortF_perm fs
  | ring => exact ringF_perm fs
theorem arr_arr (k : Mn) (fs : List Fig) : arr k (arr k fs) = arr k fs := by
  cases k with
  | row => rfl
  | bag => exact sortF_sortF fs
  | choice => exact sortF_sortF fs
  | ring => exact ringF_ringF fs
/-- what no turning and no sorting changes -/
structure Kp (f g : Fig) : Prop where
  h : hgt g = hgt f
  n : Ab.cnt g = Ab.cnt f
  c : cok g = cok f
  z : szF g = szF f
structure Kps (fs gs : List Fig) : Prop where
  h : hgts gs = hgts fs
  n : cnts gs = cnts fs
  c : coks gs = coks fs
  z : szFs gs = szFs fs
  l : gs.length = fs.length
theorem Kps.trans {fs gs hs : List Fig} (a : Kps fs gs) (b : Kps gs hs) : Kps fs hs := ⟨b.h.trans a.h, b.n.trans a.n, b.c.trans a.c, b.z.trans a.z, b.l.trans a.l⟩
theorem kps_perm {fs gs : List Fig} (p : gs.Perm fs) : Kps fs gs := by
  induction p with
  | nil => exact ⟨rfl, rfl, rfl, rfl, rfl⟩
  | cons x _ ih => exact ⟨by simp only [hgts, ih.h], by simp only [cnts, ih.n], by simp only [coks, ih.c], by simp only [szFs, ih.z], by simp only [List.length_cons, ih.l]⟩
  | swap x y l => exact ⟨by simp only [hgts]; omega, by simp only [cnts]; omega, by simp only [coks]; cases cok x <;> cases cok y <;> rfl, by simp only [szFs]; omega, rfl⟩
  | trans _ _ a b => exact b.trans a
theorem Kp.many {fs gs : List Fig} (k : Mn) (h : Kps fs gs) : Kp (.many k fs) (.many k gs) := ⟨by simp only [hgt, h.h], by simp only [Ab.cnt, h.n], by simp only [cok, h.c], by simp only [szF, h.z]⟩
mutual
theorem pl_kp : ∀ f : Fig, Kp f (plF f)
  | .nothing => ⟨rfl, rfl, rfl, rfl⟩
  | .bead _ => ⟨rfl, rfl, rfl, rfl⟩
  | .left f => by have h := pl_kp f; exact ⟨by simp only [plF, hgt, h.h], by simp only [plF, Ab.cnt, h.n], by simp only [plF, cok, h.c], by simp only [plF, szF, h.z]⟩
  | .right f => by have h := pl_kp f; exact ⟨by simp only [plF, hgt, h.h], by simp only [plF, Ab.cnt, h.n], by simp only [plF, cok, h.c], by simp only [plF, szF, h.z]⟩
  | .pair f g => by have h := pl_kp f; have h2 := pl_kp g; exact ⟨by simp only [plF, hgt, h.h, h2.h], by simp only [plF, Ab.cnt, h.n, h2.n], by simp only [plF, cok, h.c, h2.c], by simp only [plF, szF, h.z, h2.z]⟩
  | .many k ps => by rw [plF]; exact Kp.many k ((pls_kp ps).trans (kps_perm (arr_perm k _)))
theorem pls_kp : ∀ fs : List Fig, Kps fs (plFs fs)
  | [] => ⟨rfl, rfl, rfl, rfl, rfl⟩
  | f :: fs => by have h := pl_kp f; have h2 := pls_kp fs; exact ⟨by simp only [plFs, hgts, h.h, h2.h], by simp only [plFs, cnts, h.n, h2.n], by simp only [plFs, coks, h.c, h2.c], by simp only [plFs, szFs, h.z, h2.z], by simp only [plFs, List.length_cons, h2.l]⟩
end
mutual
theorem pl_pl : ∀ f : Fig, plF (plF f) = plF f
  | .nothing => rfl
  | .bead _ => rfl
  | .left f => by simp only [plF, pl_pl f]
  | .right f => by simp only [plF, pl_pl f]
  | .pair f g => by simp only [plF, pl_pl f, pl_pl g]
  | .many k ps => by
    have h := pls_pl ps
    simp only [plF]
    have e : plFs (arr k (plFs ps)) = arr k (plFs ps) := by
      rw [plFs_map (arr k (plFs ps))]
      conv => rhs; rw [← List.map_id (arr k (plFs ps))]
      exact List.map_congr_left fun g m => h g ((arr_perm k _).mem_iff.mp m)
    rw [e, arr_arr]
theorem pls_pl : ∀ fs : List Fig, ∀ g ∈ plFs fs, plF g = g
  | [], g, m => by cases m
  | f :: fs, g, m => by
    rcases List.mem_cons.mp m with e | m
    · rw [e]; exact pl_pl f
    · exact pls_pl fs g m
end
/-! ### what is shaken -/
structure Al (f g : Fig) : Prop extends Kp f g where
  p : plF g = plF f
structure Als (fs gs : List Fig) : Prop extends Kps fs gs where
  p : plFs gs = plFs fs
theorem Al.refl (f : Fig) : Al f f := ⟨⟨rfl, rfl, rfl, rfl⟩, rfl⟩
theorem Als.nil : Als [] [] := ⟨⟨rfl, rfl, rfl, rfl, rfl⟩, rfl⟩
theorem Als.cons {f g : Fig} {fs gs : List Fig} (a : Al f g) (b : Als fs gs) : Als (f :: fs) (g :: gs) :=
  ⟨⟨by simp only [hgts, a.h, b.h], by simp only [cnts, a.n, b.n], by simp only [coks, a.c, b.c], by simp only [szFs, a.z, b.z], by simp only [List.length_cons, b.l]⟩, by simp only [plFs, a.p, b.p]⟩
/-- hs is gs, shaken as the kind allows -/
def Shk (k : Mn) (gs hs : List Fig) : Prop := match k with
  | .row => hs = gs
  | .bag => hs.Perm gs
  | .choice => hs.Perm gs
  | .ring => ∃ m, m ≤ gs.length ∧ hs = rot m gs
theorem Shk.perm {k : Mn} {gs hs : List Fig} (s : Shk k gs hs) : hs.Perm gs := by
  cases k with
  | row => rw [show hs = gs from s]
  | bag => exact s
  | choice => exact s
  | ring => obtain ⟨m, _, rfl⟩ := s; exact rot_perm m gs
theorem Shk.refl (k : Mn) (gs : List Fig) : Shk k gs gs := by
  cases k with
  | row => rfl
  | bag => exact List.Perm.refl _
  | choice => exact List.Perm.refl _
  | ring => exact ⟨0, Nat.zero_le _, (rot_zero gs).symm⟩
theorem map_rot (m : Nat) (gs : List Fig) : (rot m gs).map plF = rot m (gs.map plF) := by
  unfold rot; rw [List.map_append, List.map_drop, List.map_take]
theorem Shk.al {k : Mn} {fs gs hs : List Fig} (a : Als fs gs) (s : Shk k gs hs) : Al (.many k fs) (.many k hs) := by
  refine ⟨Kp.many k (a.toKps.trans (kps_perm s.perm)), ?_⟩
  have e : arr k (plFs hs) = arr k (plFs gs) := by
    cases k with
    | row => rw [show hs = gs from s]
    | bag => rw [plFs_map, plFs_map]; exact sortF_same (List.Perm.map plF s)
    | choice => rw [plFs_map, plFs_map]; exact sortF_same (List.Perm.map plF s)
    | ring =>
      obtain ⟨m, hm, rfl⟩ := s
      rw [plFs_map, plFs_map, map_rot]
      exact ringF_rot m _ (by rw [List.length_map]; exact hm)
  simp only [plF]
  rw [e, a.p]
end W_k12
end
section
set_option maxRecDepth 100000
set_option maxHeartbeats 2000000
namespace W_k12
open PySem L2 PyProof.Rows PySem.Spec Ab
/-! ### what the program makes of a figure -/
structure Gd (f : Fig) : Prop where
  c : cok f = true
  h : hgt f ≤ 60
  n : Ab.cnt f ≤ 1000
def Gds (fs : List Fig) : Prop := ∀ f ∈ fs, Gd f
theorem Gd.parts {f g : Fig} (a : Gd f) (m : g ∈ f.parts) : Gd g := by
  have h1 := hgt_parts m
  have h2 := cnts_mem m
  have h3 := cnt_parts f
  have h4 := a.h
  have h5 := a.n
  refine ⟨?_, by omega, by omega⟩
  have := a.c
  cases f with
  | nothing => cases m
  | bead c => cases m
  | left f => simp [Fig.parts] at m; subst m; exact this
  | right f => simp [Fig.parts] at m; subst m; exact this
  | pair a b =>
    simp only [cok, Bool.and_eq_true] at this
    simp [Fig.parts] at m
    rcases m with rfl | rfl
    · exact this.1
    · exact this.2
  | many k ps => exact coks_iff.mp this g m
theorem Gd.kp {f g : Fig} (a : Gd f) (k : Kp f g) : Gd g := ⟨k.c.trans a.c, by rw [k.h]; exact a.h, by rw [k.n]; exact a.n⟩
theorem Gd.pl {f : Fig} (a : Gd f) : Gd (plF f) := a.kp (pl_kp f)
theorem Gds.pls {fs : List Fig} (a : Gds fs) : Gds (plFs fs) := fun g m => by
  rw [plFs_map] at m
  obtain ⟨f, mf, rfl⟩ := List.mem_map.mp m
  exact (a f mf).pl
theorem Gds.perm {fs gs : List Fig} (a : Gds fs) (p : gs.Perm fs) : Gds gs := fun g m => a g (p.mem_iff.mp m)
theorem key_ok {f : Fig} (a : Gd f) : keyOk (keyD f) = true ∧ headI (keyD f) = true := by
  have h1 := nst_plain _ (nst_key f a.c a.n)
  have h2 := dh_key f
  have h3 := a.h
  refine ⟨keyOk_iff.mpr ⟨h1.1, by omega⟩, ?_⟩
  obtain ⟨r, hr⟩ := key_head f
  rw [hr]; rfl
theorem keysOk_kys {fs : List Fig} (a : Gds fs) : keysOk (kysD fs) = true := by
  unfold keysOk
  rw [kysD_map, Bool.and_eq_true, List.all_eq_true, List.all_eq_true]
  refine ⟨fun x m => ?_, fun x m => ?_⟩
  · obtain ⟨f, mf, rfl⟩ := List.mem_map.mp m
    have := key_ok (a f mf)
    rw [this.1, this.2]; rfl
  · obtain ⟨f, mf, rfl⟩ := List.mem_map.mp m
    rw [List.all_eq_true]
    intro y my
    obtain ⟨g, mg, rfl⟩ := List.mem_map.mp my
    exact al_key f g
theorem run_keys {m : List D → Option D} : ∀ {fs : List Fig}, (∀ f ∈ fs, m [enc f] = some (keyD f)) → Ab.keysD m (encs fs) = some (kysD fs)
  | [], _ => rfl
  | f :: fs, h => by
    rw [encs, Ab.keysD, h f List.mem_cons_self, run_keys fun g mg => h g (List.mem_cons_of_mem _ mg)]
    rfl
theorem sortD_encs (fs : List Fig) : sortD true (encs fs) (kysD fs) = encs (sortF fs) := by
  unfold sortD sortF
  have e : (encs fs).zip (pys (kysD fs)) = fs.map fun f => (enc f, py (keyD f)) := by
    rw [encs_map, pys_map, kysD_map, List.map_map, List.zip_map']
    rfl
  have q := List.map_mergeSort (l := fs) (r := leF) (s := PySem.W.dataLe true Prod.snd) (f := fun f => (enc f, py (keyD f))) (fun a _ b _ => rfl)
  rw [e, ← q, List.map_map, encs_map]
  rfl
theorem kys_rot (k : Nat) (fs : List Fig) : (kysD fs).drop k ++ (kysD fs).take k = kysD (rot k fs) := by
  rw [kysD_map, kysD_map]; unfold rot; rw [List.map_append, List.map_drop, List.map_take]
theorem encs_rot (k : Nat) (fs : List Fig) : (encs fs).drop k ++ (encs fs).take k = encs (rot k fs) := by
  rw [encs_map, encs_map]; unfold rot; rw [List.map_append, List.map_drop, List.map_take]
theorem plains_kys {fs : List Fig} (a : Gds fs) : plainDs (kysD fs) = true ∧ depDs (kysD fs) ≤ 100 := by
  induction fs with
  | nil => exact ⟨rfl, Nat.zero_le _⟩
  | cons f fs ih =>
    have g := a f List.mem_cons_self
    have h1 := nst_plain _ (nst_key f g.c g.n)
    have h2 := dh_key f
    have h3 := g.h
    obtain ⟨i1, i2⟩ := ih fun x m => a x (List.mem_cons_of_mem _ m)
    refine ⟨?_, ?_⟩
    · simp only [kysD, plainDs, h1.1, i1]; rfl
    · simp only [kysD, depDs]; omega
theorem ltq_keys {fs gs : List Fig} (a : Gds fs) (b : Gds gs) : fLtQ (.lst (kysD fs)) (.lst (kysD gs)) = some (.bl (lt2 fs gs)) := by
  unfold fLtQ
  obtain ⟨p1, d1⟩ := plains_kys a
  obtain ⟨p2, d2⟩ := plains_kys b
  have al : alD (.lst (kysD fs)) (.lst (kysD gs)) = true := al_keys fs gs
  rw [if_pos, ltD_keys]
  unfold ltOk
  rw [al, show plainD (.lst (kysD fs)) = true from p1, show plainD (.lst (kysD gs)) = true from p2]
  simp only [Bool.true_and, decide_eq_true_eq]
  show min (depDs (kysD fs) + 1) (depDs (kysD gs) + 1) ≤ 190
  omega
theorem first_step (fs : List Fig) (a : Gds fs) (hl : fs.length ≤ 1000) (x0 x2 : Option A) (k b : Nat) : bl_first_turn_1 [x0, some (.dat (.lst (kysD fs))), x2, some (.dat (.int b)), some (.dat (.int k))] =
    .nxt [x0, some (.dat (.lst (kysD fs))), x2, some (.dat (.int ((if lt2 (rot k fs) (rot b fs) = true then k else b : Nat)))), some (.dat (.int k))] := by
  have c : ∀ j : Nat, fs.length - j + min j fs.length ≤ 100000 := fun j => by omega
  have lt := ltq_keys (a.perm (rot_perm k fs)) (a.perm (rot_perm b fs))
  have d1 : ∀ j : Nat, Ab.cutD (kysD fs) (some (j : Int)) none = (kysD fs).drop j := fun j => cutD_from
  have d2 : ∀ j : Nat, Ab.cutD (kysD fs) none (some (j : Int)) = (kysD fs).take j := fun j => cutD_to
  unfold bl_first_turn_1
  cases h : lt2 (rot k fs) (rot b fs) with
  | true => rw [h] at lt; simp [d1, d2, c, kys_rot, lt]
  | false => rw [h] at lt; simp [d1, d2, c, kys_rot, lt]
theorem first_loop (fs : List Fig) (a : Gds fs) (hl : fs.length ≤ 1000) (x0 x2 : Option A) : ∀ (m j : Nat) (x4 : Option A), ∃ y, loopF (gN 4) bl_first_turn_1 ((List.range' (j + 1) m).map fun (k : Nat) => D.int k) [x0, some (.dat (.lst (kysD fs))), x2, some (.dat (.int (bestF fs j : Nat))), x4] =
    .nxt [x0, some (.dat (.lst (kysD fs))), x2, some (.dat (.int (bestF fs (j + m) : Nat))), y]
  | 0, j, x4 => ⟨x4, rfl⟩
  | m + 1, j, x4 => by
    obtain ⟨y, i⟩ := first_loop fs a hl x0 x2 m (j + 1) (some (.dat (.int (j + 1 : Nat))))
    refine ⟨y, ?_⟩
    rw [List.range'_succ, List.map_cons]
    unfold loopF
    have s := first_step fs a hl x0 x2 (j + 1) (bestF fs j)
    have e : (if lt2 (rot (j + 1) fs) (rot (bestF fs j) fs) = true then j + 1 else bestF fs j) = bestF fs (j + 1) := rfl
    rw [e] at s
    have g : gN 4 (.int ((j + 1 : Nat) : Int)) [x0, some (.dat (.lst (kysD fs))), x2, some (.dat (.int (bestF fs j : Nat))), x4] = some [x0, some (.dat (.lst (kysD fs))), x2, some (.dat (.int (bestF fs j : Nat))), some (.dat (.int ((j + 1 : Nat) : Int)))] := rfl
    rw [g]
    dsimp only
    rw [s]
    dsimp only
    rw [i, show j + 1 + m = j + (m + 1) by omega]
theorem v_key {f : Fig} (a : Gd f) : m_key_of [enc f] = some (keyD f) := v_key_of 60 f a.h a.n
theorem rng1 (n : Nat) : rngD 1 n = (List.range' (0 + 1) n).map fun (k : Nat) => D.int k := by
  unfold rngD
  rw [List.range'_eq_map_range, List.map_map]
  refine List.map_congr_left fun k _ => ?_
  show D.int (1 + (k : Int)) = D.int ((0 + 1 + k : Nat) : Int)
  congr 1
theorem rng_small {n : Nat} (h : n ≤ 1000) : rngOk (n : Int) = true := by
  have a : (-(2 ^ 62) : Int) ≤ 0 := by decide
  have b : (1000 : Int) < 2 ^ 62 := by decide
  exact rngOk_iff.mpr ⟨by omega, by omega⟩
theorem v_first (fs : List Fig) (a : Gds fs) (hl : fs.length ≤ 1000) : m_first_turn [.lst (encs fs)] = some (.int (bestF fs (fs.length - 1) : Nat)) := by
  have go : lcF (gN 2) tbYes (xCall m_key_of (aCons (xVar 2) aNil)) (encs fs) [some (.dat (.lst (encs fs))), none, none, none, none] = some (kysD fs) := by
    rw [encs_map, kysD_map]
    refine lcF_list fun g m => ⟨[some (.dat (.lst (fs.map enc))), none, some (.dat (enc g)), none, none], rfl, ?_⟩
    simp [v_key (a g m)]
  obtain ⟨y, lp⟩ := first_loop fs a hl (some (.dat (.lst (encs fs)))) none (fs.length - 1) 0 none
  rw [← rng1, Nat.zero_add] at lp
  have hl2 : fs.length ≤ 100000 := by omega
  have r1 : rngOk 1 = true := by decide
  have r2 : rngOk (fs.length : Int) = true := rng_small hl
  have r3 : ((fs.length : Int) - 1).toNat = fs.length - 1 := by omega
  have h : ∃ β, b_first_turn (inP 5 1 [.lst (encs fs)]) = .ret (.dat (.int (bestF fs (fs.length - 1) : Nat))) β := by
    unfold b_first_turn inP
    have z : ((bestF fs 0 : Nat) : Int) = 0 := rfl
    rw [z] at lp
    simp [go, hl2, r1, r2, r3, lp]
  obtain ⟨β, e⟩ := h
  exact runP_dat rfl e
theorem v_plain : ∀ (n : Nat) (f : Fig), hgt f ≤ n → Gd f → mF_plain n [enc f] = some (enc (plF f))
  | 0, f, h, _ => by cases f <;> simp [hgt] at h
  | n + 1, f, h, hg => by
    have sub : ∀ g ∈ f.parts, mF_plain n [enc g] = some (enc (plF g)) := fun g m => v_plain n g (by have := hgt_parts m; omega) (hg.parts m)
    have gp : Gds (plFs f.parts) := Gds.pls fun g m => hg.parts m
    have hp : f.parts.length ≤ 1000 := by have := cnts_len f.parts; have := cnt_parts f; have := hg.n; omega
    have hl : (plFs f.parts).length ≤ 1000 := by rw [(pls_kp f.parts).l]; exact hp
    have hl0 : f.parts.length ≤ 100000 := by omega
    have hl1 : (plFs f.parts).length ≤ 100000 := by omega
    have go : lcF (gN 2) tbYes (xCall (mF_plain n) (aCons (xVar 2) aNil)) (encs f.parts) [some (.dat (enc f)), none, none, none] = some (encs (plFs f.parts)) := by
      rw [encs_map, plFs_map, encs_map, List.map_map]
      refine lcF_list fun g m => ⟨[some (.dat (enc f)), none, some (.dat (enc g)), none], rfl, ?_⟩
      simp [sub g m]
    have vp := v_parts_of f
    have ks := run_keys (m := m_key_of) (fs := plFs f.parts) fun g m => v_key (gp g m)
    have ko := keysOk_kys gp
    have sd := sortD_encs (plFs f.parts)
    have vf := v_first (plFs f.parts) gp hl
    have ct : ∀ j : Nat, (plFs f.parts).length - j + min j (plFs f.parts).length ≤ 100000 := fun j => by omega
    have d1 : ∀ (xs : List Fig) (j : Nat), Ab.cutD (encs xs) (some (j : Int)) none = (encs xs).drop j := fun xs j => cutD_from
    have d2 : ∀ (xs : List Fig) (j : Nat), Ab.cutD (encs xs) none (some (j : Int)) = (encs xs).take j := fun xs j => cutD_to
    have h : ∃ β, b_plain (mF_plain n) (inP 4 1 [enc f]) = .ret (.dat (enc (plF f))) β := by
      unfold b_plain inP
      cases f with
      | many k ps =>
        have w : ∀ qs : List Fig, qs.Perm (plFs ps) → m_with_parts [enc (.many k ps), .lst (encs qs)] = some (enc (.many k qs)) := fun qs p => v_with_parts (.many k ps) qs (by rw [p.length_eq]; exact (pls_kp ps).l) (by rw [p.length_eq]; exact hl)
        simp only [Fig.parts] at go vp ks ko sd vf ct hl0 hl1
        cases k with
        | row => have w := w _ (List.Perm.refl _); simp only [enc, Mn.w] at go vp w ⊢; simp [vp, go, hl0, hl1, memD, flat, dv, inV, eqV, w, plF, arr, enc, Mn.w]
        | bag => have w := w _ (sortF_perm _); simp only [enc, Mn.w] at go vp w ⊢; simp [vp, go, hl0, hl1, memD, flat, dv, inV, eqV, ks, ko, sd, w, plF, arr, enc, Mn.w]
        | choice => have w := w _ (sortF_perm _); simp only [enc, Mn.w] at go vp w ⊢; simp [vp, go, hl0, hl1, memD, flat, dv, inV, eqV, ks, ko, sd, w, plF, arr, enc, Mn.w]
        | ring => have w := w _ (ringF_perm _); unfold ringF at w; simp only [enc, Mn.w] at go vp w ⊢; simp [vp, go, hl0, hl1, memD, flat, dv, inV, eqV, vf, d1, d2, ct, encs_rot, w, plF, arr, ringF, enc, Mn.w]
      | nothing => have w := v_with_parts .nothing [] rfl (by decide); simp only [enc, encs, Fig.parts, withP, plFs] at go vp w ⊢; simp [vp, go, memD, flat, dv, inV, eqV, w, plF, enc]
      | bead c => have w := v_with_parts (.bead c) [] rfl (by decide); simp only [enc, encs, Fig.parts, withP, plFs] at go vp w ⊢; simp [vp, go, memD, flat, dv, inV, eqV, w, plF, enc]
      | left g => have w := v_with_parts (.left g) [plF g] rfl (by simp); simp only [enc, encs, Fig.parts, withP, plFs] at go vp w ⊢; simp [vp, go, memD, flat, dv, inV, eqV, w, plF, enc]
      | right g => have w := v_with_parts (.right g) [plF g] rfl (by simp); simp only [enc, encs, Fig.parts, withP, plFs] at go vp w ⊢; simp [vp, go, memD, flat, dv, inV, eqV, w, plF, enc]
      | pair a b => have w := v_with_parts (.pair a b) [plF a, plF b] rfl (by simp); simp only [enc, encs, Fig.parts, withP, plFs] at go vp w ⊢; simp [vp, go, memD, flat, dv, inV, eqV, w, plF, enc]
    obtain ⟨β, e⟩ := h
    exact runP_dat rfl e
end W_k12
end
section
set_option maxRecDepth 100000
set_option maxHeartbeats 2000000
namespace W_k12
open PySem L2 PyProof.Rows PySem.Spec Ab
abbrev St1 := Bool × List Int × Int
/-! ### neighbours changing places until the parts stand sorted -/
/-- y set among those ahead of it, told from behind -/
def insR (y : Fig) : List Fig → List Fig
  | [] => [y]
  | x :: r => if lt1 x y = true then x :: insR y r else y :: x :: r
def insS (y : Fig) : List Fig → List Nat
  | [] => []
  | x :: r => if lt1 x y = true then r.length :: insS y r else []
def pourR : List Fig → List Fig → List Fig
  | r, [] => r
  | r, y :: t => pourR (insR y r) t
def pourS : List Fig → List Fig → List Nat
  | _, [] => []
  | r, y :: t => insS y r ++ pourS (insR y r) t
theorem insR_perm (y : Fig) : ∀ r : List Fig, (insR y r).Perm (y :: r)
  | [] => List.Perm.refl _
  | x :: r => by
    unfold insR
    split
    · exact (List.Perm.cons x (insR_perm y r)).trans (List.Perm.swap y x r)
    · exact List.Perm.refl _
theorem insR_len (y : Fig) (r : List Fig) : (insR y r).length = r.length + 1 := (insR_perm y r).length_eq
theorem insR_pw (y : Fig) : ∀ {r : List Fig}, r.Pairwise (fun a b => leF b a = true) → (insR y r).Pairwise (fun a b => leF b a = true)
  | [], _ => by unfold insR; exact List.pairwise_singleton _ _
  | x :: r, h => by
    obtain ⟨h1, h2⟩ := List.pairwise_cons.mp h
    unfold insR
    by_cases hl : lt1 x y = true
    · rw [if_pos hl]
      refine List.pairwise_cons.mpr ⟨fun z m => ?_, insR_pw y h2⟩
      rcases List.mem_cons.mp ((insR_perm y r).mem_iff.mp m) with e | m
      · subst e
        have := leF_total x z
        unfold leF at this ⊢
        rw [hl] at this
        simpa using this
      · exact h1 z m
    · rw [if_neg hl]
      have hxy : leF x y = true := by unfold leF; simpa using hl
      refine List.pairwise_cons.mpr ⟨fun z m => ?_, h⟩
      rcases List.mem_cons.mp m with e | m
      · subst e; exact hxy
      · exact leF_trans z x y (h1 z m) hxy
theorem pourR_perm : ∀ (t r : List Fig), (pourR r t).Perm (t ++ r)
  | [], r => List.Perm.refl _
  | y :: t, r => by
    unfold pourR
    refine (pourR_perm t (insR y r)).trans ?_
    refine (List.Perm.append_left t (insR_perm y r)).trans ?_
    exact List.perm_middle
theorem pourR_pw : ∀ (t r : List Fig), r.Pairwise (fun a b => leF b a = true) → (pourR r t).Pairwise (fun a b => leF b a = true)
  | [], _, h => h
  | y :: t, r, h => pourR_pw t _ (insR_pw y h)
theorem pourR_sort (fs : List Fig) : (pourR [] fs).reverse = sortF fs := by
  have p : (pourR [] fs).reverse.Perm fs := (List.reverse_perm _).trans (by simpa using pourR_perm fs [])
  have s : (pourR [] fs).reverse.Pairwise (fun a b => leF a b = true) := List.pairwise_reverse.mpr (pourR_pw fs [] List.Pairwise.nil)
  exact List.Perm.eq_of_pairwise (le := fun a b => leF a b = true) (fun a b _ _ => leF_anti a b) s (List.pairwise_mergeSort leF_trans leF_total fs) (p.trans (sortF_perm fs).symm)
/-- neighbours at the places told change places, in turn -/
def swaps : List Fig → List Nat → Option (List Fig)
  | fs, [] => some fs
  | fs, n :: ns => match swpF fs (n : Int) with | some gs => swaps gs ns | none => none
theorem swaps_cons (fs : List Fig) (n : Nat) (l : List Nat) : swaps fs (n :: l) = match swpF fs (n : Int) with | some gs => swaps gs l | none => none := rfl
theorem swaps_app : ∀ (a b : List Nat) (fs : List Fig), swaps fs (a ++ b) = match swaps fs a with | some gs => swaps gs b | none => none
  | [], b, fs => rfl
  | n :: a, b, fs => by
    rw [List.cons_append, swaps_cons, swaps_cons]
    cases swpF fs (n : Int) with
    | none => rfl
    | some gs => exact swaps_app a b gs
theorem swp_mid (r t : List Fig) (x y : Fig) : swpF (r.reverse ++ (x :: y :: t)) (r.length : Int) = some (r.reverse ++ (y :: x :: t)) := by
  have hl : r.reverse.length = r.length := List.length_reverse
  rw [swpF_in (n := r.length) (x := y) (y := x)]
  · congr 1
    rw [List.take_append_of_le_length (by omega), ← hl, List.take_length, List.drop_append, List.drop_of_length_le (by omega), show r.reverse.length + 2 - r.reverse.length = 2 by omega]
    rfl
  · rw [List.getElem?_append_right (by omega), hl, Nat.add_sub_cancel_left]; rfl
  · rw [List.getElem?_append_right (by omega), hl, Nat.sub_self]; rfl
theorem ins_swaps (y : Fig) : ∀ (r t : List Fig), swaps (r.reverse ++ y :: t) (insS y r) = some ((insR y r).reverse ++ t)
  | [], t => rfl
  | x :: r, t => by
    unfold insS insR
    by_cases hl : lt1 x y = true
    · rw [if_pos hl, if_pos hl]
      rw [swaps_cons]
      have e : (x :: r).reverse ++ y :: t = r.reverse ++ (x :: y :: t) := by simp
      rw [e, swp_mid]
      dsimp only
      rw [ins_swaps y r (x :: t)]
      simp
    · rw [if_neg hl, if_neg hl]
      simp [swaps]
theorem pour_swaps : ∀ (t r : List Fig), swaps (r.reverse ++ t) (pourS r t) = some (pourR r t).reverse
  | [], r => by simp [pourS, pourR, swaps]
  | y :: t, r => by
    rw [pourS, pourR, swaps_app, ins_swaps]
    exact pour_swaps t _
theorem pour_all (fs : List Fig) : swaps fs (pourS [] fs) = some (sortF fs) := by
  have := pour_swaps fs []
  rw [pourR_sort] at this
  exact this
/-! ### how many -/
def tri : Nat → Nat
  | 0 => 0
  | n + 1 => tri n + n
theorem tri_add (a : Nat) : ∀ b : Nat, tri (a + b) = tri a + tri b + a * b
  | 0 => by simp [tri]
  | b + 1 => by
    have i := tri_add a b
    rw [← Nat.add_assoc, tri, tri, i, Nat.mul_succ]
    omega
theorem tri_mono {a b : Nat} (h : a ≤ b) : tri a ≤ tri b := by
  obtain ⟨c, rfl⟩ := Nat.le.dest h
  rw [tri_add]; omega
theorem insS_len (y : Fig) : ∀ r : List Fig, (insS y r).length ≤ r.length
  | [] => Nat.le_refl _
  | x :: r => by unfold insS; split <;> simp [insS_len y r]
theorem pourS_len : ∀ (t r : List Fig), (pourS r t).length + tri r.length ≤ tri (r.length + t.length)
  | [], r => by simp [pourS]
  | y :: t, r => by
    have h1 := insS_len y r
    have h2 := pourS_len t (insR y r)
    rw [insR_len] at h2
    rw [pourS, List.length_append, List.length_cons, show r.length + (t.length + 1) = r.length + 1 + t.length by omega]
    simp only [tri] at h2
    omega
def sw1 (path : List Int) (n : Nat) : St1 := (false, path, (n : Int))
/-! ### the way to the plain form -/
def walkO : Fig → List St1 → Option Fig
  | f, [] => some f
  | f, s :: ss => match doF f s.1 s.2.1 s.2.2 with | some g => walkO g ss | none => none
theorem walkO_cons (f : Fig) (s : St1) (ss : List St1) : walkO f (s :: ss) = match doF f s.1 s.2.1 s.2.2 with | some g => walkO g ss | none => none := rfl
theorem walkO_app : ∀ (a b : List St1) (f : Fig), walkO f (a ++ b) = match walkO f a with | some g => walkO g b | none => none
  | [], b, f => rfl
  | s :: a, b, f => by
    rw [List.cons_append, walkO_cons, walkO_cons]
    cases doF f s.1 s.2.1 s.2.2 with
    | none => rfl
    | some g => exact walkO_app a b g
def push (j : Nat) (s : St1) : St1 := (s.1, (j : Int) :: s.2.1, s.2.2)
def own1 (k : Mn) (xs : List Fig) : List St1 := match k with
  | .row => []
  | .bag => (pourS [] xs).map (sw1 [])
  | .choice => (pourS [] xs).map (sw1 [])
  | .ring => if 0 < bestF xs (xs.length - 1) then [(true, [], (bestF xs (xs.length - 1) : Nat))] else []
mutual
def rel : Fig → List St1
  | .nothing => [] | .bead _ => [] | .left f => (rel f).map (push 0) | .right f => (rel f).map (push 0)
  | .pair f g => (rel f).map (push 0) ++ (rel g).map (push 1) | .many k ps => rels 0 ps ++ own1 k (plFs ps)
def rels : Nat → List Fig → List St1
  | _, [] => [] | j, f :: fs => (rel f).map (push j) ++ rels (j + 1) fs
end
theorem withP_self (f : Fig) : withP f f.parts = f := by cases f <;> rfl
theorem withP_withP {f : Fig} {a b : List Fig} (ha : a.length = f.parts.length) (hb : b.length = f.parts.length) : withP (withP f a) b = withP f b := by
  cases f with
  | nothing => match a, ha, b, hb with | [], _, [], _ => rfl
  | bead c => rfl
  | left g => match a, ha, b, hb with | [x], _, [y], _ => rfl
  | right g => match a, ha, b, hb with | [x], _, [y], _ => rfl
  | pair g h => match a, ha, b, hb with | [x, x'], _, [y, y'], _ => rfl
  | many k ps => rfl
theorem parts_withP {f : Fig} {ps : List Fig} (h : ps.length = f.parts.length) (h0 : 0 < ps.length) : (withP f ps).parts = ps := by
  rcases withP_parts h with e | e
  · exact e
  · rw [e] at h; simp at h; rw [h] at h0; simp at h0
theorem do_push (f : Fig) (j : Nat) (h : j < f.parts.length) (s : St1) : doF f (push j s).1 (push j s).2.1 (push j s).2.2 = (doF f.parts[j] s.1 s.2.1 s.2.2).map fun g => withP f (f.parts.set j g) := by
  show doF f s.1 ((j : Int) :: s.2.1) s.2.2 = _
  rw [doF, dif_pos ⟨by omega, by omega⟩]
  simp
theorem walk_push : ∀ (ss : List St1) (f : Fig) (j : Nat) (h : j < f.parts.length) (g : Fig), walkO f.parts[j] ss = some g → walkO f (ss.map (push j)) = some (withP f (f.parts.set j g))
  | [], f, j, h, g, e => by
    have e : f.parts[j] = g := by simpa [walkO] using e
    rw [← e, List.set_getElem_self, withP_self]
    rfl
  | s :: ss, f, j, h, g, e => by
    rw [walkO_cons] at e
    rw [List.map_cons, walkO_cons, do_push f j h]
    cases hd : doF f.parts[j] s.1 s.2.1 s.2.2 with
    | none => rw [hd] at e; cases e
    | some g1 =>
      rw [hd] at e
      dsimp only at e
      simp only [Option.map_some]
      have l1 : (f.parts.set j g1).length = f.parts.length := List.length_set
      have p1 : (withP f (f.parts.set j g1)).parts = f.parts.set j g1 := parts_withP l1 (by omega)
      have h1 : j < (withP f (f.parts.set j g1)).parts.length := by rw [p1, l1]; exact h
      have e1 : (withP f (f.parts.set j g1)).parts[j] = g1 := by simp only [p1]; exact List.getElem_set_self _
      have := walk_push ss (withP f (f.parts.set j g1)) j h1 g (by rw [e1]; exact e)
      rw [this, p1, List.set_set, withP_withP l1 (by rw [List.length_set])]
theorem walk_rels : ∀ (fs A : List Fig) (F : Fig), (A ++ fs).length = F.parts.length → (∀ g ∈ fs, walkO g (rel g) = some (plF g)) → walkO (withP F (A ++ fs)) (rels A.length fs) = some (withP F (A ++ plFs fs))
  | [], A, F, _, _ => by simp [rels, plFs, walkO]
  | f :: fs, A, F, hl, h => by
    have pl : (withP F (A ++ f :: fs)).parts = A ++ f :: fs := parts_withP hl (by simp; omega)
    have hj : A.length < (withP F (A ++ f :: fs)).parts.length := by rw [pl]; simp
    have e1 : (withP F (A ++ f :: fs)).parts[A.length] = f := by simp only [pl]; simp
    have w := walk_push (rel f) _ A.length hj (plF f) (by rw [e1]; exact h f List.mem_cons_self)
    have st : (A ++ f :: fs).set A.length (plF f) = (A ++ [plF f]) ++ fs := by
      rw [List.set_append_right _ _ (by omega), Nat.sub_self]; simp
    rw [pl, st] at w
    rw [rels, walkO_app, w]
    dsimp only
    have hl2 : ((A ++ [plF f]) ++ fs).length = F.parts.length := by rw [← hl]; simp
    rw [withP_withP hl hl2]
    have i := walk_rels fs (A ++ [plF f]) F hl2 fun g m => h g (List.mem_cons_of_mem _ m)
    rw [show (A ++ [plF f]).length = A.length + 1 by simp] at i
    rw [i, plFs]
    simp
theorem walk_swaps {k : Mn} (hk : k = .bag ∨ k = .choice) : ∀ (ns : List Nat) (xs : List Fig), walkO (.many k xs) (ns.map (sw1 [])) = (swaps xs ns).map (.many k)
  | [], xs => rfl
  | n :: ns, xs => by
    rw [List.map_cons, walkO_cons, swaps_cons]
    have e : doF (.many k xs) (sw1 [] n).1 (sw1 [] n).2.1 (sw1 [] n).2.2 = (swpF xs (n : Int)).map (.many k) := by
      rcases hk with rfl | rfl <;> rfl
    rw [e]
    cases swpF xs (n : Int) with
    | none => rfl
    | some ys => exact walk_swaps hk ns ys
theorem walk_own (k : Mn) (xs : List Fig) : walkO (.many k xs) (own1 k xs) = some (.many k (arr k xs)) := by
  cases k with
  | row => rfl
  | bag => unfold own1; dsimp only; rw [walk_swaps (.inl rfl), pour_all]; rfl
  | choice => unfold own1; dsimp only; rw [walk_swaps (.inr rfl), pour_all]; rfl
  | ring =>
    unfold own1
    dsimp only
    have b := bestF_le xs (xs.length - 1)
    by_cases h : 0 < bestF xs (xs.length - 1)
    · rw [if_pos h, walkO_cons]
      have e : doF (.many .ring xs) true [] ((bestF xs (xs.length - 1) : Nat) : Int) = some (.many .ring (rot (bestF xs (xs.length - 1)) xs)) := by
        show (rotF xs _).map _ = _
        rw [rotF_in (by omega)]; rfl
      dsimp only
      rw [e]; rfl
    · rw [if_neg h]
      have z : bestF xs (xs.length - 1) = 0 := by omega
      show some _ = some (Fig.many .ring (rot (bestF xs (xs.length - 1)) xs))
      rw [z, rot_zero]
mutual
theorem walk_rel : ∀ f : Fig, walkO f (rel f) = some (plF f)
  | .nothing => rfl
  | .bead _ => rfl
  | .left f => by rw [rel, walk_push (rel f) (.left f) 0 (by simp [Fig.parts]) (plF f) (walk_rel f)]; rfl
  | .right f => by rw [rel, walk_push (rel f) (.right f) 0 (by simp [Fig.parts]) (plF f) (walk_rel f)]; rfl
  | .pair f g => by
    rw [rel, walkO_app, walk_push (rel f) (.pair f g) 0 (by simp [Fig.parts]) (plF f) (walk_rel f)]
    show walkO (.pair (plF f) g) _ = _
    rw [walk_push (rel g) (.pair (plF f) g) 1 (by simp [Fig.parts]) (plF g) (walk_rel g)]; rfl
  | .many k ps => by
    have w := walk_rels ps [] (.many k ps) (by simp [Fig.parts]) (walks_rel ps)
    rw [rel, walkO_app]
    have w : walkO (.many k ps) (rels 0 ps) = some (.many k (plFs ps)) := w
    rw [w, plF]
    exact walk_own k _
theorem walks_rel : ∀ fs : List Fig, ∀ g ∈ fs, walkO g (rel g) = some (plF g)
  | [], g, m => by cases m
  | f :: fs, g, m => by
    rcases List.mem_cons.mp m with e | m
    · rw [e]; exact walk_rel f
    · exact walks_rel fs g m
end
theorem own1_len (k : Mn) (xs : List Fig) : (own1 k xs).length ≤ tri xs.length := by
  have p := pourS_len xs []
  simp only [List.length_nil, tri, Nat.zero_add, Nat.add_zero] at p
  cases k with
  | row => exact Nat.zero_le _
  | bag => unfold own1; simpa using p
  | choice => unfold own1; simpa using p
  | ring =>
    unfold own1
    dsimp only
    have b := bestF_le xs (xs.length - 1)
    split
    · have := tri_mono (show 2 ≤ xs.length by omega)
      simp only [tri] at this
      simpa using this
    · exact Nat.zero_le _
mutual
theorem rel_len : ∀ f : Fig, (rel f).length ≤ tri (Ab.cnt f)
  | .nothing => Nat.zero_le _
  | .bead _ => Nat.zero_le _
  | .left f => by have := rel_len f; simp only [rel, List.length_map, Ab.cnt, tri]; omega
  | .right f => by have := rel_len f; simp only [rel, List.length_map, Ab.cnt, tri]; omega
  | .pair f g => by
    have h1 := rel_len f
    have h2 := rel_len g
    have h3 := tri_add (Ab.cnt f) (Ab.cnt g)
    simp only [rel, List.length_append, List.length_map, Ab.cnt, tri]; omega
  | .many k ps => by
    have h1 := rels_len 0 ps
    have h2 := own1_len k (plFs ps)
    rw [(pls_kp ps).l] at h2
    simp only [rel, List.length_append, Ab.cnt, tri]; omega
theorem rels_len : ∀ (j : Nat) (fs : List Fig), (rels j fs).length + tri fs.length ≤ tri (cnts fs)
  | _, [] => Nat.le_refl _
  | j, f :: fs => by
    have h1 := rel_len f
    have h2 := rels_len (j + 1) fs
    have h3 := tri_add (Ab.cnt f) (cnts fs)
    have h4 : fs.length ≤ Ab.cnt f * cnts fs := Nat.le_trans (cnts_len fs) (Nat.le_mul_of_pos_left _ (cnt_pos f))
    simp only [rels, List.length_append, List.length_map, List.length_cons, cnts, tri]; omega
end
/-! ### the way back -/
def bk (f : Fig) (tn : Bool) (path : List Int) (a : Int) : Int := if tn = true then (match f.at_ path with | some p => ((p.parts.length : Int) - a) % (p.parts.length : Int) | none => 0) else a
def backs : Fig → List St1 → List St1
  | _, [] => []
  | f, s :: ss => match doF f s.1 s.2.1 s.2.2 with | some g => (s.1, s.2.1, bk f s.1 s.2.1 s.2.2) :: backs g ss | none => []
theorem backs_cons (f : Fig) (s : St1) (ss : List St1) : backs f (s :: ss) = match doF f s.1 s.2.1 s.2.2 with | some g => (s.1, s.2.1, bk f s.1 s.2.1 s.2.2) :: backs g ss | none => [] := rfl
theorem swp_split {ps qs : List Fig} {a : Int} (h : swpF ps a = some qs) : ∃ (r t : List Fig) (x y : Fig), a = (r.length : Int) ∧ ps = r.reverse ++ (x :: y :: t) ∧ qs = r.reverse ++ (y :: x :: t) := by
  unfold swpF at h
  split at h
  · rename_i h0
    split at h
    · rename_i y x e1 e2
      cases h
      obtain ⟨l1, g1⟩ := List.getElem?_eq_some_iff.mp e1
      obtain ⟨l2, g2⟩ := List.getElem?_eq_some_iff.mp e2
      have e : ps = ps.take a.toNat ++ (x :: y :: ps.drop (a.toNat + 2)) := by
        conv => lhs; rw [← List.take_append_drop a.toNat ps, List.drop_eq_getElem_cons l2, List.drop_eq_getElem_cons l1, g1, g2]
      refine ⟨(ps.take a.toNat).reverse, ps.drop (a.toNat + 2), x, y, ?_, ?_, ?_⟩
      · rw [List.length_reverse, List.length_take]; omega
      · rw [List.reverse_reverse]; exact e
      · rw [List.reverse_reverse]; rfl
    · cases h
  · cases h
theorem top_back {f g : Fig} {tn : Bool} {a : Int} (h : topF f tn a = some g) : topF g tn (bk f tn [] a) = some f := by
  have hat : f.at_ [] = some f := rfl
  unfold bk
  rw [hat]
  dsimp only
  unfold topF at h
  split at h
  · rename_i ps
    cases hr : rotF ps a with
    | none => rw [hr] at h; cases h
    | some qs =>
      rw [hr] at h; cases h
      have hin : 0 ≤ a ∧ a < (ps.length : Int) := by
        by_cases z : 0 ≤ a ∧ a < (ps.length : Int)
        · exact z
        · rw [rotF_out z] at hr; cases hr
      obtain ⟨n, rfl⟩ : ∃ n : Nat, a = (n : Int) := ⟨a.toNat, by omega⟩
      rw [rotF_in (by omega)] at hr
      cases hr
      rw [if_pos rfl]
      show (rotF (rot n ps) (((ps.length : Int) - (n : Int)) % (ps.length : Int))).map (Fig.many .ring) = _
      by_cases h0 : n = 0
      · subst h0
        rw [show ((ps.length : Int) - ((0 : Nat) : Int)) % (ps.length : Int) = ((0 : Nat) : Int) by simp, rotF_in (by rw [(rot_perm 0 ps).length_eq]; omega)]
        simp [rot]
      · rw [Int.emod_eq_of_lt (by omega) (by omega), show (ps.length : Int) - (n : Int) = ((ps.length - n : Nat) : Int) by omega, rotF_in (by rw [(rot_perm n ps).length_eq]; omega)]
        have := rot_back n ps (by omega)
        unfold rot at this ⊢
        rw [this]; rfl
  · rename_i ps
    cases hr : swpF ps a with
    | none => rw [hr] at h; cases h
    | some qs =>
      rw [hr] at h; cases h
      obtain ⟨r, t, x, y, rfl, rfl, rfl⟩ := swp_split hr
      show (swpF _ _).map (Fig.many .bag) = _
      rw [if_neg (by decide), swp_mid]; rfl
  · rename_i ps
    cases hr : swpF ps a with
    | none => rw [hr] at h; cases h
    | some qs =>
      rw [hr] at h; cases h
      obtain ⟨r, t, x, y, rfl, rfl, rfl⟩ := swp_split hr
      show (swpF _ _).map (Fig.many .choice) = _
      rw [if_neg (by decide), swp_mid]; rfl
  · cases h
theorem do_back : ∀ (path : List Int) (f g : Fig) (tn : Bool) (a : Int), doF f tn path a = some g → doF g tn path (bk f tn path a) = some f
  | [], f, g, tn, a, h => top_back h
  | k :: ks, f, g, tn, a, h => by
    rw [doF] at h
    by_cases hk : 0 ≤ k ∧ k < (f.parts.length : Int)
    · rw [dif_pos hk] at h
      have hkn : k.toNat < f.parts.length := by omega
      cases hd : doF f.parts[k.toNat] tn ks a with
      | none => rw [hd] at h; cases h
      | some p =>
        rw [hd] at h
        cases h
        have i := do_back ks _ p tn a hd
        have l1 : (f.parts.set k.toNat p).length = f.parts.length := List.length_set
        have p1 : (withP f (f.parts.set k.toNat p)).parts = f.parts.set k.toNat p := parts_withP l1 (by omega)
        have hb : bk f tn (k :: ks) a = bk f.parts[k.toNat] tn ks a := by
          unfold bk
          rw [at_cons, dif_pos hk]
        have hk2 : 0 ≤ k ∧ k < ((withP f (f.parts.set k.toNat p)).parts.length : Int) := by rw [p1, l1]; exact hk
        rw [hb, doF, dif_pos hk2]
        have e1 : (withP f (f.parts.set k.toNat p)).parts[k.toNat]'(by omega) = p := by simp only [p1]; exact List.getElem_set_self _
        rw [e1, i]
        simp only [Option.map_some]
        rw [p1, List.set_set, List.set_getElem_self, withP_withP l1 rfl, withP_self]
    · rw [dif_neg hk] at h; cases h
theorem walk_back : ∀ (ss : List St1) (f g : Fig), walkO f ss = some g → walkO g (backs f ss).reverse = some f
  | [], f, g, h => by cases h; rfl
  | s :: ss, f, g, h => by
    rw [walkO_cons] at h
    rw [backs_cons]
    cases hd : doF f s.1 s.2.1 s.2.2 with
    | none => rw [hd] at h; cases h
    | some f1 =>
      rw [hd] at h
      have i := walk_back ss f1 g h
      dsimp only
      rw [List.reverse_cons, walkO_app, i]
      dsimp only
      rw [walkO_cons]
      dsimp only
      rw [do_back _ _ _ _ _ hd]
      rfl
theorem backs_len : ∀ (ss : List St1) (f : Fig), (backs f ss).length ≤ ss.length
  | [], _ => Nat.le_refl _
  | s :: ss, f => by
    rw [backs_cons]
    split
    · rename_i g _; simp only [List.length_cons]; have := backs_len ss g; omega
    · exact Nat.zero_le _
end W_k12
end
section
set_option maxRecDepth 100000
set_option maxHeartbeats 2000000
namespace W_k12
open PySem L2 PyProof.Rows PySem.Spec Ab
/-! ### one step from a figure, as the law lists them -/
def swapAt (j : Nat) (ps : List Fig) : List Fig := match ps[j + 1]?, ps[j]? with
  | some x, some y => ps.take j ++ ([x, y] ++ ps.drop (j + 2))
  | _, _ => ps
def ownL (k : Mn) (ps : List Fig) : List (List Fig) := match k with
  | .row => []
  | .bag => (List.range (ps.length - 1)).map fun j => swapAt j ps
  | .choice => (List.range (ps.length - 1)).map fun j => swapAt j ps
  | .ring => (List.range (ps.length - 1)).map fun j => rot (j + 1) ps
mutual
def stepL : Fig → List Fig
  | .nothing => [] | .bead _ => [] | .left f => (stepL f).map .left | .right f => (stepL f).map .right
  | .pair f g => (stepL f).map (fun x => .pair x g) ++ (stepL g).map (fun x => .pair f x)
  | .many k ps => (ownL k ps).map (.many k) ++ (stepLs [] ps).map (.many k)
def stepLs : List Fig → List Fig → List (List Fig)
  | _, [] => [] | A, p :: ps => (stepL p).map (fun q => A ++ q :: ps) ++ stepLs (A ++ [p]) ps
end
theorem swapAt_perm (j : Nat) (ps : List Fig) : (swapAt j ps).Perm ps := by
  unfold swapAt
  split
  · rename_i x y e1 e2
    obtain ⟨l1, g1⟩ := List.getElem?_eq_some_iff.mp e1
    obtain ⟨l2, g2⟩ := List.getElem?_eq_some_iff.mp e2
    have e : ps = ps.take j ++ (y :: x :: ps.drop (j + 2)) := by
      conv => lhs; rw [← List.take_append_drop j ps, List.drop_eq_getElem_cons l2, List.drop_eq_getElem_cons l1, g1, g2]
    conv => rhs; rw [e]
    exact List.Perm.append_left _ (List.Perm.swap y x _)
  · exact List.Perm.refl _
theorem ownL_perm {k : Mn} {ps qs : List Fig} (h : qs ∈ ownL k ps) : qs.Perm ps := by
  cases k with
  | row => cases h
  | bag => obtain ⟨j, _, rfl⟩ := List.mem_map.mp h; exact swapAt_perm j ps
  | choice => obtain ⟨j, _, rfl⟩ := List.mem_map.mp h; exact swapAt_perm j ps
  | ring => obtain ⟨j, _, rfl⟩ := List.mem_map.mp h; exact rot_perm _ ps
/-- one place of a list changed -/
def Rep1 (l m : List Fig) (x y : Fig) : Prop := ∃ A B, l = A ++ x :: B ∧ m = A ++ y :: B
theorem stepLs_mem : ∀ {ps A : List Fig} {qs : List Fig}, qs ∈ stepLs A ps → ∃ x y, y ∈ stepL x ∧ x ∈ ps ∧ Rep1 (A ++ ps) qs x y
  | [], A, qs, h => by cases h
  | p :: ps, A, qs, h => by
    rw [stepLs] at h
    rcases List.mem_append.mp h with h | h
    · obtain ⟨q, hq, rfl⟩ := List.mem_map.mp h
      exact ⟨p, q, hq, List.mem_cons_self, A, ps, rfl, rfl⟩
    · obtain ⟨x, y, h1, h2, B, C, e1, e2⟩ := stepLs_mem h
      exact ⟨x, y, h1, List.mem_cons_of_mem _ h2, B, C, by rw [← e1]; simp, e2⟩
/-! ### all that can be reached stands in a list -/
def insAll (x : Fig) : List Fig → List (List Fig)
  | [] => [[x]] | y :: l => (x :: y :: l) :: (insAll x l).map (y :: ·)
def perms : List Fig → List (List Fig)
  | [] => [[]] | x :: l => (perms l).flatMap (insAll x)
def fac : Nat → Nat
  | 0 => 1 | n + 1 => (n + 1) * fac n
theorem insAll_len (x : Fig) : ∀ l : List Fig, (insAll x l).length = l.length + 1
  | [] => rfl
  | y :: l => by simp [insAll, insAll_len x l]
theorem insAll_mem (x : Fig) : ∀ A B : List Fig, A ++ x :: B ∈ insAll x (A ++ B)
  | [], [] => by simp [insAll]
  | [], b :: B => by simp [insAll]
  | a :: A, B => by
    rw [List.cons_append, List.cons_append, insAll]
    exact List.mem_cons_of_mem _ (List.mem_map.mpr ⟨_, insAll_mem x A B, rfl⟩)
theorem insAll_perm (x : Fig) : ∀ {l p : List Fig}, p ∈ insAll x l → p.Perm (x :: l)
  | [], p, h => by rw [List.mem_singleton.mp h]
  | y :: l, p, h => by
    rw [insAll] at h
    rcases List.mem_cons.mp h with e | h
    · rw [e]
    · obtain ⟨q, hq, rfl⟩ := List.mem_map.mp h
      exact (List.Perm.cons y (insAll_perm x hq)).trans (List.Perm.swap x y l)
theorem perms_mem : ∀ {l p : List Fig}, p.Perm l → p ∈ perms l
  | [], p, h => by rw [List.Perm.eq_nil h]; exact List.mem_singleton.mpr rfl
  | x :: l, p, h => by
    have hx : x ∈ p := h.mem_iff.mpr List.mem_cons_self
    obtain ⟨A, B, rfl⟩ := List.append_of_mem hx
    have h2 : (A ++ B).Perm l := List.Perm.cons_inv (List.perm_middle.symm.trans h)
    exact List.mem_flatMap.mpr ⟨_, perms_mem h2, insAll_mem x A B⟩
theorem perms_perm : ∀ {l p : List Fig}, p ∈ perms l → p.Perm l
  | [], p, h => by rw [List.mem_singleton.mp h]
  | x :: l, p, h => by
    obtain ⟨q, hq, hp⟩ := List.mem_flatMap.mp h
    exact (insAll_perm x hp).trans (List.Perm.cons x (perms_perm hq))
theorem flat_len {α β : Type} {g : α → List β} {m : Nat} : ∀ {l : List α}, (∀ x ∈ l, (g x).length = m) → (l.flatMap g).length = l.length * m
  | [], _ => by simp
  | x :: l, h => by
    rw [List.flatMap_cons, List.length_append, h x List.mem_cons_self, flat_len fun y m => h y (List.mem_cons_of_mem _ m), List.length_cons, Nat.succ_mul, Nat.add_comm]
theorem perms_len : ∀ l : List Fig, (perms l).length = fac l.length
  | [] => rfl
  | x :: l => by
    rw [perms, flat_len (m := l.length + 1) fun q hq => by rw [insAll_len, (perms_perm hq).length_eq], perms_len l, List.length_cons, fac, Nat.mul_comm]
mutual
def arrs : Fig → List Fig
  | .nothing => [.nothing] | .bead c => [.bead c] | .left f => (arrs f).map .left | .right f => (arrs f).map .right
  | .pair f g => (arrs f).flatMap fun x => (arrs g).map fun y => .pair x y
  | .many k ps => (arrss ps).flatMap fun qs => (perms qs).map (.many k)
def arrss : List Fig → List (List Fig)
  | [] => [[]] | f :: fs => (arrs f).flatMap fun x => (arrss fs).map (x :: ·)
end
theorem arrss_len2 : ∀ {ps qs : List Fig}, qs ∈ arrss ps → qs.length = ps.length
  | [], qs, h => by rw [arrss] at h; rw [List.mem_singleton.mp h]
  | p :: ps, qs, h => by
    rw [arrss] at h
    obtain ⟨x, _, h⟩ := List.mem_flatMap.mp h
    obtain ⟨r, hr, rfl⟩ := List.mem_map.mp h
    rw [List.length_cons, List.length_cons, arrss_len2 hr]
theorem fac_pos : ∀ n, 0 < fac n
  | 0 => Nat.one_pos
  | n + 1 => Nat.mul_pos (Nat.succ_pos n) (fac_pos n)
theorem fac_mul (a : Nat) : ∀ b, fac a * fac b ≤ fac (a + b)
  | 0 => by simp [fac]
  | b + 1 => by
    have i := fac_mul a b
    rw [fac, ← Nat.add_assoc, fac, Nat.mul_left_comm]
    exact Nat.mul_le_mul (by omega) i
theorem fac_mono {a b : Nat} (h : a ≤ b) : fac a ≤ fac b := by
  obtain ⟨c, rfl⟩ := Nat.le.dest h
  have := fac_mul a c
  have := Nat.le_mul_of_pos_right (fac a) (fac_pos c)
  omega
mutual
theorem arrs_len : ∀ f : Fig, (arrs f).length ≤ fac (Ab.cnt f - 1)
  | .nothing => Nat.le_refl _
  | .bead _ => Nat.le_refl _
  | .left f => by
    rw [arrs, List.length_map]
    exact Nat.le_trans (arrs_len f) (fac_mono (by simp only [Ab.cnt]; omega))
  | .right f => by
    rw [arrs, List.length_map]
    exact Nat.le_trans (arrs_len f) (fac_mono (by simp only [Ab.cnt]; omega))
  | .pair f g => by
    rw [arrs, flat_len (m := (arrs g).length) fun x _ => List.length_map _]
    refine Nat.le_trans (Nat.mul_le_mul (arrs_len f) (arrs_len g)) (Nat.le_trans (fac_mul _ _) (fac_mono ?_))
    simp only [Ab.cnt]; omega
  | .many k ps => by
    rw [arrs, flat_len (m := fac ps.length) fun qs hq => by rw [List.length_map, perms_len, arrss_len2 hq]]
    exact arrss_len ps
theorem arrss_len : ∀ fs : List Fig, (arrss fs).length * fac fs.length ≤ fac (cnts fs)
  | [] => Nat.le_refl _
  | f :: fs => by
    have h1 := arrs_len f
    have h2 := arrss_len fs
    have hc := cnt_pos f
    have hl := cnts_len fs
    rw [arrss, flat_len (m := (arrss fs).length) fun x _ => List.length_map _, List.length_cons, fac]
    have e : (arrs f).length * (arrss fs).length * ((fs.length + 1) * fac fs.length) = (arrs f).length * ((fs.length + 1) * ((arrss fs).length * fac fs.length)) := by
      rw [Nat.mul_assoc, Nat.mul_left_comm (arrss fs).length]
    rw [e]
    refine Nat.le_trans (Nat.mul_le_mul h1 (Nat.mul_le_mul (show fs.length + 1 ≤ cnts fs + 1 by omega) h2)) ?_
    refine Nat.le_trans (fac_mul (Ab.cnt f - 1) (cnts fs + 1)) (fac_mono ?_)
    simp only [cnts]; omega
end
mutual
theorem arrs_self : ∀ f : Fig, f ∈ arrs f
  | .nothing => List.mem_singleton.mpr rfl
  | .bead _ => List.mem_singleton.mpr rfl
  | .left f => List.mem_map.mpr ⟨f, arrs_self f, rfl⟩
  | .right f => List.mem_map.mpr ⟨f, arrs_self f, rfl⟩
  | .pair f g => List.mem_flatMap.mpr ⟨f, arrs_self f, List.mem_map.mpr ⟨g, arrs_self g, rfl⟩⟩
  | .many k ps => List.mem_flatMap.mpr ⟨ps, arrss_self ps, List.mem_map.mpr ⟨ps, perms_mem (List.Perm.refl _), rfl⟩⟩
theorem arrss_self : ∀ fs : List Fig, fs ∈ arrss fs
  | [] => List.mem_singleton.mpr rfl
  | f :: fs => List.mem_flatMap.mpr ⟨f, arrs_self f, List.mem_map.mpr ⟨fs, arrss_self fs, rfl⟩⟩
end
theorem rep1_perm {qs qs' rs : List Fig} {x y : Fig} (r : Rep1 qs qs' x y) (p : qs.Perm rs) : ∃ rs', Rep1 rs rs' x y ∧ qs'.Perm rs' := by
  obtain ⟨A, B, rfl, rfl⟩ := r
  have hx : x ∈ rs := p.mem_iff.mp (by simp)
  obtain ⟨C, D, rfl⟩ := List.append_of_mem hx
  have h2 : (A ++ B).Perm (C ++ D) := List.Perm.cons_inv (List.perm_middle.symm.trans (p.trans List.perm_middle))
  exact ⟨C ++ y :: D, ⟨C, D, rfl, rfl⟩, List.perm_middle.trans ((List.Perm.cons y h2).trans List.perm_middle.symm)⟩
theorem arrss_step : ∀ {ps rs rs' : List Fig} {x y : Fig}, (∀ p ∈ ps, ∀ x y, x ∈ arrs p → y ∈ stepL x → y ∈ arrs p) → rs ∈ arrss ps → y ∈ stepL x → Rep1 rs rs' x y → rs' ∈ arrss ps
  | [], rs, rs', x, y, _, h, _, ⟨A, B, e, _⟩ => by
    rw [arrss] at h
    rw [List.mem_singleton.mp h] at e
    simp at e
  | p :: ps, rs, rs', x, y, hc, h, hy, ⟨A, B, e, e2⟩ => by
    rw [arrss] at h ⊢
    obtain ⟨u, hu, h⟩ := List.mem_flatMap.mp h
    obtain ⟨r, hr, rfl⟩ := List.mem_map.mp h
    cases A with
    | nil =>
      simp only [List.nil_append, List.cons.injEq] at e e2
      obtain ⟨rfl, rfl⟩ := e
      subst e2
      exact List.mem_flatMap.mpr ⟨y, hc p List.mem_cons_self u y hu hy, List.mem_map.mpr ⟨r, hr, rfl⟩⟩
    | cons a A =>
      simp only [List.cons_append, List.cons.injEq] at e e2
      obtain ⟨rfl, rfl⟩ := e
      subst e2
      exact List.mem_flatMap.mpr ⟨u, hu, List.mem_map.mpr ⟨A ++ y :: B, arrss_step (fun q m => hc q (List.mem_cons_of_mem _ m)) hr hy ⟨A, B, rfl, rfl⟩, rfl⟩⟩
theorem arrs_step : ∀ (n : Nat) (f : Fig), hgt f ≤ n → ∀ g h, g ∈ arrs f → h ∈ stepL g → h ∈ arrs f
  | 0, f, hn, _, _, _, _ => by cases f <;> simp [hgt] at hn
  | n + 1, f, hn, g, h, hg, hh => by
    cases f with
    | nothing => rw [arrs] at hg; rw [List.mem_singleton.mp hg] at hh; cases hh
    | bead c => rw [arrs] at hg; rw [List.mem_singleton.mp hg] at hh; cases hh
    | left f =>
      rw [arrs] at hg ⊢
      obtain ⟨x, hx, rfl⟩ := List.mem_map.mp hg
      rw [stepL] at hh
      obtain ⟨y, hy, rfl⟩ := List.mem_map.mp hh
      exact List.mem_map.mpr ⟨y, arrs_step n f (by simp only [hgt] at hn; omega) x y hx hy, rfl⟩
    | right f =>
      rw [arrs] at hg ⊢
      obtain ⟨x, hx, rfl⟩ := List.mem_map.mp hg
      rw [stepL] at hh
      obtain ⟨y, hy, rfl⟩ := List.mem_map.mp hh
      exact List.mem_map.mpr ⟨y, arrs_step n f (by simp only [hgt] at hn; omega) x y hx hy, rfl⟩
    | pair f f' =>
      rw [arrs] at hg ⊢
      obtain ⟨x, hx, hg⟩ := List.mem_flatMap.mp hg
      obtain ⟨x', hx', rfl⟩ := List.mem_map.mp hg
      rw [stepL] at hh
      simp only [hgt] at hn
      rcases List.mem_append.mp hh with hh | hh
      · obtain ⟨y, hy, rfl⟩ := List.mem_map.mp hh
        exact List.mem_flatMap.mpr ⟨y, arrs_step n f (by omega) x y hx hy, List.mem_map.mpr ⟨x', hx', rfl⟩⟩
      · obtain ⟨y, hy, rfl⟩ := List.mem_map.mp hh
        exact List.mem_flatMap.mpr ⟨x, hx, List.mem_map.mpr ⟨y, arrs_step n f' (by omega) x' y hx' hy, rfl⟩⟩
    | many k ps =>
      rw [arrs] at hg ⊢
      obtain ⟨rs, hr, hg⟩ := List.mem_flatMap.mp hg
      obtain ⟨qs, hq, rfl⟩ := List.mem_map.mp hg
      have pq := perms_perm hq
      rw [stepL] at hh
      rcases List.mem_append.mp hh with hh | hh
      · obtain ⟨q2, h2, rfl⟩ := List.mem_map.mp hh
        exact List.mem_flatMap.mpr ⟨rs, hr, List.mem_map.mpr ⟨q2, perms_mem ((ownL_perm h2).trans pq), rfl⟩⟩
      · obtain ⟨q2, h2, rfl⟩ := List.mem_map.mp hh
        obtain ⟨x, y, hy, _, r1⟩ := stepLs_mem h2
        rw [List.nil_append] at r1
        obtain ⟨rs', r2, p2⟩ := rep1_perm r1 pq
        have := arrss_step (fun p m x y => arrs_step n p (by have := hgts_mem m; simp only [hgt] at hn; omega) x y) hr hy r2
        exact List.mem_flatMap.mpr ⟨rs', this, List.mem_map.mpr ⟨q2, perms_mem p2, rfl⟩⟩
theorem nodup_len {α : Type} : ∀ {l m : List α}, l.Nodup → (∀ x ∈ l, x ∈ m) → l.length ≤ m.length
  | [], m, _, _ => Nat.zero_le _
  | x :: l, m, h, s => by
    obtain ⟨h1, h2⟩ := List.nodup_cons.mp h
    obtain ⟨A, B, rfl⟩ := List.append_of_mem (s x List.mem_cons_self)
    have := nodup_len (m := A ++ B) h2 fun y hy => by
      have := s y (List.mem_cons_of_mem _ hy)
      rcases List.mem_append.mp this with z | z
      · exact List.mem_append.mpr (.inl z)
      · rcases List.mem_cons.mp z with e | z
        · rw [e] at hy; exact absurd hy h1
        · exact List.mem_append.mpr (.inr z)
    simp only [List.length_append, List.length_cons] at this ⊢
    omega
end W_k12
end
section
set_option maxRecDepth 100000
set_option maxHeartbeats 2000000
namespace W_k12
open PySem L2 PyProof.Rows PySem.Spec Ab
/-! ### a step keeps the plain form; every step is among those listed -/
theorem Als.refl : ∀ fs : List Fig, Als fs fs
  | [] => Als.nil
  | f :: fs => Als.cons (Al.refl f) (Als.refl fs)
theorem Als.rep {x y : Fig} (a : Al x y) : ∀ (A B : List Fig), Als (A ++ x :: B) (A ++ y :: B)
  | [], B => Als.cons a (Als.refl B)
  | c :: A, B => Als.cons (Al.refl c) (Als.rep a A B)
theorem ownL_shk {k : Mn} {ps qs : List Fig} (h : qs ∈ ownL k ps) : Shk k ps qs := by
  cases k with
  | row => cases h
  | bag => exact ownL_perm h
  | choice => exact ownL_perm h
  | ring =>
    obtain ⟨j, hj, rfl⟩ := List.mem_map.mp h
    have := List.mem_range.mp hj
    exact ⟨j + 1, by omega, rfl⟩
theorem stepL_al : ∀ (n : Nat) (g h : Fig), hgt g ≤ n → h ∈ stepL g → Al g h
  | 0, g, _, hn, _ => by cases g <;> simp [hgt] at hn
  | n + 1, g, h, hn, hh => by
    cases g with
    | nothing => cases hh
    | bead c => cases hh
    | left f =>
      rw [stepL] at hh
      obtain ⟨y, hy, rfl⟩ := List.mem_map.mp hh
      have a := stepL_al n f y (by simp only [hgt] at hn; omega) hy
      exact ⟨⟨by simp only [hgt, a.h], by simp only [Ab.cnt, a.n], by simp only [cok, a.c], by simp only [szF, a.z]⟩, by simp only [plF, a.p]⟩
    | right f =>
      rw [stepL] at hh
      obtain ⟨y, hy, rfl⟩ := List.mem_map.mp hh
      have a := stepL_al n f y (by simp only [hgt] at hn; omega) hy
      exact ⟨⟨by simp only [hgt, a.h], by simp only [Ab.cnt, a.n], by simp only [cok, a.c], by simp only [szF, a.z]⟩, by simp only [plF, a.p]⟩
    | pair f f' =>
      rw [stepL] at hh
      simp only [hgt] at hn
      rcases List.mem_append.mp hh with hh | hh
      · obtain ⟨y, hy, rfl⟩ := List.mem_map.mp hh
        have a := stepL_al n f y (by omega) hy
        exact ⟨⟨by simp only [hgt, a.h], by simp only [Ab.cnt, a.n], by simp only [cok, a.c], by simp only [szF, a.z]⟩, by simp only [plF, a.p]⟩
      · obtain ⟨y, hy, rfl⟩ := List.mem_map.mp hh
        have a := stepL_al n f' y (by omega) hy
        exact ⟨⟨by simp only [hgt, a.h], by simp only [Ab.cnt, a.n], by simp only [cok, a.c], by simp only [szF, a.z]⟩, by simp only [plF, a.p]⟩
    | many k ps =>
      rw [stepL] at hh
      rcases List.mem_append.mp hh with hh | hh
      · obtain ⟨qs, hq, rfl⟩ := List.mem_map.mp hh
        exact Shk.al (Als.refl ps) (ownL_shk hq)
      · obtain ⟨qs, hq, rfl⟩ := List.mem_map.mp hh
        obtain ⟨x, y, hy, hx, A, B, e1, e2⟩ := stepLs_mem hq
        rw [List.nil_append] at e1
        have a := stepL_al n x y (by have := hgts_mem hx; simp only [hgt] at hn; omega) hy
        rw [e1, e2]
        exact Shk.al (Als.rep a A B) (Shk.refl k _)
theorem stepLs_has {x y : Fig} (h : y ∈ stepL x) : ∀ (B A C : List Fig), A ++ B ++ y :: C ∈ stepLs A (B ++ x :: C)
  | [], A, C => by
    rw [List.append_nil, List.nil_append, stepLs]
    exact List.mem_append.mpr (.inl (List.mem_map.mpr ⟨y, h, rfl⟩))
  | b :: B, A, C => by
    rw [List.cons_append, stepLs]
    have := stepLs_has h B (A ++ [b]) C
    simp only [List.append_assoc, List.singleton_append] at this
    refine List.mem_append.mpr (.inr ?_)
    simpa using this
theorem top_listed {f g : Fig} {tn : Bool} {a : Int} (h : topF f tn a = some g) : g ∈ stepL f ∨ g = f := by
  have sw : ∀ {ps qs : List Fig}, swpF ps a = some qs → qs ∈ (List.range (ps.length - 1)).map fun j => swapAt j ps := fun {ps qs} hs => by
    obtain ⟨r, t, x, y, rfl, rfl, rfl⟩ := swp_split hs
    refine List.mem_map.mpr ⟨r.length, List.mem_range.mpr (by simp), ?_⟩
    have := swp_mid r t x y
    unfold swpF at this
    rw [if_pos (by omega)] at this
    unfold swapAt
    simp only [Int.toNat_natCast] at this
    split at this
    · rename_i u v e1 e2
      first
      | exact Option.some.inj this
      | (rw [e1, e2]; exact Option.some.inj this)
    · cases this
  unfold topF at h
  split at h
  · rename_i ps
    cases hr : rotF ps a with
    | none => rw [hr] at h; cases h
    | some qs =>
      rw [hr] at h; cases h
      have hin : 0 ≤ a ∧ a < (ps.length : Int) := by
        by_cases z : 0 ≤ a ∧ a < (ps.length : Int)
        · exact z
        · rw [rotF_out z] at hr; cases hr
      obtain ⟨n, rfl⟩ : ∃ n : Nat, a = (n : Int) := ⟨a.toNat, by omega⟩
      rw [rotF_in (by omega)] at hr
      cases hr
      cases n with
      | zero => right; simp
      | succ n =>
        left
        rw [stepL]
        refine List.mem_append.mpr (.inl (List.mem_map.mpr ⟨_, List.mem_map.mpr ⟨n, List.mem_range.mpr (by omega), rfl⟩, rfl⟩))
  · rename_i ps
    cases hr : swpF ps a with
    | none => rw [hr] at h; cases h
    | some qs => rw [hr] at h; cases h; left; rw [stepL]; exact List.mem_append.mpr (.inl (List.mem_map.mpr ⟨_, sw hr, rfl⟩))
  · rename_i ps
    cases hr : swpF ps a with
    | none => rw [hr] at h; cases h
    | some qs => rw [hr] at h; cases h; left; rw [stepL]; exact List.mem_append.mpr (.inl (List.mem_map.mpr ⟨_, sw hr, rfl⟩))
  · cases h
theorem set_split2 {ps : List Fig} {j : Nat} (h : j < ps.length) (y : Fig) : ∃ B C, ps = B ++ ps[j] :: C ∧ ps.set j y = B ++ y :: C := by
  refine ⟨ps.take j, ps.drop (j + 1), ?_, ?_⟩
  · conv => lhs; rw [← List.take_append_drop j ps, List.drop_eq_getElem_cons h]
  · rw [List.set_eq_take_append_cons_drop, if_pos h]
theorem do_listed : ∀ (path : List Int) (f g : Fig) (tn : Bool) (a : Int), doF f tn path a = some g → g ∈ stepL f ∨ g = f
  | [], f, g, tn, a, h => top_listed h
  | k :: ks, f, g, tn, a, h => by
    rw [doF] at h
    by_cases hk : 0 ≤ k ∧ k < (f.parts.length : Int)
    · rw [dif_pos hk] at h
      have hkn : k.toNat < f.parts.length := by omega
      cases hd : doF f.parts[k.toNat] tn ks a with
      | none => rw [hd] at h; cases h
      | some p =>
        rw [hd] at h
        cases h
        rcases do_listed ks _ p tn a hd with i | i
        · left
          cases f with
          | nothing => simp [Fig.parts] at hkn
          | bead c => simp [Fig.parts] at hkn
          | left f =>
            have e : k.toNat = 0 := by simp [Fig.parts] at hkn; omega
            simp only [Fig.parts, e] at i ⊢
            rw [stepL]; exact List.mem_map.mpr ⟨p, i, rfl⟩
          | right f =>
            have e : k.toNat = 0 := by simp [Fig.parts] at hkn; omega
            simp only [Fig.parts, e] at i ⊢
            rw [stepL]; exact List.mem_map.mpr ⟨p, i, rfl⟩
          | pair f f' =>
            rw [stepL]
            have e : k.toNat = 0 ∨ k.toNat = 1 := by simp [Fig.parts] at hkn; omega
            rcases e with e | e
            · simp only [Fig.parts, e] at i ⊢
              exact List.mem_append.mpr (.inl (List.mem_map.mpr ⟨p, i, rfl⟩))
            · simp only [Fig.parts, e] at i ⊢
              exact List.mem_append.mpr (.inr (List.mem_map.mpr ⟨p, i, rfl⟩))
          | many kk ps =>
            rw [stepL]
            obtain ⟨B, C, e1, e2⟩ := set_split2 (ps := ps) hkn p
            have := stepLs_has i B [] C
            rw [List.nil_append] at this
            refine List.mem_append.mpr (.inr (List.mem_map.mpr ⟨_, ?_, rfl⟩))
            show ps.set k.toNat p ∈ stepLs [] ps
            rw [e2]
            rw [show B ++ (Fig.many kk ps).parts[k.toNat] :: C = ps from e1.symm] at this
            exact this
        · right
          show withP f (f.parts.set k.toNat p) = f
          rw [i, List.set_getElem_self, withP_self]
    · rw [dif_neg hk] at h; cases h
theorem walk_in {T : List Fig} (hT : ∀ x ∈ T, ∀ y ∈ stepL x, y ∈ T) : ∀ (ss : List St1) (f g : Fig), f ∈ T → walkO f ss = some g → g ∈ T
  | [], f, g, hf, h => by cases h; exact hf
  | s :: ss, f, g, hf, h => by
    rw [walkO_cons] at h
    cases hd : doF f s.1 s.2.1 s.2.2 with
    | none => rw [hd] at h; cases h
    | some f1 =>
      rw [hd] at h
      refine walk_in hT ss f1 g ?_ h
      rcases do_listed _ _ _ _ _ hd with z | z
      · exact hT f hf f1 z
      · rw [z]; exact hf
def wayS (f g : Fig) : List St1 := rel f ++ (backs g (rel g)).reverse
theorem walk_way {f g : Fig} (h : plF f = plF g) : walkO f (wayS f g) = some g := by
  unfold wayS
  rw [walkO_app, walk_rel f]
  dsimp only
  rw [h]
  exact walk_back (rel g) g (plF g) (walk_rel g)
end W_k12
end
section
set_option maxRecDepth 100000
set_option maxHeartbeats 2000000
namespace W_k12
open PySem L2 PyProof.Rows PySem.Spec Ab
/-! ### the law's search -/
def inB (S : List Fig) (y : Fig) : Bool := (encs S).any fun x => eqv x (enc y)
theorem inB_iff {S : List Fig} {y : Fig} : inB S y = true ↔ y ∈ S := by
  unfold inB
  rw [encs_map, List.any_map, List.any_eq_true]
  constructor
  · rintro ⟨x, hx, h⟩
    have := eqv_eq (enc x) (enc y) (noBl_enc x) (noBl_enc y) h
    rw [← enc_inj x y this]; exact hx
  · intro h
    exact ⟨y, h, eqv_refl _⟩
theorem memQ_encs {neg : Bool} {S : List Fig} {y : Fig} (a : Gds S) (b : Gd y) : memQ neg (enc y) (.lst (encs S)) = some (.bl (neg != inB S y)) := by
  have ok : inOk (enc y) (encs S) = true := by
    unfold inOk
    rw [plain_enc y b.c, encs_map, Bool.true_and, List.all_eq_true]
    intro x hx
    obtain ⟨z, hz, rfl⟩ := List.mem_map.mp hx
    have d := dep_enc y
    have := b.h
    rw [plain_enc z (a z hz).c, Bool.true_and, decide_eq_true_eq]
    omega
  show (if inOk (enc y) (encs S) = true then _ else none) = _
  rw [if_pos ok]; rfl
def fresh : List Fig → List Fig → List Fig
  | _, [] => [] | S, y :: ys => if inB S y = true then fresh S ys else y :: fresh (S ++ [y]) ys
theorem fresh_nodup : ∀ {ys S : List Fig}, S.Nodup → (S ++ fresh S ys).Nodup
  | [], S, h => by simpa [fresh] using h
  | y :: ys, S, h => by
    unfold fresh
    split
    · exact fresh_nodup h
    · rename_i hy
      have n : y ∉ S := fun z => hy (inB_iff.mpr z)
      have h2 : (S ++ [y]).Nodup := List.nodup_append.mpr ⟨h, List.nodup_cons.mpr ⟨List.not_mem_nil, List.nodup_nil⟩, fun a ha b hb e => by rw [List.mem_singleton.mp hb] at e; rw [e] at ha; exact n ha⟩
      have := fresh_nodup (ys := ys) h2
      simpa using this
theorem fresh_sub : ∀ {ys S : List Fig}, ∀ x ∈ fresh S ys, x ∈ ys
  | [], S, x, h => by cases h
  | y :: ys, S, x, h => by
    unfold fresh at h
    split at h
    · exact List.mem_cons_of_mem _ (fresh_sub x h)
    · rcases List.mem_cons.mp h with e | h
      · rw [e]; exact List.mem_cons_self
      · exact List.mem_cons_of_mem _ (fresh_sub x h)
theorem fresh_all : ∀ {ys S : List Fig}, ∀ x ∈ ys, x ∈ S ++ fresh S ys
  | [], S, x, h => by cases h
  | y :: ys, S, x, h => by
    unfold fresh
    rcases List.mem_cons.mp h with e | h
    · subst e
      split
      · rename_i hy; exact List.mem_append.mpr (.inl (inB_iff.mp hy))
      · simp
    · split
      · exact fresh_all x h
      · have := fresh_all (S := S ++ [y]) x h
        simpa using this
theorem in_loop (x0 : Option A) : ∀ (ys W S : List Fig) (x3 : Option A), Gds S → Gds ys → S.length + ys.length ≤ 90000 → W.length + ys.length ≤ 90000 →
    ∃ z3, loopF (gN 3) bl__law_reached_1 (encs ys) [x0, some (.own (.lst (encs W))), some (.own (.lst (encs S))), x3] = .nxt [x0, some (.own (.lst (encs (W ++ fresh S ys)))), some (.own (.lst (encs (S ++ fresh S ys)))), z3]
  | [], W, S, x3, _, _, _, _ => ⟨x3, by simp [encs, loopF, fresh]⟩
  | y :: ys, W, S, x3, a, b, hS, hW => by
    have gy : Gd y := b y List.mem_cons_self
    have m := memQ_encs (neg := true) a gy
    simp only [List.length_cons] at hS hW
    have l1 : S.length < 100000 := by omega
    have l2 : W.length < 100000 := by omega
    have ld : lendD 2 [x0, some (.own (.lst (encs W))), some (.own (.lst (encs S))), some (.dat (enc y))] = some [x0, some (.own (.lst (encs W))), some (.dat (.lst (encs S))), some (.dat (enc y))] := rfl
    show ∃ z3, loopF _ _ (enc y :: encs ys) _ = _
    cases hb : inB S y with
    | true =>
      obtain ⟨z3, i⟩ := in_loop x0 ys W S (some (.dat (enc y))) a (fun g mg => b g (List.mem_cons_of_mem _ mg)) (by omega) (by omega)
      refine ⟨z3, ?_⟩
      rw [hb] at m
      have e : bl__law_reached_1 [x0, some (.own (.lst (encs W))), some (.own (.lst (encs S))), some (.dat (enc y))] = .nxt [x0, some (.own (.lst (encs W))), some (.own (.lst (encs S))), some (.dat (enc y))] := by
        unfold bl__law_reached_1
        simp [ld, m]
      unfold loopF
      simp [e, i, fresh, hb]
    | false =>
      obtain ⟨z3, i⟩ := in_loop x0 ys (W ++ [y]) (S ++ [y]) (some (.dat (enc y))) (fun g mg => by
        rcases List.mem_append.mp mg with mg | mg
        · exact a g mg
        · rw [List.mem_singleton.mp mg]; exact gy) (fun g mg => b g (List.mem_cons_of_mem _ mg)) (by simp; omega) (by simp; omega)
      refine ⟨z3, ?_⟩
      rw [hb] at m
      have e : bl__law_reached_1 [x0, some (.own (.lst (encs W))), some (.own (.lst (encs S))), some (.dat (enc y))] = .nxt [x0, some (.own (.lst (encs (W ++ [y])))), some (.own (.lst (encs (S ++ [y])))), some (.dat (enc y))] := by
        unfold bl__law_reached_1
        simp [ld, m, isL, putC, l1, l2, encs_app, encs]
      unfold loopF
      simp [e, i, fresh, hb]
end W_k12
end
section
set_option maxRecDepth 100000
set_option maxHeartbeats 2000000
namespace W_k12
open PySem L2 PyProof.Rows PySem.Spec Ab
theorem Al.trans {f g h : Fig} (a : Al f g) (b : Al g h) : Al f h := ⟨⟨b.h.trans a.h, b.n.trans a.n, b.c.trans a.c, b.z.trans a.z⟩, b.p.trans a.p⟩
theorem last_of {W : List Fig} (h : W ≠ []) : ∃ (V : List Fig) (w : Fig), W = V ++ [w] := ⟨W.dropLast, W.getLast h, (List.dropLast_concat_getLast h).symm⟩
theorem reach_loop {f : Fig} (gf : Gd f) (hst : ∀ g, Al f g → m__law_stepped [enc g] = some (.lst (encs (stepL g))) ∧ (stepL g).length ≤ 50000) (hM : (arrs f).length ≤ 1000) : ∀ (n : Nat) (W S : List Fig) (x0 x3 : Option A), n ≤ 5000 → S.Nodup → (∀ x ∈ S, Al f x) → (∀ x ∈ S, x ∈ arrs f) → (∀ x ∈ W, x ∈ S) → (∀ x ∈ S, x ∉ W → ∀ y ∈ stepL x, y ∈ S) → (arrs f).length + W.length < n + S.length →
    ∃ (T : List Fig) (z3 : Option A), loopW bt__law_reached_3 bl__law_reached_2 n [x0, some (.own (.lst (encs W))), some (.own (.lst (encs S))), x3] = .nxt [x0, some (.own (.lst [])), some (.own (.lst (encs T))), z3] ∧ T.Nodup ∧ (∀ x ∈ T, Al f x) ∧ (∀ x ∈ T, x ∈ arrs f) ∧ (∀ x ∈ S, x ∈ T) ∧ ∀ x ∈ T, ∀ y ∈ stepL x, y ∈ T
  | 0, W, S, x0, x3, _, hn, _, hs, _, _, hm => by
    have := nodup_len hn hs
    omega
  | n + 1, W, S, x0, x3, hN, hn, ha, hs, hw, hc, hm => by
    have hl := nodup_len hn hs
    have gS : Gds S := fun x m => gf.kp (ha x m).toKp
    by_cases h0 : W = []
    · subst h0
      refine ⟨S, x3, ?_, hn, ha, hs, fun x m => m, fun x m y hy => hc x m List.not_mem_nil y hy⟩
      unfold loopW
      have t : bt__law_reached_3 [x0, some (.own (.lst (encs []))), some (.own (.lst (encs S))), x3] = .ok false [x0, some (.own (.lst (encs []))), some (.own (.lst (encs S))), x3] := by
        unfold bt__law_reached_3; simp [encs]
      rw [t]
      rfl
    · obtain ⟨V, w, rfl⟩ := last_of h0
      have wS : w ∈ S := hw w (by simp)
      obtain ⟨st, sl⟩ := hst w (ha w wS)
      have aw := ha w wS
      have gw : Gd w := gS w wS
      have gy : Gds (stepL w) := fun y my => gw.kp (stepL_al _ w y (Nat.le_refl _) my).toKp
      simp only [List.length_append, List.length_cons, List.length_nil] at hm
      obtain ⟨z, i⟩ := in_loop x0 (stepL w) V S x3 gS gy (by omega) (by omega)
      have fl : ∀ y ∈ fresh S (stepL w), y ∈ stepL w := fresh_sub
      obtain ⟨T, z3, e, t1, t2, t3, t4, t5⟩ := reach_loop gf hst hM n (V ++ fresh S (stepL w)) (S ++ fresh S (stepL w)) x0 z (by omega) (fresh_nodup hn)
        (fun x m => (List.mem_append.mp m).elim (ha x) fun m => aw.trans (stepL_al _ w x (Nat.le_refl _) (fl x m)))
        (fun x m => (List.mem_append.mp m).elim (hs x) fun m => arrs_step _ f (Nat.le_refl _) w x (hs w wS) (fl x m))
        (fun x m => (List.mem_append.mp m).elim (fun m => List.mem_append.mpr (.inl (hw x (by simp [m])))) fun m => List.mem_append.mpr (.inr m))
        (fun x m nx y hy => by
          have n1 : x ∉ V := fun z => nx (List.mem_append.mpr (.inl z))
          have n2 : x ∉ fresh S (stepL w) := fun z => nx (List.mem_append.mpr (.inr z))
          have xS : x ∈ S := (List.mem_append.mp m).resolve_right n2
          by_cases e : x = w
          · rw [e] at hy; exact fresh_all y hy
          · exact List.mem_append.mpr (.inl (hc x xS (by simp [n1, e]) y hy)))
        (by simp only [List.length_append]; omega)
      refine ⟨T, z3, ?_, t1, t2, t3, fun x m => t4 x (List.mem_append.mpr (.inl m)), t5⟩
      have t : bt__law_reached_3 [x0, some (.own (.lst (encs (V ++ [w])))), some (.own (.lst (encs S))), x3] = .ok true [x0, some (.own (.lst (encs (V ++ [w])))), some (.own (.lst (encs S))), x3] := by
        unfold bt__law_reached_3
        have : (0 : Int) < (V.length : Int) + 1 := by omega
        simp [this]
      have b : bl__law_reached_2 [x0, some (.own (.lst (encs (V ++ [w])))), some (.own (.lst (encs S))), x3] = .nxt [x0, some (.own (.lst (encs (V ++ fresh S (stepL w))))), some (.own (.lst (encs (S ++ fresh S (stepL w))))), z] := by
        unfold bl__law_reached_2
        have e1 : (encs (V ++ [w])).getLast? = some (enc w) := by rw [encs_app]; simp [encs]
        have e2 : (encs (V ++ [w])).dropLast = encs V := by rw [encs_app]; simp [encs]
        simp [e1, e2, putC, st, i]
      unfold loopW
      rw [t]
      dsimp only
      rw [b]
      exact e
theorem v_reached {f : Fig} (gf : Gd f) (hst : ∀ g, Al f g → m__law_stepped [enc g] = some (.lst (encs (stepL g))) ∧ (stepL g).length ≤ 50000) (hM : (arrs f).length ≤ 900) : ∃ T : List Fig, m__law_reached [enc f] = some (encs T) ∧ T.Nodup ∧ (∀ x ∈ T, Al f x) ∧ T.length ≤ (arrs f).length ∧ f ∈ T ∧ ∀ x ∈ T, ∀ y ∈ stepL x, y ∈ T := by
  obtain ⟨T, z3, e, t1, t2, t3, t4, t5⟩ := reach_loop gf hst (by omega) 1000 [f] [f] (some (.dat (enc f))) none (by decide) (List.nodup_cons.mpr ⟨List.not_mem_nil, List.nodup_nil⟩)
    (fun x m => by rw [List.mem_singleton.mp m]; exact Al.refl f) (fun x m => by rw [List.mem_singleton.mp m]; exact arrs_self f) (fun x m => m) (fun x m nx => absurd m nx) (by simp only [List.length_cons, List.length_nil]; omega)
  refine ⟨T, ?_, t1, t2, nodup_len t1 t3, t4 f (List.mem_singleton.mpr rfl), t5⟩
  have h : ∃ β, b__law_reached (inP 4 1 [enc f]) = .ret (.lst (encs T)) β := by
    unfold b__law_reached inP
    simp only [encs] at e
    simp [e]
  obtain ⟨β, h⟩ := h
  exact runL_lst rfl h
end W_k12
end
section
set_option maxRecDepth 100000
set_option maxHeartbeats 2000000
namespace W_k12
open PySem L2 PyProof.Rows PySem.Spec Ab
/-! ### the steps that the law lists -/
theorem v_with2 (f : Fig) (ps : List Fig) (v : D) (h : ps.length = f.parts.length) (hb : ∀ c, f ≠ .bead c) (hv : v = .tup (encs ps) ∨ v = .lst (encs ps)) (hl : ps.length ≤ 1000) : m__law_with [enc f, v] = some (enc (withP f ps)) := by
  have fin : (∃ β, b__law_with (inP 2 2 [enc f, v]) = .ret (.dat (enc (withP f ps))) β) → m__law_with [enc f, v] = some (enc (withP f ps)) := fun ⟨β, e⟩ => runP_dat rfl e
  apply fin
  cases f with
  | nothing => match ps, h with | [], _ => rcases hv with rfl | rfl <;> (unfold b__law_with inP; simp [enc, encs, withP, memD, flat, dv, inV, eqV])
  | bead c => exact absurd rfl (hb c)
  | left g => match ps, h with | [x], _ => rcases hv with rfl | rfl <;> (unfold b__law_with inP; simp [enc, encs, withP, memD, flat, dv, inV, eqV])
  | right g => match ps, h with | [x], _ => rcases hv with rfl | rfl <;> (unfold b__law_with inP; simp [enc, encs, withP, memD, flat, dv, inV, eqV])
  | pair a b => match ps, h with | [x, y], _ => rcases hv with rfl | rfl <;> (unfold b__law_with inP; simp [enc, encs, withP, memD, flat, dv, inV, eqV])
  | many k qs => rcases hv with rfl | rfl <;> (unfold b__law_with inP; cases k <;> simp [enc, withP, Mn.w, memD, flat, dv, inV, eqV])
theorem set_split3 {A B : List Fig} {p y : Fig} : (encs (A ++ p :: B)).take A.length ++ ([enc y] ++ (encs (A ++ p :: B)).drop (A.length + 1)) = encs (A ++ y :: B) := by
  have e : (encs A).length = A.length := encs_len A
  rw [encs_app, encs_app, List.take_append_of_le_length (by omega), ← e, List.take_length, List.drop_append, List.drop_of_length_le (by omega), show (encs A).length + 1 - (encs A).length = 1 by omega]
  simp [encs]
theorem st_in {mm : List D → Option D} (f : Fig) (hb : ∀ c, f ≠ .bead c) (A B : List Fig) (p : Fig) (hl : (A ++ p :: B).length = f.parts.length) (hn : f.parts.length ≤ 1000) : ∀ (ys : List Fig) (F : List D) (x5 : Option Ab.A), F.length + ys.length ≤ 90000 →
    ∃ z, loopF (gN 5) (bl__law_stepped_3 mm) (encs ys) [some (.dat (enc f)), some (.dat (.tup (encs (A ++ p :: B)))), some (.own (.lst F)), some (.dat (.int (A.length : Int))), some (.dat (enc p)), x5] =
      .nxt [some (.dat (enc f)), some (.dat (.tup (encs (A ++ p :: B)))), some (.own (.lst (F ++ encs (ys.map fun y => withP f (A ++ y :: B))))), some (.dat (.int (A.length : Int))), some (.dat (enc p)), z]
  | [], F, x5, _ => ⟨x5, by simp [encs, loopF]⟩
  | y :: ys, F, x5, hF => by
    simp only [List.length_cons] at hF
    obtain ⟨z, i⟩ := st_in f hb A B p hl hn ys (F ++ [enc (withP f (A ++ y :: B))]) (some (.dat (enc y))) (by simp; omega)
    refine ⟨z, ?_⟩
    have hl2 : (A ++ y :: B).length = f.parts.length := by rw [← hl]; simp
    have w := v_with2 f (A ++ y :: B) (.tup (encs (A ++ y :: B))) hl2 hb (.inl rfl) (by omega)
    have c1 : Ab.cutD (encs (A ++ p :: B)) none (some (A.length : Int)) = (encs (A ++ p :: B)).take A.length := cutD_to
    have c2 : Ab.cutD (encs (A ++ p :: B)) (some ((A.length : Int) + 1)) none = (encs (A ++ p :: B)).drop (A.length + 1) := by
      rw [show (A.length : Int) + 1 = ((A.length + 1 : Nat) : Int) by omega, cutD_from]
    have sp := set_split3 (A := A) (B := B) (p := p) (y := y)
    have hL : (encs (A ++ p :: B)).length = f.parts.length := by rw [encs_len, hl]
    have l1 : min A.length f.parts.length ≤ 99999 := by omega
    have l2 : min A.length f.parts.length + 1 + (f.parts.length - (A.length + 1)) ≤ 100000 := by omega
    have l3 : F.length < 100000 := by omega
    have b : bl__law_stepped_3 mm [some (.dat (enc f)), some (.dat (.tup (encs (A ++ p :: B)))), some (.own (.lst F)), some (.dat (.int (A.length : Int))), some (.dat (enc p)), some (.dat (enc y))] = .nxt [some (.dat (enc f)), some (.dat (.tup (encs (A ++ p :: B)))), some (.own (.lst (F ++ [enc (withP f (A ++ y :: B))]))), some (.dat (.int (A.length : Int))), some (.dat (enc p)), some (.dat (enc y))] := by
      unfold bl__law_stepped_3
      generalize encs (A ++ p :: B) = PS at *
      generalize enc f = EF at *
      have sp' : List.take A.length PS ++ enc y :: List.drop (A.length + 1) PS = encs (A ++ y :: B) := by simpa using sp
      simp [c1, c2, hL, l1, l2, sp', w, isL, putC, l3]
    show loopF _ _ (enc y :: encs ys) _ = _
    unfold loopF
    have gt : gN 5 (enc y) [some (.dat (enc f)), some (.dat (.tup (encs (A ++ p :: B)))), some (.own (.lst F)), some (.dat (.int (A.length : Int))), some (.dat (enc p)), x5] = some [some (.dat (enc f)), some (.dat (.tup (encs (A ++ p :: B)))), some (.own (.lst F)), some (.dat (.int (A.length : Int))), some (.dat (enc p)), some (.dat (enc y))] := rfl
    rw [gt]
    dsimp only
    rw [b]
    dsimp only
    rw [i]
    simp [encs]
end W_k12
end
section
set_option maxRecDepth 100000
set_option maxHeartbeats 2000000
namespace W_k12
open PySem L2 PyProof.Rows PySem.Spec Ab
theorem st_parts {mm : List D → Option D} (f : Fig) (hb : ∀ c, f ≠ .bead c) (hn : f.parts.length ≤ 1000) : ∀ (B A : List Fig) (F : List D) (x3 x4 x5 : Option Ab.A), (A ++ B).length = f.parts.length → (∀ p ∈ B, mm [enc p] = some (.lst (encs (stepL p)))) → F.length + (stepLs A B).length ≤ 90000 →
    ∃ z3 z4 z5, loopF (gT 2 (gsC (gN 3) (gsC (gN 4) gsN))) (bl__law_stepped_4 mm) (enumL (A.length : Int) (encs B)) [some (.dat (enc f)), some (.dat (.tup (encs (A ++ B)))), some (.own (.lst F)), x3, x4, x5] =
      .nxt [some (.dat (enc f)), some (.dat (.tup (encs (A ++ B)))), some (.own (.lst (F ++ encs ((stepLs A B).map (withP f))))), z3, z4, z5]
  | [], A, F, x3, x4, x5, _, _, _ => ⟨x3, x4, x5, by simp [encs, enumL, loopF, stepLs]⟩
  | p :: B, A, F, x3, x4, x5, hl, hm, hF => by
    simp only [stepLs, List.length_append, List.length_map] at hF
    obtain ⟨z, r⟩ := st_in (mm := mm) f hb A B p hl hn (stepL p) F x5 (by omega)
    obtain ⟨z3, z4, z5, i⟩ := st_parts f hb hn B (A ++ [p]) (F ++ encs ((stepL p).map fun y => withP f (A ++ y :: B))) (some (.dat (.int (A.length : Int)))) (some (.dat (enc p))) z (by rw [← hl]; simp) (fun q m => hm q (List.mem_cons_of_mem _ m)) (by simp only [List.length_append, encs_len, List.length_map]; omega)
    refine ⟨z3, z4, z5, ?_⟩
    have hj : (((A ++ [p]).length : Nat) : Int) = (A.length : Int) + 1 := by simp
    have e0 : A ++ [p] ++ B = A ++ p :: B := by simp
    rw [hj, e0] at i
    have m := hm p List.mem_cons_self
    have b : bl__law_stepped_4 mm [some (.dat (enc f)), some (.dat (.tup (encs (A ++ p :: B)))), some (.own (.lst F)), some (.dat (.int (A.length : Int))), some (.dat (enc p)), x5] = .nxt [some (.dat (enc f)), some (.dat (.tup (encs (A ++ p :: B)))), some (.own (.lst (F ++ encs ((stepL p).map fun y => withP f (A ++ y :: B))))), some (.dat (.int (A.length : Int))), some (.dat (enc p)), z] := by
      unfold bl__law_stepped_4
      simp only [a_sFor, a_qL, a_xCall, a_aCons, a_aNil, a_xVar, List.getElem?_cons_zero, List.getElem?_cons_succ, bnd_s, m]
      exact r
    show loopF _ _ (.tup [.int (A.length : Int), enc p] :: enumL ((A.length : Int) + 1) (encs B)) _ = _
    unfold loopF
    have gt : gT 2 (gsC (gN 3) (gsC (gN 4) gsN)) (.tup [.int (A.length : Int), enc p]) [some (.dat (enc f)), some (.dat (.tup (encs (A ++ p :: B)))), some (.own (.lst F)), x3, x4, x5] = some [some (.dat (enc f)), some (.dat (.tup (encs (A ++ p :: B)))), some (.own (.lst F)), some (.dat (.int (A.length : Int))), some (.dat (enc p)), x5] := rfl
    rw [gt]
    dsimp only
    rw [b]
    dsimp only
    rw [i, stepLs]
    simp [encs_map, List.map_map, Function.comp_def]
theorem app_loop {body : State → Out} {E : Nat → D} (a b : Option Ab.A) : ∀ (l : List Nat) (F : List D) (x3 x4 x5 : Option Ab.A), (∀ j ∈ l, ∀ G : List D, G.length ≤ 80000 → body [a, b, some (.own (.lst G)), some (.dat (.int (j : Int))), x4, x5] = .nxt [a, b, some (.own (.lst (G ++ [E j]))), some (.dat (.int (j : Int))), x4, x5]) → F.length + l.length ≤ 80000 →
    ∃ z3, loopF (gN 3) body (l.map fun (j : Nat) => D.int j) [a, b, some (.own (.lst F)), x3, x4, x5] = .nxt [a, b, some (.own (.lst (F ++ l.map E))), z3, x4, x5]
  | [], F, x3, x4, x5, _, _ => ⟨x3, by simp [loopF]⟩
  | j :: l, F, x3, x4, x5, h, hF => by
    simp only [List.length_cons] at hF
    have e := h j List.mem_cons_self F (by omega)
    obtain ⟨z3, i⟩ := app_loop a b l (F ++ [E j]) (some (.dat (.int (j : Int)))) x4 x5 (fun k m => h k (List.mem_cons_of_mem _ m)) (by simp; omega)
    refine ⟨z3, ?_⟩
    rw [List.map_cons]
    unfold loopF
    have gt : gN 3 (.int (j : Int)) [a, b, some (.own (.lst F)), x3, x4, x5] = some [a, b, some (.own (.lst F)), some (.dat (.int (j : Int))), x4, x5] := rfl
    rw [gt]
    dsimp only
    rw [e]
    dsimp only
    rw [i]
    simp
end W_k12
end
section
set_option maxRecDepth 100000
set_option maxHeartbeats 2000000
namespace W_k12
open PySem L2 PyProof.Rows PySem.Spec Ab
theorem ownL_len (k : Mn) (ps : List Fig) : (ownL k ps).length ≤ ps.length - 1 := by cases k <;> simp [ownL]
mutual
theorem stepL_len : ∀ f : Fig, (stepL f).length + 1 ≤ Ab.cnt f
  | .nothing => Nat.le_refl _
  | .bead _ => Nat.le_refl _
  | .left f => by have := stepL_len f; simp only [stepL, List.length_map, Ab.cnt]; omega
  | .right f => by have := stepL_len f; simp only [stepL, List.length_map, Ab.cnt]; omega
  | .pair f g => by have := stepL_len f; have := stepL_len g; simp only [stepL, List.length_append, List.length_map, Ab.cnt]; omega
  | .many k ps => by
    have h1 := ownL_len k ps
    have h2 := stepLs_len ps []
    simp only [stepL, List.length_append, List.length_map, Ab.cnt]; omega
theorem stepLs_len : ∀ (ps A : List Fig), (stepLs A ps).length + ps.length ≤ cnts ps
  | [], A => Nat.le_refl _
  | p :: ps, A => by
    have h1 := stepL_len p
    have h2 := stepLs_len ps (A ++ [p])
    simp only [stepLs, List.length_append, List.length_map, List.length_cons, cnts]; omega
end
theorem sw_enc {ps : List Fig} {j : Nat} (h : j + 1 < ps.length) : (encs ps).take j ++ enc ps[j + 1] :: enc ps[j] :: (encs ps).drop (j + 2) = encs (swapAt j ps) := by
  unfold swapAt
  rw [List.getElem?_eq_getElem h, List.getElem?_eq_getElem (by omega : j < ps.length)]
  dsimp only
  rw [encs_app, encs_app]
  simp [encs_map, List.map_take, List.map_drop, encs]
theorem fz2 (a b x y z : Option Ab.A) (F : List D) : frzD 2 [a, b, some (.own (.lst F)), x, y, z] = [a, b, some (.dat (.lst F)), x, y, z] := rfl
theorem v_stepped : ∀ (n : Nat) (f : Fig), hgt f ≤ n → Gd f → mF__law_stepped n [enc f] = some (.lst (encs (stepL f)))
  | 0, f, h, _ => by cases f <;> simp [hgt] at h
  | n + 1, f, h, hg => by
    have sub : ∀ p ∈ f.parts, mF__law_stepped n [enc p] = some (.lst (encs (stepL p))) := fun p m => v_stepped n p (by have := hgt_parts m; omega) (hg.parts m)
    have hcn := hg.n
    have hpn : f.parts.length ≤ 1000 := by have := cnts_len f.parts; have := cnt_parts f; omega
    have sl := stepLs_len f.parts []
    have hcp := cnt_parts f
    have lp : (∀ c, f ≠ .bead c) → ∀ (F : List D) (x3 x4 x5 : Option Ab.A), F.length ≤ 1000 → ∃ z3 z4 z5, loopF (gT 2 (gsC (gN 3) (gsC (gN 4) gsN))) (bl__law_stepped_4 (mF__law_stepped n)) (enumL 0 (encs f.parts)) [some (.dat (enc f)), some (.dat (.tup (encs f.parts))), some (.own (.lst F)), x3, x4, x5] =
        .nxt [some (.dat (enc f)), some (.dat (.tup (encs f.parts))), some (.own (.lst (F ++ encs ((stepLs [] f.parts).map (withP f))))), z3, z4, z5] := fun hb F x3 x4 x5 hF => by
      exact st_parts f hb hpn f.parts [] F x3 x4 x5 rfl sub (by omega)
    have vp := v_law_parts f
    have fin : (∃ β, b__law_stepped (mF__law_stepped n) (inP 6 1 [enc f]) = .ret (.dat (.lst (encs (stepL f)))) β) → mF__law_stepped (n + 1) [enc f] = some (.lst (encs (stepL f))) := fun ⟨β, e⟩ => runP_dat rfl e
    apply fin
    unfold b__law_stepped inP
    cases f with
    | bead c => simp [enc, stepL, encs]
    | nothing => simp only [enc, encs, Fig.parts] at vp ⊢; simp [vp, memD, flat, dv, inV, eqV, stepL, encs, enumL, loopF, fz2]
    | left g =>
      obtain ⟨z3, z4, z5, l⟩ := lp (fun c z => by cases z) [] none none none (by simp)
      have e : (stepLs [] [g]).map (withP (.left g)) = (stepL g).map .left := by simp [stepLs, withP, Function.comp_def]
      simp only [Fig.parts] at l vp
      rw [e] at l
      simp only [enc, encs] at l vp ⊢
      simp [vp, l, memD, flat, dv, inV, eqV, stepL, fz2]
    | right g =>
      obtain ⟨z3, z4, z5, l⟩ := lp (fun c z => by cases z) [] none none none (by simp)
      have e : (stepLs [] [g]).map (withP (.right g)) = (stepL g).map .right := by simp [stepLs, withP, Function.comp_def]
      simp only [Fig.parts] at l vp
      rw [e] at l
      simp only [enc, encs] at l vp ⊢
      simp [vp, l, memD, flat, dv, inV, eqV, stepL, fz2]
    | pair g g' =>
      obtain ⟨z3, z4, z5, l⟩ := lp (fun c z => by cases z) [] none none none (by simp)
      have e : (stepLs [] [g, g']).map (withP (.pair g g')) = (stepL g).map (fun x => .pair x g') ++ (stepL g').map (fun x => .pair g x) := by simp [stepLs, withP, Function.comp_def]
      simp only [Fig.parts] at l vp
      rw [e] at l
      simp only [enc, encs] at l vp ⊢
      simp [vp, l, memD, flat, dv, inV, eqV, stepL, fz2]
    | many k ps =>
      simp only [Fig.parts] at vp hpn
      have d1 : ∀ j : Nat, Ab.cutD (encs ps) none (some (j : Int)) = (encs ps).take j := fun j => cutD_to
      have d2 : ∀ j : Nat, Ab.cutD (encs ps) (some (j : Int)) none = (encs ps).drop j := fun j => cutD_from
      have d3 : ∀ j : Nat, Ab.cutD (encs ps) (some ((j : Int) + 2)) none = (encs ps).drop (j + 2) := fun j => by
        rw [show (j : Int) + 2 = ((j + 2 : Nat) : Int) by omega, cutD_from]
      have wm : (stepLs [] ps).map (withP (.many k ps)) = (stepLs [] ps).map (.many k) := rfl
      have swl : ∀ x4 x5 : Option Ab.A, ∃ z3, loopF (gN 3) (bl__law_stepped_1 (mF__law_stepped n)) (rngD 0 (ps.length - 1)) [some (.dat (enc (.many k ps))), some (.dat (.tup (encs ps))), some (.own (.lst [])), none, x4, x5] = .nxt [some (.dat (enc (.many k ps))), some (.dat (.tup (encs ps))), some (.own (.lst (encs (((List.range (ps.length - 1)).map fun j => swapAt j ps).map (.many k))))), z3, x4, x5] := fun x4 x5 => by
        have r0 : rngD 0 (ps.length - 1) = (List.range (ps.length - 1)).map fun (j : Nat) => D.int j := by unfold rngD; simp
        rw [r0]
        obtain ⟨z3, i⟩ := app_loop (body := bl__law_stepped_1 (mF__law_stepped n)) (E := fun j => enc (.many k (swapAt j ps))) (some (.dat (enc (.many k ps)))) (some (.dat (.tup (encs ps)))) (List.range (ps.length - 1)) [] none x4 x5 (fun j hj G hG => by
          have hj := List.mem_range.mp hj
          have a1 : atI (encs ps) ((j : Int) + 1) = some (enc ps[j + 1]) := by
            rw [show (j : Int) + 1 = ((j + 1 : Nat) : Int) by omega, atI_encs (by omega) (by omega)]; simp
          have a2 : atI (encs ps) (j : Int) = some (enc ps[j]) := by rw [atI_encs (by omega) (by omega)]; simp
          have se := sw_enc (ps := ps) (j := j) (by omega)
          have l0 : G.length < 100000 := by omega
          have l1 : min j ps.length ≤ 99998 := by omega
          have l2 : min j ps.length + 2 + (ps.length - (j + 2)) ≤ 100000 := by omega
          unfold bl__law_stepped_1
          simp only [enc]
          simp [a1, a2, d1, d3, se, l0, l1, l2, isL, putC]) (by simp; omega)
        refine ⟨z3, ?_⟩
        rw [i]
        simp [encs_map, List.map_map, Function.comp_def]
      have hlt : ∀ m : Nat, m ≤ ps.length - 1 → m ≤ 1000 := fun m hm => by omega
      have r1 : rngOk ((ps.length : Int) - 1) = true := by
        have a : (-(2 ^ 62) : Int) ≤ -1 := by decide
        have b : (1000 : Int) < 2 ^ 62 := by decide
        exact rngOk_iff.mpr ⟨by omega, by omega⟩
      have r2 : ((ps.length : Int) - 1).toNat = ps.length - 1 := by omega
      have r3 : rngOk 1 = true := by decide
      have r4 : rngOk (ps.length : Int) = true := rng_small hpn
      have enm : ∀ l : List (List Fig), encs (l.map (Fig.many k)) = l.map fun q => enc (.many k q) := fun l => by rw [encs_map, List.map_map]; rfl
      obtain ⟨y3, sw⟩ := swl none none
      cases k with
      | row =>
        obtain ⟨z3, z4, z5, l⟩ := lp (fun c z => by cases z) [] none none none (by simp)
        simp only [Fig.parts] at l
        rw [wm] at l
        simp only [enc, Mn.w] at l vp ⊢
        simp [vp, l, memD, flat, dv, inV, eqV, stepL, ownL, fz2]
      | bag =>
        obtain ⟨z3, z4, z5, l⟩ := lp (fun c z => by cases z) (encs (((List.range (ps.length - 1)).map fun j => swapAt j ps).map (.many .bag))) y3 none none (by simp; omega)
        simp only [Fig.parts] at l
        rw [wm] at l
        simp only [enc, Mn.w] at l vp sw ⊢
        simp [-List.map_map, vp, r1, r2, sw, l, memD, flat, dv, inV, eqV, stepL, ownL, fz2, encs_app]
      | choice =>
        obtain ⟨z3, z4, z5, l⟩ := lp (fun c z => by cases z) (encs (((List.range (ps.length - 1)).map fun j => swapAt j ps).map (.many .choice))) y3 none none (by simp; omega)
        simp only [Fig.parts] at l
        rw [wm] at l
        simp only [enc, Mn.w] at l vp sw ⊢
        simp [-List.map_map, vp, r1, r2, sw, l, memD, flat, dv, inV, eqV, stepL, ownL, fz2, encs_app]
      | ring =>
        obtain ⟨y4, rt⟩ := app_loop (body := bl__law_stepped_2 (mF__law_stepped n)) (E := fun j => enc (.many .ring (rot j ps))) (some (.dat (enc (.many .ring ps)))) (some (.dat (.tup (encs ps)))) (List.range' (0 + 1) (ps.length - 1)) [] none none none (fun j hj G hG => by
          have l0 : G.length < 100000 := by omega
          have l1 : ps.length - j + min j ps.length ≤ 100000 := by omega
          have er := encs_rot j ps
          unfold bl__law_stepped_2
          simp only [enc, Mn.w]
          simp [d1, d2, er, l0, l1, isL, putC]) (by simp; omega)
        rw [← rng1] at rt
        have eo : (List.range' (0 + 1) (ps.length - 1)).map (fun j => enc (.many .ring (rot j ps))) = encs ((ownL .ring ps).map (.many .ring)) := by
          unfold ownL
          dsimp only
          rw [enm, List.map_map, List.range'_eq_map_range, List.map_map]
          refine List.map_congr_left fun j _ => ?_
          show enc (Fig.many .ring (rot (0 + 1 + j) ps)) = enc (Fig.many .ring (rot (j + 1) ps))
          rw [show 0 + 1 + j = j + 1 by omega]
        rw [eo, List.nil_append] at rt
        have ol := ownL_len .ring ps
        obtain ⟨z3, z4, z5, l⟩ := lp (fun c z => by cases z) (encs ((ownL .ring ps).map (.many .ring))) y4 none none (by rw [encs_len, List.length_map]; omega)
        simp only [Fig.parts] at l
        rw [wm] at l
        simp only [enc, Mn.w] at l vp rt ⊢
        simp [vp, r3, r4, r2, rt, l, memD, flat, dv, inV, eqV, stepL, fz2, encs_app]
end W_k12
end
section
set_option maxRecDepth 100000
set_option maxHeartbeats 2000000
namespace W_k12
open PySem L2 PyProof.Rows PySem.Spec Ab
/-! ### another figure -/
def col3 (c : Int) : Str := if c % 3 = 0 then "red" else if c % 3 = 1 then "ash" else "blue"
theorem col3_at (c : Int) : atI [D.str "red", D.str "ash", D.str "blue"] (c % 3) = some (.str (col3 c)) := by
  have q : c % 3 = 0 ∨ c % 3 = 1 ∨ c % 3 = 2 := by omega
  unfold col3
  rcases q with q | q | q <;> (rw [q]; rfl)
theorem col3_ok (c : Int) : PyData.strOk (col3 c) = true := by
  unfold col3
  split
  · exact strOk_lit (by decide +kernel)
  · split
    · exact strOk_lit (by decide +kernel)
    · exact strOk_lit (by decide +kernel)
theorem gd_with {f : Fig} {ps : List Fig} (hb : ∀ c, f ≠ .bead c) (a : Gd f) (k : Kps f.parts ps) (hc : coks ps = true) : Gd (withP f ps) := by
  have h1 := a.h
  have h2 := a.n
  have kh := k.h
  have kn := k.n
  cases f with
  | nothing => exact a
  | bead c => exact absurd rfl (hb c)
  | left g => match ps, k.l with | [x], _ => exact ⟨by simpa [coks, withP, cok] using hc, by simp only [Fig.parts, hgts, withP, hgt] at *; omega, by simp only [Fig.parts, cnts, withP, Ab.cnt] at *; omega⟩
  | right g => match ps, k.l with | [x], _ => exact ⟨by simpa [coks, withP, cok] using hc, by simp only [Fig.parts, hgts, withP, hgt] at *; omega, by simp only [Fig.parts, cnts, withP, Ab.cnt] at *; omega⟩
  | pair g g' => match ps, k.l with | [x, y], _ => exact ⟨by simpa [coks, withP, cok] using hc, by simp only [Fig.parts, hgts, withP, hgt] at *; omega, by simp only [Fig.parts, cnts, withP, Ab.cnt] at *; omega⟩
  | many kk qs => exact ⟨hc, by simp only [Fig.parts, withP, hgt] at *; omega, by simp only [Fig.parts, withP, Ab.cnt] at *; omega⟩
end W_k12
end
section
set_option maxRecDepth 100000
set_option maxHeartbeats 2000000
namespace W_k12
open PySem L2 PyProof.Rows PySem.Spec Ab
def otS (mm : List D → Option D) : State → Option D := xCall mm (aCons (xVar 5) (aCons (xVar 1) (aCons (x2 fAdd (x2 fDiv (xVar 2) (Ab.xC (.int 2))) (xVar 4)) aNil)))
theorem other_lc {mm : List D → Option D} (x0 : Option Ab.A) (h t : Int) : ∀ (ps : List Fig) (j : Int), (∀ p ∈ ps, ∀ u : Int, ∃ g, mm [enc p, .int h, .int u] = some (enc g) ∧ Kp p g) →
    ∃ qs, lcF (gT 2 (gsC (gN 4) (gsC (gN 5) gsN))) tbYes (otS mm) (enumL j (encs ps)) [x0, some (.dat (.int h)), some (.dat (.int t)), none, none, none] = some (encs qs) ∧ Kps ps qs
  | [], j, _ => ⟨[], rfl, ⟨rfl, rfl, rfl, rfl, rfl⟩⟩
  | p :: ps, j, hm => by
    obtain ⟨g, e, kp⟩ := hm p List.mem_cons_self (t / 2 + j)
    obtain ⟨qs, i, ks⟩ := other_lc x0 h t ps (j + 1) fun q m => hm q (List.mem_cons_of_mem _ m)
    refine ⟨g :: qs, ?_, ⟨by simp only [hgts, kp.h, ks.h], by simp only [cnts, kp.n, ks.n], by simp only [coks, kp.c, ks.c], by simp only [szFs, kp.z, ks.z], by simp only [List.length_cons, ks.l]⟩⟩
    show lcF _ _ _ (.tup [.int j, enc p] :: enumL (j + 1) (encs ps)) _ = _
    have s : otS mm [x0, some (.dat (.int h)), some (.dat (.int t)), none, some (.dat (.int j)), some (.dat (enc p))] = some (enc g) := by
      unfold otS
      simp [e, CDiv]
    unfold lcF
    simp [s, i, encs]
end W_k12
end
section
set_option maxRecDepth 100000
set_option maxHeartbeats 2000000
namespace W_k12
open PySem L2 PyProof.Rows PySem.Spec Ab
theorem kp_with {f : Fig} {ps : List Fig} (hb : ∀ c, f ≠ .bead c) (k : Kps f.parts ps) : Kp f (withP f ps) := by
  have kh := k.h
  have kn := k.n
  have kc := k.c
  have kz := k.z
  cases f with
  | nothing => exact ⟨rfl, rfl, rfl, rfl⟩
  | bead c => exact absurd rfl (hb c)
  | left g => match ps, k.l with | [x], _ => exact ⟨by simp only [Fig.parts, hgts, withP, hgt] at *; omega, by simp only [Fig.parts, cnts, withP, Ab.cnt] at *; omega, by simpa [Fig.parts, coks, withP, cok] using kc, by simp only [Fig.parts, szFs, withP, szF] at *; omega⟩
  | right g => match ps, k.l with | [x], _ => exact ⟨by simp only [Fig.parts, hgts, withP, hgt] at *; omega, by simp only [Fig.parts, cnts, withP, Ab.cnt] at *; omega, by simpa [Fig.parts, coks, withP, cok] using kc, by simp only [Fig.parts, szFs, withP, szF] at *; omega⟩
  | pair g g' => match ps, k.l with | [x, y], _ => exact ⟨by simp only [Fig.parts, hgts, withP, hgt] at *; omega, by simp only [Fig.parts, cnts, withP, Ab.cnt] at *; omega, by simpa [Fig.parts, coks, withP, cok] using kc, by simp only [Fig.parts, szFs, withP, szF] at *; omega⟩
  | many kk qs => exact Kp.many kk k
section
variable {mm : List D → Option D} {r : Str} {RS ps xs ys : List D} {h t : Int} {w : D}
theorem other_run (nr : r ≠ "bead") (vp : m__law_parts [.tup (.str r :: RS)] = some (.tup ps)) (en : (enumL 0 ps).length ≤ 100000) (hx : xs.length ≤ 50000)
    (lc : lcF (gT 2 (gsC (gN 4) (gsC (gN 5) gsN))) tbYes (otS mm) (enumL 0 ps) [some (.dat (.tup (.str r :: RS))), some (.dat (.int h)), some (.dat (.int t)), none, none, none] = some xs)
    (hy : (h % 3 = 0 ∧ 1 < (xs.length : Int) ∧ ys = xs.drop 1 ++ xs.take 1) ∨ (h % 3 = 1 ∧ ys = xs.reverse) ∨ (h % 3 ≠ 1 ∧ ¬ (h % 3 = 0 ∧ 1 < (xs.length : Int)) ∧ ys = xs))
    (e : m__law_with [.tup (.str r :: RS), .lst ys] = some w) :
    ∃ β, b__law_other mm (inP 6 3 [.tup (.str r :: RS), .int h, .int t]) = .ret (.dat w) β := by
  unfold otS at lc
  have d1 : Ab.cutD xs none (some 1) = xs.take 1 := by rw [show (1 : Int) = ((1 : Nat) : Int) from rfl, cutD_to]
  have d2 : Ab.cutD xs (some 1) none = xs.drop 1 := by rw [show (1 : Int) = ((1 : Nat) : Int) from rfl, cutD_from]
  have c1 : xs.length - 1 + min 1 xs.length ≤ 100000 := by omega
  have c2 : xs.length ≤ 100000 := by omega
  unfold b__law_other inP
  rcases hy with ⟨h0, h1, rfl⟩ | ⟨h1, rfl⟩ | ⟨h1, h0, rfl⟩
  · rw [List.drop_one] at e d2
    simp [nr, vp, en, lc, h0, h1, d1, d2, c1, e]
  · simp [nr, vp, en, lc, h1, c2, e]
  · by_cases z : h % 3 = 0
    · have hj : ¬ (1 : Int) < (ys.length : Int) := fun y => h0 ⟨z, y⟩
      simp [nr, vp, en, lc, z, hj, e]
    · simp [nr, vp, en, lc, z, h1, e]
end
theorem enumL_len : ∀ (l : List D) (j : Int), (enumL j l).length = l.length
  | [], _ => rfl
  | a :: l, j => by show (enumL (j + 1) l).length + 1 = l.length + 1; rw [enumL_len l]
theorem enc_head {f : Fig} (hb : ∀ c, f ≠ .bead c) : ∃ r RS, enc f = .tup (.str r :: RS) ∧ r ≠ "bead" := by
  cases f with
  | bead c => exact absurd rfl (hb c)
  | many k ps => exact ⟨k.w, _, rfl, by cases k <;> decide⟩
  | nothing => exact ⟨"nothing", _, rfl, by decide⟩
  | left g => exact ⟨"left", _, rfl, by decide⟩
  | right g => exact ⟨"right", _, rfl, by decide⟩
  | pair g g' => exact ⟨"pair", _, rfl, by decide⟩
theorem v_other (h : Int) : ∀ (n : Nat) (f : Fig), hgt f ≤ n → Gd f → ∀ t : Int, ∃ g, mF__law_other n [enc f, .int h, .int t] = some (enc g) ∧ Kp f g
  | 0, f, hn, _, _ => by cases f <;> simp [hgt] at hn
  | n + 1, f, hn, hg, t => by
    have fin : ∀ g, Kp f g → (∃ β, b__law_other (mF__law_other n) (inP 6 3 [enc f, .int h, .int t]) = .ret (.dat (enc g)) β) → ∃ g, mF__law_other (n + 1) [enc f, .int h, .int t] = some (enc g) ∧ Kp f g := fun g k ⟨β, e⟩ => ⟨g, runP_dat rfl e, k⟩
    by_cases hbd : ∃ c, f = .bead c
    · obtain ⟨c, rfl⟩ := hbd
      by_cases h2 : h % 3 = 2
      · refine fin (.bead (col3 t)) ⟨rfl, rfl, by simp only [cok, col3_ok]; exact hg.c.symm, rfl⟩ ?_
        unfold b__law_other inP
        simp [enc, h2, col3_at]
      · refine fin (.bead c) ⟨rfl, rfl, rfl, rfl⟩ ?_
        unfold b__law_other inP
        simp [enc, h2]
    · have hb : ∀ c, f ≠ .bead c := fun c z => hbd ⟨c, z⟩
      obtain ⟨qs, lc, ks⟩ := other_lc (mm := mF__law_other n) (some (.dat (enc f))) h t f.parts 0 fun p m u => v_other h n p (by have := hgt_parts m; omega) (hg.parts m) u
      have vp := v_law_parts f
      have hp : f.parts.length ≤ 1000 := by have := cnts_len f.parts; have := cnt_parts f; have := hg.n; omega
      have ql : qs.length = f.parts.length := ks.l
      have run : ∀ qs2 : List Fig, qs2.Perm qs → m__law_with [enc f, .lst (encs qs2)] = some (enc (withP f qs2)) := fun qs2 p => v_with2 f qs2 _ (by rw [p.length_eq]; exact ql) hb (.inr rfl) (by rw [p.length_eq, ql]; exact hp)
      obtain ⟨r, RS, er, nr⟩ := enc_head hb
      have en : (enumL 0 (encs f.parts)).length ≤ 100000 := by rw [enumL_len, encs_len]; omega
      have hx : (encs qs).length ≤ 50000 := by rw [encs_len]; omega
      rw [er] at lc vp
      have go : ∀ qs2 : List Fig, qs2.Perm qs → Kps f.parts qs2 → ((h % 3 = 0 ∧ 1 < ((encs qs).length : Int) ∧ encs qs2 = (encs qs).drop 1 ++ (encs qs).take 1) ∨ (h % 3 = 1 ∧ encs qs2 = (encs qs).reverse) ∨ (h % 3 ≠ 1 ∧ ¬ (h % 3 = 0 ∧ 1 < ((encs qs).length : Int)) ∧ encs qs2 = encs qs)) → ∃ g, mF__law_other (n + 1) [enc f, .int h, .int t] = some (enc g) ∧ Kp f g := fun qs2 p k hy => by
        have w := run qs2 p
        refine fin (withP f qs2) (kp_with hb k) ?_
        rw [er] at w ⊢
        exact other_run nr vp en hx lc hy w
      by_cases h0 : h % 3 = 0 ∧ 1 < ((encs qs).length : Int)
      · exact go (rot 1 qs) (rot_perm 1 qs) (ks.trans (kps_perm (rot_perm 1 qs))) (.inl ⟨h0.1, h0.2, (encs_rot 1 qs).symm⟩)
      · by_cases h1 : h % 3 = 1
        · exact go qs.reverse (List.reverse_perm qs) (ks.trans (kps_perm (List.reverse_perm qs))) (.inr (.inl ⟨h1, by rw [encs_map, encs_map, List.map_reverse]⟩))
        · exact go qs (List.Perm.refl _) ks (.inr (.inr ⟨h1, h0, rfl⟩))
end W_k12
end
section
set_option maxRecDepth 100000
set_option maxHeartbeats 2000000
namespace W_k12
open PySem L2 PyProof.Rows PySem.Spec Ab
/-! ### the small law's pile -/
theorem hgts_app : ∀ (a b : List Fig), hgts (a ++ b) = max (hgts a) (hgts b)
  | [], b => by simp [hgts]
  | f :: a, b => by rw [List.cons_append, hgts, hgts, hgts_app a b]; omega
theorem hgts_td (fs : List Fig) (k : Nat) : hgts fs = max (hgts (fs.take k)) (hgts (fs.drop k)) := by
  rw [← hgts_app, List.take_append_drop]
def PutOk (fs : List Fig) (cell : Int) : Prop := ∃ (fs' : List Fig) (β : State), b__law_put (inM 8 2 [.inn (.lst (encs fs)), .dat (.int cell)]) = .nxt (some (.inn (.lst (encs fs'))) :: some (.dat (.int cell)) :: β) ∧
  coks fs' = true ∧ cnts fs' ≤ cnts fs + 1 ∧ hgts fs' ≤ hgts fs + 1
theorem put_bead (fs : List Fig) (cell : Int) (hc : coks fs = true) (hb : fs.length ≤ 500) (hk : cell % 12 < 4 ∨ (cell % 12 = 11 ∧ fs.length ≤ 1) ∨ fs = []) : PutOk fs cell := by
  have h1 : fs.length < 100000 := by omega
  refine ⟨fs ++ [.bead (col3 (cell / 12))], ?_⟩
  have : ∃ β, b__law_put (inM 8 2 [.inn (.lst (encs fs)), .dat (.int cell)]) = .nxt (some (.inn (.lst (encs (fs ++ [.bead (col3 (cell / 12))])))) :: some (.dat (.int cell)) :: β) := by
    have e0 : ¬ (cell % 12 = 11 ∧ 1 < ((encs fs).length : Int)) := by
      rw [encs_len]
      rcases hk with h | ⟨h, h'⟩ | h
      · omega
      · omega
      · rw [h]; simp
    have e2 : encs (fs ++ [.bead (col3 (cell / 12))]) = encs fs ++ [.tup [.str "bead", .str (col3 (cell / 12))]] := by rw [encs_app]; rfl
    have e3 : cell % 12 < 4 ∨ cell % 12 = 11 ∨ ((encs fs).length : Int) = 0 := by
      rcases hk with h | ⟨h, h'⟩ | h
      · exact .inl h
      · exact .inr (.inl h)
      · exact .inr (.inr (by rw [h]; rfl))
    rw [e2]
    have el : (encs fs).length < 100000 := by rw [encs_len]; exact h1
    generalize encs fs = ES at *
    have ca := col3_at (cell / 12)
    unfold b__law_put inM
    by_cases k11 : cell % 12 = 11
    · have k1 : ¬ 1 < (ES.length : Int) := fun h => e0 ⟨k11, h⟩
      simp [k11, k1, putC, CDiv, el, ca]
    · by_cases k4 : cell % 12 < 4
      · simp [k11, k4, putC, CDiv, el, ca]
      · have k0 : ((ES.length : Int) = 0) := by omega
        have k0' : ES = [] := List.eq_nil_of_length_eq_zero (by omega)
        subst k0'
        simp [k11, k4, putC, CDiv, ca]
  obtain ⟨β, h⟩ := this
  exact ⟨β, h, coks_app.mpr ⟨hc, by simp [coks, cok, col3_ok]⟩, by rw [cnts_app]; simp [cnts, Ab.cnt], by simp only [hgts_app, hgts, hgt]; omega⟩
theorem rev_app {β : Type} (xs : List β) (y : β) : (xs ++ [y]).getLast? = some y := by simp
theorem put_one (gs : List Fig) (g : Fig) (cell : Int) (hc : coks (gs ++ [g]) = true) (hb : (gs ++ [g]).length ≤ 500) (hk : cell % 12 = 4 ∨ cell % 12 = 5 ∨ cell % 12 = 6) : PutOk (gs ++ [g]) cell := by
  have h1 : gs.length < 99999 := by simp at hb; omega
  have h1' : gs.length < 100000 := by omega
  have h2 : ¬ ((gs.length : Int) + 1 = 0) := by omega
  obtain ⟨hc1, hc2⟩ := coks_app.mp hc
  rcases hk with hk | hk | hk
  · refine ⟨gs ++ [g] ++ [.nothing], ?_⟩
    have : ∃ β, b__law_put (inM 8 2 [.inn (.lst (encs (gs ++ [g]))), .dat (.int cell)]) = .nxt (some (.inn (.lst (encs (gs ++ [g] ++ [.nothing])))) :: some (.dat (.int cell)) :: β) := by
      unfold b__law_put inM
      simp [hk, putC, encs_app, enc, CDiv, h1, h2, show gs.length + 1 < 100000 by omega]
    obtain ⟨β, h⟩ := this
    exact ⟨β, h, coks_app.mpr ⟨hc, rfl⟩, by rw [cnts_app (gs ++ [g])]; simp [cnts, Ab.cnt], by simp only [hgts_app, hgts, hgt]; omega⟩
  · refine ⟨gs ++ [.left g], ?_⟩
    have : ∃ β, b__law_put (inM 8 2 [.inn (.lst (encs (gs ++ [g]))), .dat (.int cell)]) = .nxt (some (.inn (.lst (encs (gs ++ [.left g])))) :: some (.dat (.int cell)) :: β) := by
      unfold b__law_put inM
      simp [hk, putC, encs_app, enc, CDiv, h1, h1', h2]
    obtain ⟨β, h⟩ := this
    exact ⟨β, h, coks_app.mpr ⟨hc1, by simpa [coks, cok] using hc2⟩, by rw [cnts_app, cnts_app]; simp [cnts, Ab.cnt]; omega, by simp only [hgts_app, hgts, hgt]; omega⟩
  · refine ⟨gs ++ [.right g], ?_⟩
    have : ∃ β, b__law_put (inM 8 2 [.inn (.lst (encs (gs ++ [g]))), .dat (.int cell)]) = .nxt (some (.inn (.lst (encs (gs ++ [.right g])))) :: some (.dat (.int cell)) :: β) := by
      unfold b__law_put inM
      simp [hk, putC, encs_app, enc, CDiv, h1, h1', h2]
    obtain ⟨β, h⟩ := this
    exact ⟨β, h, coks_app.mpr ⟨hc1, by simpa [coks, cok] using hc2⟩, by rw [cnts_app, cnts_app]; simp [cnts, Ab.cnt]; omega, by simp only [hgts_app, hgts, hgt]; omega⟩
theorem put_pair (gs : List Fig) (f g : Fig) (cell : Int) (hc : coks (gs ++ [f] ++ [g]) = true) (hb : (gs ++ [f] ++ [g]).length ≤ 500) (hk : cell % 12 = 11) : PutOk (gs ++ [f] ++ [g]) cell := by
  have h1' : gs.length < 100000 := by simp at hb; omega
  have h3 : (1 : Int) < (gs.length : Int) + 1 + 1 := by omega
  obtain ⟨hc1, hc2⟩ := coks_app.mp hc
  obtain ⟨hc3, hc4⟩ := coks_app.mp hc1
  refine ⟨gs ++ [.pair f g], ?_⟩
  have : ∃ β, b__law_put (inM 8 2 [.inn (.lst (encs (gs ++ [f] ++ [g]))), .dat (.int cell)]) = .nxt (some (.inn (.lst (encs (gs ++ [.pair f g])))) :: some (.dat (.int cell)) :: β) := by
    unfold b__law_put inM
    have e : encs (gs ++ [f] ++ [g]) = encs gs ++ [enc f] ++ [enc g] := by simp [encs_app]
    have e2 : encs (gs ++ [.pair f g]) = encs gs ++ [enc (.pair f g)] := by simp [encs_app]
    rw [e, e2]
    have e3 : (encs gs ++ [enc f] ++ [enc g]).length = gs.length + 1 + 1 := by simp
    have e4 : ((encs gs ++ [enc f] ++ [enc g]).length : Int) = (gs.length : Int) + 1 + 1 := by rw [e3]; omega
    have d1 : (encs gs ++ [enc f] ++ [enc g]).dropLast = encs gs ++ [enc f] := List.dropLast_concat
    have d2 : (encs gs ++ [enc f]).dropLast = encs gs := List.dropLast_concat
    have l1 : (encs gs ++ [enc f] ++ [enc g]).getLast? = some (enc g) := rev_app _ _
    have l2 : (encs gs ++ [enc f]).getLast? = some (enc f) := rev_app _ _
    simp [-List.append_assoc, -List.length_append, -List.cons_append, hk, putC, enc, CDiv, e4, h3, d1, d2, l1, l2, h1']
  obtain ⟨β, h⟩ := this
  refine ⟨β, h, coks_app.mpr ⟨hc3, ?_⟩, by rw [cnts_app, cnts_app, cnts_app]; simp [cnts, Ab.cnt]; omega, by simp only [hgts_app, hgts, hgt]; omega⟩
  simp [coks, cok] at hc2 hc4 ⊢
  exact ⟨hc4, hc2⟩
/-- pops -/
theorem pops (a1 a2 a3 a4 a5 a6 : Option A) : ∀ (xs : List D) (ys : List D), xs.length ≤ ys.length →
    lcE (gN 7) (xPop 0) [7] xs [some (.inn (.lst ys)), a1, a2, a3, a4, a5, a6, none] = .ok (ys.reverse.take xs.length) [some (.inn (.lst (ys.take (ys.length - xs.length)))), a1, a2, a3, a4, a5, a6, none]
  | [], ys, _ => by simp [lcE]
  | x :: xs, ys, h => by
    have hne : ys ≠ [] := by rintro rfl; simp at h
    obtain ⟨zs, z, rfl⟩ := concat_of hne
    have h' : xs.length ≤ zs.length := by simp at h; omega
    have ih := pops a1 a2 a3 a4 a5 a6 xs zs h'
    rw [lcE_cons]
    have e1 : zs.length + 1 - (xs.length + 1) = zs.length - xs.length := by omega
    have e2 : (zs ++ [z]).take (zs.length - xs.length) = zs.take (zs.length - xs.length) := by
      rw [List.take_append_of_le_length (by omega)]
    simp [putC, ih, e1, e2]
def mnOf (n : Int) : Mn := if n = 7 then .row else if n = 8 then .bag else if n = 9 then .choice else .ring
theorem many_run (ys zs ws : List D) (cell : Int) (m : Nat) (hk : cell % 12 = 7 ∨ cell % 12 = 8 ∨ cell % 12 = 9 ∨ cell % 12 = 10)
    (hne : ¬ (ys.length : Int) = 0) (hm : (if 2 + cell / 12 % 4 < (ys.length : Int) then 2 + cell / 12 % 4 else (ys.length : Int)) = (m : Int)) (hmi : rngOk m = true)
    (pp : ∀ (a1 a2 a3 a4 a5 a6 : Option A), lcE (gN 7) (xPop 0) [7] (rngD 0 m) [some (A.inn (Ct.lst ys)), a1, a2, a3, a4, a5, a6, none] =
      Res.ok ws [some (A.inn (Ct.lst zs)), a1, a2, a3, a4, a5, a6, none])
    (hr : (rngD 0 m).length ≤ 100000) (hzl : zs.length < 100000) (hwl : ws.length ≤ 100000) :
    ∃ β, b__law_put (inM 8 2 [.inn (.lst ys), .dat (.int cell)]) = .nxt (some (.inn (.lst (zs ++ [D.tup [D.str (mnOf (cell % 12)).w, D.tup ws.reverse]]))) :: some (.dat (.int cell)) :: β) := by
  have q3 : atI [D.str "row", D.str "bag", D.str "choice", D.str "ring"] 3 = some (.str "ring") := rfl
  have h2 : ¬ ys = [] := fun h => by rw [h] at hne; exact hne rfl
  rcases hk with hk | hk | hk | hk
  all_goals
    unfold b__law_put inM
    simp [hk, putC, CDiv, h2, hm, hmi, pp, Mn.w, hzl, hwl, hr, q3, mnOf]
theorem put_many (fs : List Fig) (cell : Int) (h0 : 0 ≤ cell) (hc : coks fs = true) (hb : fs.length ≤ 500) (hne : fs ≠ []) (hk : cell % 12 = 7 ∨ cell % 12 = 8 ∨ cell % 12 = 9 ∨ cell % 12 = 10) : PutOk fs cell := by
  have h2 : ¬ ((fs.length : Int) = 0) := by
    have := List.length_pos_iff.mpr hne; omega
  obtain ⟨m, hm⟩ : ∃ m : Nat, (if 2 + cell / 12 % 4 < (fs.length : Int) then 2 + cell / 12 % 4 else (fs.length : Int)) = (m : Int) := by
    split
    · exact ⟨(2 + cell / 12 % 4).toNat, by omega⟩
    · exact ⟨fs.length, rfl⟩
  have hm1 : m ≤ fs.length := by split at hm <;> omega
  have hm5 : m ≤ 500 := by omega
  have pp := fun a1 a2 a3 a4 a5 a6 => pops a1 a2 a3 a4 a5 a6 (rngD 0 m) (encs fs) (by simp [rngD]; exact hm1)
  have hr : (rngD 0 m).length = m := by simp [rngD]
  simp only [hr, encs_len] at pp
  have hrev : ((encs fs).reverse.take m).reverse = encs (fs.drop (fs.length - m)) := by
    rw [List.reverse_take, List.reverse_reverse, List.length_reverse, encs_len, encs_map, encs_map, List.map_drop]
  have htk : (encs fs).take (fs.length - m) = encs (fs.take (fs.length - m)) := by rw [encs_map, encs_map, List.map_take]
  have hz : (fs.length - m) ≤ 99999 := by omega
  have hct := cnts_take_drop fs (fs.length - m)
  have fin : ∀ k : Mn, (∃ β, b__law_put (inM 8 2 [.inn (.lst (encs fs)), .dat (.int cell)]) = .nxt (some (.inn (.lst (encs (fs.take (fs.length - m) ++ [.many k (fs.drop (fs.length - m))])))) :: some (.dat (.int cell)) :: β)) → PutOk fs cell := fun k ⟨β, h⟩ => by
    refine ⟨_, β, h, coks_app.mpr ⟨coks_iff.mpr fun f mf => coks_iff.mp hc f (List.mem_of_mem_take mf), ?_⟩, ?_, by have := hgts_td fs (fs.length - m); simp only [hgts_app, hgts, hgt]; omega⟩
    · simp only [coks, cok, Bool.and_true]
      exact coks_iff.mpr fun f mf => coks_iff.mp hc f (List.mem_of_mem_drop mf)
    · rw [cnts_app]; simp only [cnts, Ab.cnt]; omega
  have e2 : ∀ k, encs (fs.take (fs.length - m) ++ [.many k (fs.drop (fs.length - m))]) = (encs fs).take (fs.length - m) ++ [.tup [.str k.w, .tup (encs (fs.drop (fs.length - m)))]] := fun k => by
    rw [encs_app, htk]; rfl
  have hmi := rngOk_nat (n := m) (by omega)
  obtain ⟨β, h⟩ := many_run (encs fs) _ _ cell m hk (by rw [encs_len]; exact h2) (by rw [encs_len]; exact hm) hmi pp (by rw [hr]; omega) (by rw [List.length_take]; omega) (by rw [List.length_take]; omega)
  refine fin (mnOf (cell % 12)) ⟨β, ?_⟩
  rw [e2, ← hrev]
  exact h
theorem put_all (fs : List Fig) (cell : Int) (h0 : 0 ≤ cell) (hc : coks fs = true) (hb : cnts fs ≤ 100) : PutOk fs cell := by
  have hl := cnts_len fs
  by_cases hne : fs = []
  · exact put_bead fs cell hc (by omega) (.inr (.inr hne))
  by_cases h4 : cell % 12 < 4
  · exact put_bead fs cell hc (by omega) (.inl h4)
  obtain ⟨gs, g, rfl⟩ := concat_of hne
  by_cases h11 : cell % 12 = 11
  · by_cases hg : gs = []
    · subst hg; exact put_bead _ cell hc (by omega) (.inr (.inl ⟨h11, by simp⟩))
    · obtain ⟨hs, f, rfl⟩ := concat_of hg
      exact put_pair hs f g cell hc (by omega) h11
  by_cases h7 : cell % 12 < 7
  · exact put_one gs g cell hc (by omega) (by omega)
  · exact put_many _ cell h0 hc (by omega) (by simp) (by omega)
theorem v_put (fs : List Fig) (cell : Int) (h0 : 0 ≤ cell) (hc : coks fs = true) (hb : cnts fs ≤ 100) :
    ∃ fs', noExcM m__law_put [.inn (.lst (encs fs)), .dat (.int cell)] = .ok (.dat .non) [.inn (.lst (encs fs')), .dat (.int cell)] ∧ coks fs' = true ∧ cnts fs' ≤ cnts fs + 1 ∧ hgts fs' ≤ hgts fs + 1 := by
  obtain ⟨fs', β, h, h1, h2, h3⟩ := put_all fs cell h0 hc hb
  refine ⟨fs', noExc_ok ?_, h1, h2, h3⟩
  unfold m__law_put runM
  rw [h]
  rfl
theorem small_loop (s h : Option A) : ∀ (cs : List Int) (fs : List Fig) (x : Option A), coks fs = true → cnts fs + cs.length ≤ 60 →
    ∃ (gs : List Fig) (y : Option A), loopF (gN 3) bl__law_small_1 (cs.map .int) [s, h, some (.own (.lst (encs fs))), x] = .nxt [s, h, some (.own (.lst (encs gs))), y] ∧ coks gs = true ∧ cnts gs ≤ cnts fs + cs.length ∧ hgts gs ≤ hgts fs + cs.length
  | [], fs, x, hc, _ => ⟨fs, x, rfl, hc, Nat.le_refl _, Nat.le_refl _⟩
  | c :: cs, fs, x, hc, hn => by
    simp only [List.length_cons] at hn
    obtain ⟨fs', e, h1, h2, h3⟩ := v_put fs (c % 1000000000000) (Int.emod_nonneg _ (by decide)) hc (by omega)
    obtain ⟨gs, y, i, i1, i2, i3⟩ := small_loop s h cs fs' (some (.dat (.int c))) h1 (by omega)
    refine ⟨gs, y, ?_, i1, by simp only [List.length_cons]; omega, by simp only [List.length_cons]; omega⟩
    have eb : bl__law_small_1 [s, h, some (.own (.lst (encs fs))), some (.dat (.int c))] = .nxt [s, h, some (.own (.lst (encs fs'))), some (.dat (.int c))] := by
      unfold bl__law_small_1
      simp [CPow, e, putC]
    show loopF _ _ (.int c :: cs.map .int) _ = _
    unfold loopF
    simp [eb, i]
theorem v_small (cs : List Int) (h : Int) (hl : cs.length ≤ 5) : ∃ (k : Mn) (fs : List Fig), m__law_small [.lst (cs.map .int), .int h] = some (enc (.many k fs)) ∧ coks fs = true ∧ cnts fs ≤ 5 ∧ hgts fs ≤ 5 := by
  obtain ⟨fs, y, e, h1, h2, h3⟩ := small_loop (some (.dat (.lst (cs.map .int)))) (some (.dat (.int h))) cs [] none rfl (by simp [cnts]; omega)
  simp only [cnts, hgts] at h2 h3
  have key : ∀ k : Mn, (∃ β, b__law_small (inP 4 2 [.lst (cs.map .int), .int h]) = .ret (.dat (enc (.many k fs))) β) → ∃ (k : Mn) (fs : List Fig), m__law_small [.lst (cs.map .int), .int h] = some (enc (.many k fs)) ∧ coks fs = true ∧ cnts fs ≤ 5 ∧ hgts fs ≤ 5 := fun k ⟨β, e⟩ => ⟨k, fs, runP_dat rfl e, h1, by omega, by omega⟩
  have q : h % 6 = 0 ∨ h % 6 = 1 ∨ h % 6 = 2 ∨ h % 6 = 3 ∨ h % 6 = 4 ∨ h % 6 = 5 := by omega
  simp only [encs_nil] at e
  have run : ∀ k : Mn, atI [D.str "bag", D.str "ring", D.str "choice", D.str "bag", D.str "ring", D.str "row"] (h % 6) = some (.str k.w) → ∃ β, b__law_small (inP 4 2 [.lst (cs.map .int), .int h]) = .ret (.dat (enc (.many k fs))) β := fun k hk => by
    have l : (encs fs).length ≤ 100000 := by rw [encs_len]; have := cnts_len fs; omega
    unfold b__law_small inP
    simp only [enc]
    generalize encs fs = ES at *
    simp [e, hk, l]
  rcases q with q | q | q | q | q | q
  · exact key .bag (run .bag (by rw [q]; rfl))
  · exact key .ring (run .ring (by rw [q]; rfl))
  · exact key .choice (run .choice (by rw [q]; rfl))
  · exact key .bag (run .bag (by rw [q]; rfl))
  · exact key .ring (run .ring (by rw [q]; rfl))
  · exact key .row (run .row (by rw [q]; rfl))
end W_k12
end
section
set_option maxRecDepth 100000
set_option maxHeartbeats 2000000
namespace W_k12
open PySem L2 PyProof.Rows PySem.Spec Ab
theorem neQ_of {a b : D} (p : plainD a = true) (q : plainD b = true) (h : depD a ≤ 190) (na : noBl a = true) (nb : noBl b = true) {c : Bool} (hc : c = true ↔ a = b) : fNeQ a b = some (.bl (!c)) := by
  unfold fNeQ
  rw [if_pos (by unfold eqOk; simp only [p, q, Bool.true_and, decide_eq_true_eq]; omega)]
  have : eqv a b = c := by
    unfold eqv
    rw [Bool.eq_iff_iff, hc]
    constructor
    · exact eqv_eq a b na nb
    · rintro rfl; exact eqv_refl a
  rw [this]
theorem ne_same {f g : Fig} (a : Gd f) (b : Gd g) (h : f = g) : fNeQ (enc f) (enc g) = some (.bl false) := by
  have d := dep_enc f
  have := a.h
  exact neQ_of (c := true) (plain_enc _ a.c) (plain_enc _ b.c) (by omega) (noBl_enc _) (noBl_enc _) (by simp [h])
theorem eqF {f g : Fig} (a : Gd f) (b : Gd g) {c : Bool} (hc : c = true ↔ f = g) : fEqQ (enc f) (enc g) = some (.bl c) := by
  have d := dep_enc f
  have := a.h
  exact eqQ_of (plain_enc f a.c) (plain_enc g b.c) (by omega) (noBl_enc f) (noBl_enc g) ⟨fun h => by rw [hc.mp h], fun h => hc.mpr (enc_inj _ _ h)⟩
theorem look_loop {f : Fig} (x0 x1 x2 x3 x5 : Option A) : ∀ (T : List Fig) (x6 : Option A), (∀ x ∈ T, Gd x ∧ plF x = plF f) →
    ∃ y6, loopF (gN 6) bl_law_1 (encs T) [x0, x1, x2, x3, some (.dat (enc (plF f))), x5, x6] = .nxt [x0, x1, x2, x3, some (.dat (enc (plF f))), x5, y6]
  | [], x6, _ => ⟨x6, rfl⟩
  | x :: T, x6, h => by
    obtain ⟨gx, px⟩ := h x List.mem_cons_self
    obtain ⟨y, i⟩ := look_loop x0 x1 x2 x3 x5 T (some (.dat (enc x))) fun z m => h z (List.mem_cons_of_mem _ m)
    refine ⟨y, ?_⟩
    have vp : m_plain [enc x] = some (enc (plF f)) := by rw [← px]; exact v_plain 60 x gx.h gx
    have ne : fNeQ (enc (plF f)) (enc (plF f)) = some (.bl false) := by
      have := ne_same gx.pl gx.pl rfl
      rw [px] at this
      exact this
    have eb : bl_law_1 [x0, x1, x2, x3, some (.dat (enc (plF f))), x5, some (.dat (enc x))] = .nxt [x0, x1, x2, x3, some (.dat (enc (plF f))), x5, some (.dat (enc x))] := by
      unfold bl_law_1
      generalize enc (plF f) = EP at *
      generalize enc x = EX at *
      simp [vp, ne]
    show loopF _ _ (enc x :: encs T) _ = _
    generalize enc (plF f) = EP at *
    unfold loopF
    simp [eb, i]
theorem goal : ∀ ns : List Int, ns.length ≤ 63 → m_law [.lst (ns.map .int)] = some (.bl true) := fun ns hl => by
  obtain ⟨ms, e1, hm⟩ := v_mix ns hl
  obtain ⟨c0, e2⟩ := v_cell ms 0 (by decide)
  obtain ⟨c1, e3⟩ := v_cell ms 1 (by decide)
  obtain ⟨k, fs, e4, hc, hcn, hh⟩ := v_small ((ms.drop 2).take 5) c0 (by rw [List.length_take]; omega)
  have gf : Gd (.many k fs) := ⟨by simpa [cok] using hc, by simp only [hgt]; omega, by simp only [Ab.cnt]; omega⟩
  obtain ⟨g, e5, kp⟩ := v_other (c0 / 6) 60 (.many k fs) gf.h gf (c1 % 1000000000000)
  have e5 : m__law_other [enc (.many k fs), .int (c0 / 6), .int (c1 % 1000000000000)] = some (enc g) := e5
  have gg : Gd g := gf.kp kp
  have e6 : m_plain [enc (.many k fs)] = some (enc (plF (.many k fs))) := v_plain 60 _ gf.h gf
  have e7 : m_plain [enc g] = some (enc (plF g)) := v_plain 60 _ gg.h gg
  have ha : (arrs (.many k fs)).length ≤ 120 := by
    have h := arrs_len (.many k fs)
    have h2 : fac (Ab.cnt (.many k fs) - 1) ≤ 120 := by
      have h3 : Ab.cnt (.many k fs) - 1 ≤ 5 := by simp only [Ab.cnt]; omega
      generalize Ab.cnt (.many k fs) - 1 = n at h3
      match n, h3 with
      | 0, _ => decide | 1, _ => decide | 2, _ => decide | 3, _ => decide | 4, _ => decide | 5, _ => decide
    omega
  obtain ⟨T, e8, t1, t2, t3, t4, t5⟩ := v_reached gf (fun x a => ⟨v_stepped 60 x (gf.kp a.toKp).h (gf.kp a.toKp), by have := stepL_len x; have := (gf.kp a.toKp).n; omega⟩) (by omega)
  generalize hF : Fig.many k fs = F at *
  have gT : Gds T := fun x m => gf.kp (t2 x m).toKp
  have dF : plF F ∈ T := walk_in t5 _ F _ t4 (walk_rel F)
  have m1 : memQ true (enc (plF F)) (.lst (encs T)) = some (.bl false) := by
    rw [memQ_encs gT gf.pl, inB_iff.mpr dF]; rfl
  have same : inB T g = true ↔ plF g = plF F := ⟨fun h => (t2 g (inB_iff.mp h)).p, fun h => inB_iff.mpr (walk_in t5 _ F g t4 (walk_way h.symm))⟩
  have m2 : memQ false (enc g) (.lst (encs T)) = some (.bl (inB T g)) := by
    rw [memQ_encs gT gg]; cases inB T g <;> rfl
  have q : fEqQ (enc (plF g)) (enc (plF F)) = some (.bl (inB T g)) := eqF gg.pl gf.pl same
  have cut : Ab.cutD (ms.map D.int) (some 2) (some 7) = ((ms.drop 2).take 5).map D.int := by
    rw [show (2 : Int) = ((2 : Nat) : Int) from rfl, show (7 : Int) = ((7 : Nat) : Int) from rfl, cutD_mid (by decide), List.map_take, List.map_drop]
  have cut2 : Ab.cutD (encs T) none (some 200) = encs (T.take 200) := by
    rw [show (200 : Int) = ((200 : Nat) : Int) from rfl, cutD_to, encs_map, encs_map, List.map_take]
  have lT : (encs T).length ≤ 100000 := by rw [encs_len]; omega
  have lT2 : (encs (T.take 200)).length ≤ 100000 := by rw [encs_len, List.length_take]; omega
  have l5 : (((ms.drop 2).take 5).map D.int).length ≤ 100000 := by rw [List.length_map, List.length_take]; omega
  obtain ⟨y6, lp⟩ := look_loop (f := F) (some (.dat (.lst (ms.map .int)))) (some (.dat (.int c0))) (some (.dat (enc F))) (some (.dat (enc g))) (some (.dat (.lst (encs T)))) (T.take 200) none fun x m => ⟨gT x (List.mem_of_mem_take m), (t2 x (List.mem_of_mem_take m)).p⟩
  have : ∃ β, b_law (inP 7 1 [.lst (ns.map .int)]) = .ret (.dat (.bl true)) β := by
    unfold b_law inP
    generalize ms.map D.int = MS at *
    generalize ns.map D.int = NS at *
    generalize List.map D.int (List.take 5 (List.drop 2 ms)) = M5 at *
    generalize enc (plF F) = EP at *
    generalize enc (plF g) = EQ at *
    generalize enc F = EF at *
    generalize enc g = EG at *
    generalize encs (T.take 200) = E2 at *
    generalize encs T = ET at *
    generalize inB T g = bb at *
    simp [e1, e2, e3, cut, e4, e5, e6, e7, e8, m1, m2, q, cut2, lT, lT2, l5, lp, CDiv, CPow]
  obtain ⟨β, e⟩ := this
  exact runP_dat rfl e
end W_k12
end
open PySem PySem.W PyProof.Rows
set_option maxRecDepth 100000 in
set_option maxHeartbeats 0 in
theorem PySem.Challenge.cw_figurebook_k12_whole_alike_by_steps_holds : PySem.Challenge.rw_figurebook_k12_whole_alike_by_steps.Holds := by
  w_on; o_law; k_head; (case hw => w_witness2)
  k_fill
  refine L2.walk_of (l := PySem.Challenge.rw_figurebook_k12_whole_alike_by_steps) (n := 63) (k := 124) (x := "_law_script") (CX := fun _ => L2.CX0) (sp := fun w => Ab.spLaw _) rfl (by decide) rfl ⟨rfl, by decide, by decide⟩ (fun w h Y => PySem.W.kIn_of Y) ?F (fun _ _ a ns hl _ hS => ⟨a, ns, rfl, hS, hl, fun _ => rfl⟩) (fun _ _ _ _ _ h => h)
  case F =>
    intro w mg fa h KX G hmg
    refine' W_k12.all_mk KX G hmg ?a_parts_of ?a_with_parts ?a_key_of ?a_first_turn ?a_plain ?a__law_mix ?a__law_cell ?a__law_put ?a__law_small ?a__law_parts ?a__law_with ?a__law_stepped ?a__law_reached ?a__law_other ?a_law ?l_parts_of ?c_parts_of ?k_parts_of ?l_with_parts ?c_with_parts ?k_with_parts ?l_key_of ?c_key_of ?k_key_of ?l_first_turn ?c_first_turn ?k_first_turn ?l_plain ?c_plain ?k_plain ?l__law_mix ?c__law_mix ?k__law_mix ?l__law_cell ?c__law_cell ?k__law_cell ?l__law_put ?c__law_put ?k__law_put ?l__law_small ?c__law_small ?k__law_small ?l__law_parts ?c__law_parts ?k__law_parts ?l__law_with ?c__law_with ?k__law_with ?l__law_stepped ?c__law_stepped ?k__law_stepped ?l__law_reached ?c__law_reached ?k__law_reached ?l__law_other ?c__law_other ?k__law_other ?l_law ?c_law ?k_law ?ga_KINDS ?gl_KINDS ?gr_KINDS ?ga_MANY_PARTS ?gl_MANY_PARTS ?gr_MANY_PARTS ?zz_enumerate ?zz_len ?zz_list ?zz_min ?zz_range ?zz_reversed ?zz_sorted ?zz_sum ?zz_tuple W_k12.goal
    (case a_parts_of => k_is); (case a_with_parts => k_is); (case a_key_of => k_is); (case a_first_turn => k_is); (case a_plain => k_is); (case a__law_mix => k_is)
    (case a__law_cell => k_is); (case a__law_put => k_is); (case a__law_small => k_is); (case a__law_parts => k_is); (case a__law_with => k_is); (case a__law_stepped => k_is)
    (case a__law_reached => k_is); (case a__law_other => k_is); (case a_law => k_is); (case l_parts_of => k_is); (case c_parts_of => k_is); (case k_parts_of => k_is)
    (case l_with_parts => k_is); (case c_with_parts => k_is); (case k_with_parts => k_is); (case l_key_of => k_is); (case c_key_of => k_is); (case k_key_of => k_is)
    (case l_first_turn => k_is); (case c_first_turn => k_is); (case k_first_turn => k_is); (case l_plain => k_is); (case c_plain => k_is); (case k_plain => k_is)
    (case l__law_mix => k_is); (case c__law_mix => k_is); (case k__law_mix => k_is); (case l__law_cell => k_is); (case c__law_cell => k_is); (case k__law_cell => k_is)
    (case l__law_put => k_is); (case c__law_put => k_is); (case k__law_put => k_is); (case l__law_small => k_is); (case c__law_small => k_is); (case k__law_small => k_is)
    (case l__law_parts => k_is); (case c__law_parts => k_is); (case k__law_parts => k_is); (case l__law_with => k_is); (case c__law_with => k_is); (case k__law_with => k_is)
    (case l__law_stepped => k_is); (case c__law_stepped => k_is); (case k__law_stepped => k_is); (case l__law_reached => k_is); (case c__law_reached => k_is); (case k__law_reached => k_is)
    (case l__law_other => k_is); (case c__law_other => k_is); (case k__law_other => k_is); (case l_law => k_is); (case c_law => k_is); (case k_law => k_is)
    (case ga_KINDS => k_is); (case gl_KINDS => k_is); (case gr_KINDS => exact ⟨_, _, rfl, rfl, by decide, .cons ⟨_, rfl⟩ (.cons ⟨_, rfl⟩ (.cons ⟨_, rfl⟩ (.cons ⟨_, rfl⟩ (.cons ⟨_, rfl⟩ (.cons ⟨_, rfl⟩ (.cons ⟨_, rfl⟩ (.cons ⟨_, rfl⟩ (.cons ⟨_, rfl⟩ (.nil))))))))), rfl, rfl⟩)
    (case ga_MANY_PARTS => k_is); (case gl_MANY_PARTS => k_is); (case gr_MANY_PARTS => exact ⟨_, _, rfl, rfl, by decide, .cons ⟨_, rfl⟩ (.cons ⟨_, rfl⟩ (.cons ⟨_, rfl⟩ (.cons ⟨_, rfl⟩ (.nil)))), rfl, rfl⟩)
    (case zz_enumerate => k_is); (case zz_len => k_is); (case zz_list => k_is); (case zz_min => k_is); (case zz_range => k_is); (case zz_reversed => k_is)
    (case zz_sorted => k_is); (case zz_sum => k_is); (case zz_tuple => k_is)
#print axioms PySem.Challenge.cw_figurebook_k12_whole_alike_by_steps_holds
