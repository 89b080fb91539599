import PyProof.Rows.All
import Wide.All
import OpenK.AllK
import Wide.FinOn
import HandS.ForMost
import HandS.Exc
import HandS.ExcOwn
import HandS.ExcInit
import HandS.Deep
import HandS.IsInst
import HandS.Wide
import HandS.TupMul
import HandS.FStr
import HandS.RaiseMore
import HandS.Strs
import HandS.WordsExc
import PyProof.ReprRoads
import PyProof.ListStr
import HandS.Flow
import HandS.Style
import HandS.TryMany
import HandS.Ends
import PyProof.FitsReplace
import PyProof.Rows.ReprOcc
import PySem.Challenge.RW_eitherhand_k02_hands_and_integers_judged
set_option Elab.async false
set_option linter.all false
set_option maxRecDepth 100000
set_option maxHeartbeats 4000000
/-! Pl: plain data, what represents it, expressions over it -/
namespace Pl
open PySem PySem.Spec L2

/-- plain data -/
inductive D where
  | non | bl (b : Bool) | int (i : Int) | str (x : Str) | tup (xs : List D) | lst (xs : List D)
  | dct (ks vs : List D) | obj (C : Addr) (ns : List Str) (vs : List D) | ty (n : String) | ref (a : Addr) | scr (ns : List Int)
  deriving Inhabited

def kD : Key → D
  | .inl i => .int i
  | .inr x => .str x

mutual
/-- a value stands for data, by what G knows (G is never changed again) -/
inductive Rep (K : PySem.W.Frag) (G : Hp) : V → D → Prop
  | non : Rep K G .non .non
  | bl (b : Bool) : Rep K G (.bl b) (.bl b)
  | int (i : Int) : Rep K G (.int i) (.int i)
  | str (x : Str) : Rep K G (.str x) (.str x)
  | ty (n : String) : Rep K G (.ty n) (.ty n)
  | ref (a : Addr) : Rep K G (.ref a) (.ref a)
  | scr {a : Addr} {ns : List Int} : SqL K G a (ns.map V.int) → Rep K G (.ref a) (.scr ns)
  | tup {a : Addr} {vs : List V} {ds : List D} : SqT K G a vs → Reps K G vs ds → Rep K G (.ref a) (.tup ds)
  | lst {a : Addr} {vs : List V} {ds : List D} : G a = some (.lst vs) → Reps K G vs ds → Rep K G (.ref a) (.lst ds)
  | dK {a : Addr} {kvs : List (Key × V)} {ks ds : List D} : G a = some (.dK kvs) → ks = kvs.map (fun p => kD p.1) → Reps K G (kvs.map (·.2)) ds → Rep K G (.ref a) (.dct ks ds)
  | obj {a C dx : Addr} {fs : List (Str × V)} {ns : List Str} {ds : List D} : G a = some (.ins C dx fs) → ns = fs.map (·.1) → Reps K G (fs.map (·.2)) ds → Rep K G (.ref a) (.obj C ns ds)
inductive Reps (K : PySem.W.Frag) (G : Hp) : List V → List D → Prop
  | nil : Reps K G [] []
  | cons {v : V} {d : D} {vs : List V} {ds : List D} : Rep K G v d → Reps K G vs ds → Reps K G (v :: vs) (d :: ds)
end

def Hx (H H' : Hp) : Prop := ∀ a o, H a = some o → H' a = some o
theorem Hx.rfl {H : Hp} : Hx H H := fun _ _ h => h
theorem Hx.trans {H H1 H2 : Hp} (a : Hx H H1) (b : Hx H1 H2) : Hx H H2 := fun x o h => b x o (a x o h)
theorem Hx.new {H : Hp} {p : Addr} {o : HO} (h : H p = none) : Hx H (upd H p o) := fun a u e => by
  rw [upd_ne (ne_of_none e h)]
  exact e
theorem ex_rd {H H' : Hp} {a : Addr} {u : HO} (e : Hx H H') (h : Rd H a u) : Rd H' a u := by
  rcases h with h | ⟨o, h⟩
  · exact Or.inl (e a _ h)
  · exact Or.inr ⟨o, e a _ h⟩
theorem ex_l {K : PySem.W.Frag} {H H' : Hp} {a : Addr} {xs : List V} (e : Hx H H') (h : SqL K H a xs) : SqL K H' a xs := by
  rcases h with h | h
  · exact Or.inl (ex_rd e h)
  · exact Or.inr h
theorem ex_t {K : PySem.W.Frag} {H H' : Hp} {a : Addr} {xs : List V} (e : Hx H H') (h : SqT K H a xs) : SqT K H' a xs := by
  rcases h with h | h
  · exact Or.inl (ex_rd e h)
  · exact Or.inr h
mutual
theorem Rep.mono {K : PySem.W.Frag} {G G' : Hp} (e : Hx G G') : ∀ {v : V} {d : D}, Rep K G v d → Rep K G' v d
  | _, _, .non => .non
  | _, _, .bl b => .bl b
  | _, _, .int i => .int i
  | _, _, .str x => .str x
  | _, _, .ty n => .ty n
  | _, _, .ref a => .ref a
  | _, _, .tup h r => .tup (ex_t e h) (Reps.mono e r)
  | _, _, .scr h => .scr (ex_l e h)
  | _, _, .lst h r => .lst (e _ _ h) (Reps.mono e r)
  | _, _, .dK h k r => .dK (e _ _ h) k (Reps.mono e r)
  | _, _, .obj h k r => .obj (e _ _ h) k (Reps.mono e r)
theorem Reps.mono {K : PySem.W.Frag} {G G' : Hp} (e : Hx G G') : ∀ {vs : List V} {ds : List D}, Reps K G vs ds → Reps K G' vs ds
  | _, _, .nil => .nil
  | _, _, .cons a b => .cons (Rep.mono e a) (Reps.mono e b)
end
theorem Reps.length {K : PySem.W.Frag} {G : Hp} : ∀ {vs : List V} {ds : List D}, Reps K G vs ds → vs.length = ds.length
  | _, _, .nil => rfl
  | _, _, .cons _ b => by simp [Reps.length b]
theorem Reps.append {K : PySem.W.Frag} {G : Hp} : ∀ {vs ws : List V} {ds es : List D}, Reps K G vs ds → Reps K G ws es → Reps K G (vs ++ ws) (ds ++ es)
  | _, _, _, _, .nil, s => s
  | _, _, _, _, .cons a b, s => .cons a (Reps.append b s)
theorem Reps.get {K : PySem.W.Frag} {G : Hp} : ∀ {vs : List V} {ds : List D} {i : Nat} {d : D}, Reps K G vs ds → ds[i]? = some d → ∃ v, vs[i]? = some v ∧ Rep K G v d
  | _, _, _, _, .nil, e => by simp at e
  | _, _, 0, _, .cons a _, e => by simp at e; subst e; exact ⟨_, by simp, a⟩
  | _, _, i + 1, _, .cons _ b, e => by
    obtain ⟨v, h1, h2⟩ := Reps.get (i := i) b (by simpa using e)
    exact ⟨v, by simpa using h1, h2⟩
theorem Reps.getV {K : PySem.W.Frag} {G : Hp} : ∀ {vs : List V} {ds : List D} {i : Nat} {v : V}, Reps K G vs ds → vs[i]? = some v → ∃ d, ds[i]? = some d ∧ Rep K G v d
  | _, _, _, _, .nil, e => by simp at e
  | _, _, 0, _, .cons a _, e => by simp at e; subst e; exact ⟨_, by simp, a⟩
  | _, _, i + 1, _, .cons _ b, e => by
    obtain ⟨v, h1, h2⟩ := Reps.getV (i := i) b (by simpa using e)
    exact ⟨v, by simpa using h1, h2⟩
theorem Reps.set {K : PySem.W.Frag} {G : Hp} {v : V} {d : D} (r : Rep K G v d) : ∀ {vs : List V} {ds : List D} (i : Nat), Reps K G vs ds → Reps K G (vs.set i v) (ds.set i d)
  | _, _, _, .nil => .nil
  | _, _, 0, .cons _ b => .cons r b
  | _, _, i + 1, .cons a b => .cons a (Reps.set r i b)
theorem Reps.drop {K : PySem.W.Frag} {G : Hp} : ∀ {vs : List V} {ds : List D} (n : Nat), Reps K G vs ds → Reps K G (vs.drop n) (ds.drop n)
  | _, _, 0, r => r
  | _, _, _ + 1, .nil => .nil
  | _, _, n + 1, .cons _ b => Reps.drop n b
theorem Reps.take {K : PySem.W.Frag} {G : Hp} : ∀ {vs : List V} {ds : List D} (n : Nat), Reps K G vs ds → Reps K G (vs.take n) (ds.take n)
  | _, _, 0, _ => .nil
  | _, _, _ + 1, .nil => .nil
  | _, _, n + 1, .cons a b => .cons a (Reps.take n b)
theorem Reps.eraseIdx {K : PySem.W.Frag} {G : Hp} : ∀ {vs : List V} {ds : List D} (n : Nat), Reps K G vs ds → Reps K G (vs.eraseIdx n) (ds.eraseIdx n)
  | _, _, _, .nil => .nil
  | _, _, 0, .cons _ b => b
  | _, _, n + 1, .cons a b => .cons a (Reps.eraseIdx n b)
theorem Reps.rev {K : PySem.W.Frag} {G : Hp} : ∀ {vs : List V} {ds : List D}, Reps K G vs ds → Reps K G vs.reverse ds.reverse
  | _, _, .nil => .nil
  | _, _, .cons a b => by
    rw [List.reverse_cons, List.reverse_cons]
    exact (Reps.rev b).append (.cons a .nil)

/-- data that may change, owned by one name -/
inductive O where
  | lst (ds : List D)
  | dct (ks vs : List D)
  deriving Inhabited
def O.toD : O → D
  | .lst ds => .lst ds
  | .dct ks vs => .dct ks vs

def ORep (K : PySem.W.Frag) (G H : Hp) (p : Addr) (fp : List Addr) : O → Prop
  | .lst ds => fp = [p] ∧ ∃ vs, H p = some (.lst vs) ∧ Reps K G vs ds
  | .dct ks ds => fp = [p] ∧ ∃ kvs : List (Key × V), H p = some (.dK kvs) ∧ ks = kvs.map (fun q => kD q.1) ∧ Reps K G (kvs.map (·.2)) ds

/-- a name's slot: unknown, data, owned data (m: it may be given away) -/
inductive Sl where
  | un | val (d : D) | own (m : Bool) (o : O)
  deriving Inhabited
abbrev En := List Sl

/-- the ground of a def's run: the heap and the fixed part at its entry, and the cells that it was lent -/
structure Bs where
  H0 : Hp
  G0 : Hp
  mu : List Addr
  pn : Nat → Option (Addr × List Addr)

structure ER (K : PySem.W.Frag) (B : Bs) (G H : Hp) (σ : L2.St) (env : En) (fp : Nat → List Addr) : Prop where
  exB : ∀ a o, B.H0 a = some o → a ∉ B.mu → H a = some o
  dom : ∀ a o, B.H0 a = some o → ∃ o', H a = some o'
  exG : Hx G H
  g0 : Hx B.G0 G
  new : ∀ a o, G a = some o → B.G0 a = some o ∨ B.H0 a = none
  len : σ.length = env.length
  val : ∀ (i : Nat) (d : D), env[i]? = some (Sl.val d) → ∃ v, σ[i]? = some (some v) ∧ Rep K G v d
  own : ∀ (i : Nat) (m : Bool) (o : O), env[i]? = some (Sl.own m o) → ∃ p, σ[i]? = some (some (.ref p)) ∧ ORep K G H p (fp i) o
  sep : ∀ (i : Nat) (m : Bool) (o : O), env[i]? = some (Sl.own m o) → ∀ a ∈ fp i, G a = none ∧ (B.H0 a = none ∨ a ∈ B.mu)
  loc : ∀ (i : Nat) (o : O), env[i]? = some (Sl.own true o) → ∀ a ∈ fp i, B.H0 a = none
  dis : ∀ (i j : Nat) (m : Bool) (o : O) (n : Bool) (u : O), env[i]? = some (Sl.own m o) → env[j]? = some (Sl.own n u) → i ≠ j → ∀ a ∈ fp i, a ∉ fp j
  pin : ∀ (i : Nat) (o : O), env[i]? = some (Sl.own false o) → ∃ p, B.pn i = some (p, fp i) ∧ σ[i]? = some (some (.ref p))

section
variable {K : PySem.W.Frag} {B : Bs} {G H G' H' : Hp} {σ : L2.St} {env : En} {fp : Nat → List Addr}
theorem ORep.mono (eG : Hx G G') {p : Addr} {l : List Addr} (eH : ∀ a o, a ∈ l → H a = some o → H' a = some o) : ∀ {o : O}, ORep K G H p l o → ORep K G' H' p l o
  | .lst ds, h => by
    obtain ⟨e, vs, h1, h2⟩ := h
    subst e
    exact ⟨rfl, vs, eH _ _ (by simp) h1, h2.mono eG⟩
  | .dct ks ds, h => by
    obtain ⟨e, kvs, h1, h2, h3⟩ := h
    subst e
    exact ⟨rfl, kvs, eH _ _ (by simp) h1, h2, h3.mono eG⟩
theorem ORep.root {p : Addr} {l : List Addr} : ∀ {o : O}, ORep K G H p l o → p ∈ l ∧ ∃ u, H p = some u
  | .lst ds, h => by
    obtain ⟨e, vs, h1, h2⟩ := h
    subst e
    exact ⟨by simp, _, h1⟩
  | .dct ks ds, h => by
    obtain ⟨e, kvs, h1, h2, h3⟩ := h
    subst e
    exact ⟨by simp, _, h1⟩
/-- every cell of what is owned stands -/
theorem ORep.there {p : Addr} {l : List Addr} : ∀ {o : O}, ORep K G H p l o → ∀ a ∈ l, ∃ u, H a = some u
  | .lst ds, h => by
    obtain ⟨e, vs, h1, h2⟩ := h
    subst e
    intro a ha
    simp at ha
    subst ha
    exact ⟨_, h1⟩
  | .dct ks ds, h => by
    obtain ⟨e, kvs, h1, h2, h3⟩ := h
    subst e
    intro a ha
    simp at ha
    subst ha
    exact ⟨_, h1⟩
/-- the heap grows, the fixed part with it (by new cells) -/
theorem ER.grow (R : ER K B G H σ env fp) (eH : Hx H H') (eG : Hx G G') (gh : Hx G' H') (nw : ∀ a o, G' a = some o → G a = some o ∨ H a = none) : ER K B G' H' σ env fp where
  exB := fun a o h m => eH _ _ (R.exB a o h m)
  dom := fun a o h => by obtain ⟨o', e⟩ := R.dom a o h; exact ⟨o', eH _ _ e⟩
  exG := gh
  g0 := R.g0.trans eG
  new := fun a o h => by
    rcases nw a o h with h | h
    · exact R.new a o h
    · right
      cases e : B.H0 a with
      | none => rfl
      | some u => obtain ⟨o', e'⟩ := R.dom a u e; rw [h] at e'; cases e'
  len := R.len
  val := fun i d h => by obtain ⟨v, h1, h2⟩ := R.val i d h; exact ⟨v, h1, h2.mono eG⟩
  own := fun i m o h => by obtain ⟨p, h1, h2⟩ := R.own i m o h; exact ⟨p, h1, h2.mono eG fun a u _ e => eH a u e⟩
  sep := fun i m o h a ha => by
    obtain ⟨h1, h2⟩ := R.sep i m o h a ha
    refine ⟨?_, h2⟩
    cases e : G' a with
    | none => rfl
    | some u =>
      obtain ⟨p, _, h3⟩ := R.own i m o h
      obtain ⟨w, hw⟩ := h3.there a ha
      rcases nw a u e with z | z
      · rw [h1] at z; cases z
      · rw [hw] at z; cases z
  loc := R.loc
  dis := R.dis
  pin := R.pin
/-- a new cell that is never changed -/
theorem ER.lay (R : ER K B G H σ env fp) {p : Addr} {o : HO} (hp : H p = none) : ER K B (upd G p o) (upd H p o) σ env fp := by
  have hg : G p = none := by
    cases e : G p with
    | none => rfl
    | some u => have := R.exG p u e; rw [hp] at this; cases this
  refine R.grow (Hx.new hp) (Hx.new hg) (fun a u e => ?_) fun a u e => ?_
  · by_cases ha : a = p
    · subst ha; rw [upd_same] at e ⊢; exact e
    · rw [upd_ne ha] at e ⊢; exact R.exG a u e
  · by_cases ha : a = p
    · subst ha; exact .inr hp
    · rw [upd_ne ha] at e; exact .inl e
/-- a new cell that nothing speaks of -/
theorem ER.more (R : ER K B G H σ env fp) (eH : Hx H H') : ER K B G H' σ env fp :=
  R.grow eH Hx.rfl (R.exG.trans eH) fun a o h => .inl h
theorem ER.gnone (R : ER K B G H σ env fp) {p : Addr} (hp : H p = none) : G p = none := by
  cases e : G p with
  | none => rfl
  | some u => have := R.exG p u e; rw [hp] at this; cases this
theorem ER.new0 (R : ER K B G H σ env fp) {p : Addr} (hp : H p = none) : B.H0 p = none := by
  cases e : B.H0 p with
  | none => rfl
  | some u => obtain ⟨o', e'⟩ := R.dom p u e; rw [hp] at e'; cases e'
theorem get_set_ne {α : Type} {l : List α} {i j : Nat} {x : α} (h : i ≠ j) : (l.set i x)[j]? = l[j]? := List.getElem?_set_ne h
theorem get_set_eq {α : Type} {l : List α} {i : Nat} {x y : α} (h : (l.set i x)[i]? = some y) : y = x ∧ i < l.length := by
  by_cases hi : i < l.length
  · rw [List.getElem?_set_self hi] at h
    exact ⟨(Option.some.inj h).symm, hi⟩
  · rw [List.getElem?_eq_none (by simpa using hi)] at h; cases h
/-- a name's slot is stored: data -/
theorem ER.setV (R : ER K B G H σ env fp) {i : Nat} {v : V} {d : D} (r : Rep K G v d) : ER K B G H (σ.set i (some v)) (env.set i (.val d)) fp where
  exB := R.exB
  dom := R.dom
  exG := R.exG
  g0 := R.g0
  new := R.new
  len := by rw [List.length_set, List.length_set]; exact R.len
  val := fun j d' h => by
    by_cases hj : i = j
    · subst hj
      obtain ⟨e, hl⟩ := get_set_eq h
      cases e
      exact ⟨v, List.getElem?_set_self (by rw [R.len]; exact hl), r⟩
    · rw [get_set_ne hj] at h ⊢
      exact R.val j d' h
  own := fun j m o h => by
    by_cases hj : i = j
    · subst hj
      obtain ⟨e, hl⟩ := get_set_eq h
      cases e
    · rw [get_set_ne hj] at h ⊢
      exact R.own j m o h
  sep := fun j m o h => by
    by_cases hj : i = j
    · subst hj
      obtain ⟨e, hl⟩ := get_set_eq h
      cases e
    · rw [get_set_ne hj] at h
      exact R.sep j m o h
  loc := fun j o h => by
    by_cases hj : i = j
    · subst hj
      obtain ⟨e, hl⟩ := get_set_eq h
      cases e
    · rw [get_set_ne hj] at h
      exact R.loc j o h
  dis := fun j k m o n u h1 h2 => by
    by_cases hj : i = j
    · subst hj
      obtain ⟨e, hl⟩ := get_set_eq h1
      cases e
    · by_cases hk : i = k
      · subst hk
        obtain ⟨e, hl⟩ := get_set_eq h2
        cases e
      · rw [get_set_ne hj] at h1
        rw [get_set_ne hk] at h2
        exact R.dis j k m o n u h1 h2
  pin := fun j o h => by
    by_cases hj : i = j
    · subst hj
      obtain ⟨e, hl⟩ := get_set_eq h
      cases e
    · rw [get_set_ne hj] at h ⊢
      exact R.pin j o h
/-- .. unknown -/
theorem ER.setU (R : ER K B G H σ env fp) {i : Nat} {v : Option V} : ER K B G H (σ.set i v) (env.set i .un) fp where
  exB := R.exB
  dom := R.dom
  exG := R.exG
  g0 := R.g0
  new := R.new
  len := by rw [List.length_set, List.length_set]; exact R.len
  val := fun j d' h => by
    by_cases hj : i = j
    · subst hj
      obtain ⟨e, hl⟩ := get_set_eq h
      cases e
    · rw [get_set_ne hj] at h ⊢
      exact R.val j d' h
  own := fun j m o h => by
    by_cases hj : i = j
    · subst hj
      obtain ⟨e, hl⟩ := get_set_eq h
      cases e
    · rw [get_set_ne hj] at h ⊢
      exact R.own j m o h
  sep := fun j m o h => by
    by_cases hj : i = j
    · subst hj
      obtain ⟨e, hl⟩ := get_set_eq h
      cases e
    · rw [get_set_ne hj] at h
      exact R.sep j m o h
  loc := fun j o h => by
    by_cases hj : i = j
    · subst hj
      obtain ⟨e, hl⟩ := get_set_eq h
      cases e
    · rw [get_set_ne hj] at h
      exact R.loc j o h
  dis := fun j k m o n u h1 h2 => by
    by_cases hj : i = j
    · subst hj
      obtain ⟨e, hl⟩ := get_set_eq h1
      cases e
    · by_cases hk : i = k
      · subst hk
        obtain ⟨e, hl⟩ := get_set_eq h2
        cases e
      · rw [get_set_ne hj] at h1
        rw [get_set_ne hk] at h2
        exact R.dis j k m o n u h1 h2
  pin := fun j o h => by
    by_cases hj : i = j
    · subst hj
      obtain ⟨e, hl⟩ := get_set_eq h
      cases e
    · rw [get_set_ne hj] at h ⊢
      exact R.pin j o h
end
end Pl

namespace Pl
open PySem PySem.Spec L2
section
variable {K : PySem.W.Frag} {B : Bs} {G H G' H' : Hp} {σ : L2.St} {env : En} {fp : Nat → List Addr}
/-- a new thing of one's own is given a name -/
theorem ER.setO (R : ER K B G H σ env fp) {i : Nat} {p : Addr} {o : O} (r : ORep K G H p [p] o) (g : G p = none) (b : B.H0 p = none)
    (ap : ∀ (j : Nat) (m : Bool) (u : O), env[j]? = some (Sl.own m u) → p ∉ fp j) : ER K B G H (σ.set i (some (.ref p))) (env.set i (.own true o)) (fun j => if j = i then [p] else fp j) where
  exB := R.exB
  dom := R.dom
  exG := R.exG
  g0 := R.g0
  new := R.new
  len := by rw [List.length_set, List.length_set]; exact R.len
  val := fun j d' h => by
    by_cases hj : i = j
    · subst hj
      obtain ⟨e, hl⟩ := get_set_eq h
      cases e
    · rw [get_set_ne hj] at h ⊢
      exact R.val j d' h
  own := fun j m u h => by
    by_cases hj : i = j
    · subst hj
      obtain ⟨e, hl⟩ := get_set_eq h
      cases e
      refine ⟨p, List.getElem?_set_self (by rw [R.len]; exact hl), ?_⟩
      rw [if_pos rfl]
      exact r
    · rw [get_set_ne hj] at h ⊢
      rw [if_neg (Ne.symm hj)]
      exact R.own j m u h
  sep := fun j m u h a ha => by
    by_cases hj : i = j
    · subst hj
      rw [if_pos rfl] at ha
      simp at ha
      subst ha
      exact ⟨g, .inl b⟩
    · rw [get_set_ne hj] at h
      rw [if_neg (Ne.symm hj)] at ha
      exact R.sep j m u h a ha
  loc := fun j u h a ha => by
    by_cases hj : i = j
    · subst hj
      rw [if_pos rfl] at ha
      simp at ha
      subst ha
      exact b
    · rw [get_set_ne hj] at h
      rw [if_neg (Ne.symm hj)] at ha
      exact R.loc j u h a ha
  dis := fun j k m u n w h1 h2 ne a ha hb => by
    by_cases hj : i = j
    · subst hj
      rw [if_pos rfl] at ha
      simp at ha
      subst ha
      rw [if_neg (Ne.symm ne)] at hb
      rw [get_set_ne ne] at h2
      exact ap k n w h2 hb
    · rw [get_set_ne hj] at h1
      rw [if_neg (Ne.symm hj)] at ha
      by_cases hk : i = k
      · subst hk
        rw [if_pos rfl] at hb
        simp at hb
        subst hb
        exact ap j m u h1 ha
      · rw [get_set_ne hk] at h2
        rw [if_neg (Ne.symm hk)] at hb
        exact R.dis j k m u n w h1 h2 ne a ha hb
  pin := fun j u h => by
    by_cases hj : i = j
    · subst hj
      obtain ⟨e, hl⟩ := get_set_eq h
      cases e
    · rw [get_set_ne hj] at h ⊢
      rw [if_neg (Ne.symm hj)]
      exact R.pin j u h
/-- what is owned is changed in place -/
theorem ER.change (R : ER K B G H σ env fp) {i : Nat} {m : Bool} {o o' : O} {p : Addr} (h : env[i]? = some (Sl.own m o)) (hp : σ[i]? = some (some (.ref p)))
    (kept : ∀ a, a ∉ fp i → H' a = H a) (r : ORep K G H' p (fp i) o') : ER K B G H' σ (env.set i (.own m o')) fp := by
  have hlt : i < env.length := (List.getElem?_eq_some_iff.mp h).1
  have th := fun a ha => r.there a ha
  refine ⟨fun a u e hm => ?_, fun a u e => ?_, fun a u e => ?_, R.g0, R.new, by rw [List.length_set]; exact R.len, fun j d e => ?_, fun j n u e => ?_, fun j n u e => ?_, fun j u e => ?_, fun j k n u q w e1 e2 => ?_, fun j u e => ?_⟩
  · by_cases ha : a ∈ fp i
    · rcases (R.sep i m o h a ha).2 with z | z
      · rw [z] at e; cases e
      · exact absurd z hm
    · rw [kept a ha]; exact R.exB a u e hm
  · by_cases ha : a ∈ fp i
    · exact th a ha
    · rw [kept a ha]; exact R.dom a u e
  · by_cases ha : a ∈ fp i
    · rw [(R.sep i m o h a ha).1] at e; cases e
    · rw [kept a ha]; exact R.exG a u e
  · by_cases hj : i = j
    · subst hj
      obtain ⟨z, _⟩ := get_set_eq e
      cases z
    · rw [get_set_ne hj] at e
      exact R.val j d e
  · by_cases hj : i = j
    · subst hj
      obtain ⟨z, _⟩ := get_set_eq e
      cases z
      exact ⟨p, hp, r⟩
    · rw [get_set_ne hj] at e
      obtain ⟨q, h1, h2⟩ := R.own j n u e
      exact ⟨q, h1, h2.mono Hx.rfl fun a w ha ea => by rw [kept a fun z => R.dis j i n u m o e h (Ne.symm hj) a ha z]; exact ea⟩
  · by_cases hj : i = j
    · subst hj
      obtain ⟨z, _⟩ := get_set_eq e
      cases z
      exact R.sep i m o h
    · rw [get_set_ne hj] at e
      exact R.sep j n u e
  · by_cases hj : i = j
    · subst hj
      obtain ⟨z, _⟩ := get_set_eq e
      injection z with z1 z2
      subst z1
      exact R.loc i o h
    · rw [get_set_ne hj] at e
      exact R.loc j u e
  · intro ne
    by_cases hj : i = j
    · subst hj
      obtain ⟨z, _⟩ := get_set_eq e1
      cases z
      rw [get_set_ne ne] at e2
      exact R.dis i k m o q w h e2 ne
    · rw [get_set_ne hj] at e1
      by_cases hk : i = k
      · subst hk
        obtain ⟨z, _⟩ := get_set_eq e2
        cases z
        exact R.dis j i n u m o e1 h ne
      · rw [get_set_ne hk] at e2
        exact R.dis j k n u q w e1 e2 ne
  · by_cases hj : i = j
    · subst hj
      obtain ⟨z, _⟩ := get_set_eq e
      injection z with z1 z2
      subst z1
      exact R.pin i o h
    · rw [get_set_ne hj] at e
      exact R.pin j u e
/-- the fixed part takes some cells in -/
def frz (G H : Hp) (l : List Addr) : Hp := fun a => if a ∈ l then H a else G a
theorem frz_ex {l : List Addr} (h : ∀ a ∈ l, G a = none) : Hx G (frz G H l) := fun a o e => by
  unfold frz
  by_cases ha : a ∈ l
  · rw [h a ha] at e; cases e
  · rw [if_neg ha]; exact e
theorem frz_le {l : List Addr} (g : Hx G H) : Hx (frz G H l) H := fun a o e => by
  unfold frz at e
  by_cases ha : a ∈ l
  · rw [if_pos ha] at e; exact e
  · rw [if_neg ha] at e; exact g a o e
theorem frz_in {l : List Addr} {a : Addr} (h : a ∈ l) : frz G H l a = H a := if_pos h
theorem ORep.toRep {p : Addr} {l : List Addr} (g : ∀ a ∈ l, G a = none) : ∀ {o : O}, ORep K G H p l o → Rep K (frz G H l) (.ref p) o.toD
  | .lst ds, h => by
    have e := frz_ex (H := H) g
    obtain ⟨z, vs, h1, h2⟩ := h
    subst z
    exact .lst (by rw [frz_in (by simp)]; exact h1) (h2.mono e)
  | .dct ks ds, h => by
    have e := frz_ex (H := H) g
    obtain ⟨z, kvs, h1, h2, h3⟩ := h
    subst z
    exact .dK (by rw [frz_in (by simp)]; exact h1) h2 (h3.mono e)
/-- what is owned is given away: from now on it is fixed -/
theorem ER.give (R : ER K B G H σ env fp) {i : Nat} {o : O} (h : env[i]? = some (Sl.own true o)) :
    ∃ p, σ[i]? = some (some (.ref p)) ∧ Hx G (frz G H (fp i)) ∧ Rep K (frz G H (fp i)) (.ref p) o.toD ∧ ER K B (frz G H (fp i)) H σ (env.set i (.val o.toD)) fp := by
  obtain ⟨p, hp, r⟩ := R.own i true o h
  have gn : ∀ a ∈ fp i, G a = none := fun a ha => (R.sep i true o h a ha).1
  have eG : Hx G (frz G H (fp i)) := frz_ex gn
  have rr := r.toRep gn
  refine ⟨p, hp, eG, rr, R.exB, R.dom, frz_le R.exG, R.g0.trans eG, fun a u e => ?_, by rw [List.length_set]; exact R.len, fun j d e => ?_, fun j n u e => ?_, fun j n u e a ha => ?_, fun j u e => ?_, fun j k n u q w e1 e2 ne => ?_, fun j u e => ?_⟩
  · by_cases ha : a ∈ fp i
    · exact .inr (R.loc i o h a ha)
    · unfold frz at e
      rw [if_neg ha] at e
      exact R.new a u e
  · by_cases hj : i = j
    · subst hj
      obtain ⟨z, _⟩ := get_set_eq e
      cases z
      exact ⟨_, hp, rr⟩
    · rw [get_set_ne hj] at e
      obtain ⟨v, h1, h2⟩ := R.val j d e
      exact ⟨v, h1, h2.mono eG⟩
  · by_cases hj : i = j
    · subst hj
      obtain ⟨z, _⟩ := get_set_eq e
      cases z
    · rw [get_set_ne hj] at e
      obtain ⟨q, h1, h2⟩ := R.own j n u e
      exact ⟨q, h1, h2.mono eG fun a w _ ea => ea⟩
  · by_cases hj : i = j
    · subst hj
      obtain ⟨z, _⟩ := get_set_eq e
      cases z
    · rw [get_set_ne hj] at e
      have z : a ∉ fp i := fun z => R.dis j i n u true o e h (Ne.symm hj) a ha z
      unfold frz
      rw [if_neg z]
      exact R.sep j n u e a ha
  · by_cases hj : i = j
    · subst hj
      obtain ⟨z, _⟩ := get_set_eq e
      cases z
    · rw [get_set_ne hj] at e
      exact R.loc j u e
  · by_cases hj : i = j
    · subst hj
      obtain ⟨z, _⟩ := get_set_eq e1
      cases z
    · by_cases hk : i = k
      · subst hk
        obtain ⟨z, _⟩ := get_set_eq e2
        cases z
      · rw [get_set_ne hj] at e1
        rw [get_set_ne hk] at e2
        exact R.dis j k n u q w e1 e2 ne
  · by_cases hj : i = j
    · subst hj
      obtain ⟨z, _⟩ := get_set_eq e
      cases z
    · rw [get_set_ne hj] at e
      exact R.pin j u e
end
end Pl

/-! Pl: programs over plain data, and what they need (weakest conditions) -/
namespace Pl
open PySem PySem.Spec L2

/-- a loop's target: one name, or a row of names -/
inductive Tg where
  | one (i : Nat) | row (is : List Nat)
  deriving DecidableEq, Inhabited

/-- built-in functions of one argument, of two; methods of built-in types -/
inductive B1 where
  | len | abs | int | list | tuple | all | any | max | min | repr | str | sorted | set | sum
  deriving DecidableEq, Inhabited
inductive B2 where
  | max | min | isinstance
  deriving DecidableEq, Inhabited
inductive M0 where
  | items | keys | values
  deriving DecidableEq, Inhabited
inductive M1 where
  | join | get | index | split | startswith
  deriving DecidableEq, Inhabited
mutual
inductive Ex where
  | abs | con (d : D) | var (i : Nat) | rd (i : Nat) | mu (i : Nat) | glb (x : String) | bty (n : String)
  | bin (op : Operator) (a b : Ex) | neg (a : Ex) | not (a : Ex) | and (a b : Ex) | or (a b : Ex) | ite (c a b : Ex)
  | cmp (op : CmpOp) (a b : Ex) | chn (o1 o2 : CmpOp) (a b c : Ex)
  | tup (es : Exs) | lst (es : Exs) | dct (ks vs : Exs)
  | idx (a i : Ex) | slc (a lo hi : Ex) | rev (a : Ex)
  | call (f : String) (es : Exs) | b1 (f : B1) (a : Ex) | b2 (f : B2) (a b : Ex)
  | m0 (m : M0) (o : Ex) | m1 (m : M1) (o a : Ex) | pop (i : Nat) (a : Ex)
  | lc (tg : Tg) (elt : Ex) (it : Itr) (c : Ex)
  | fld (o : Ex) (f : String) | fst (es : Exs)
inductive Exs where
  | nil | cons (e : Ex) (r : Exs)
inductive Itr where
  | seq (e : Ex) | rng1 (a : Ex) | rng2 (a b : Ex) | rng3 (a b c : Ex) | enm (e : Ex) | zip (a b : Ex) | items (e : Ex)
end
instance : Inhabited Ex := ⟨.abs⟩

mutual
inductive Stm where
  | asg (i : Nat) (e : Ex) | asgF (i : Nat) (e : Ex) | asgC (i : Nat) (f : String) (es : Exs) | asgT (is : List Nat) (e : Ex)
  | asgP (is : List Nat) (es : Exs) | setI (i : Nat) (ix e : Ex) | exp (e : Ex) | app (i : Nat) (e : Ex) | ext (i : Nat) (e : Ex) | aug (i : Nat) (op : Operator) (e : Ex)
  | ret (e : Ex) | retF (e : Ex) | retN | ifS (c : Ex) (a b : Stms) | whl (c : Ex) (b : Stms) | forS (tg : Tg) (it : Itr) (b : Stms)
  | rse (c : String) (a : Ex) | trC (b : Stms) (hs : List (String × D)) | pass | brk | cnt
inductive Stms where
  | nil | cons (s : Stm) (r : Stms)
end

/-- an exception: its class, its own attributes -/
structure Xn where
  cls : String
  ns : List Str
  vs : List D

/-- an argument: data, or what is lent -/
inductive AV where
  | val (d : D) | own (o : O)
  deriving Inhabited
/-- .. before it is read -/
inductive AP where
  | d (d : D) | i (i : Nat)
  deriving Inhabited
def AV.toD : AV → D
  | .val d => d
  | .own o => o.toD
abbrev Ctr := List AV → (AV → List O → Prop) → (Xn → List O → Prop) → Prop
/-- exceptions of one's own: which class is of which, how one is made (none: of a text; some f: its argument is kept in f) -/
structure ExT where
  sub : String → String → Option Bool
  cls : String → Option (Option String)
def noEx : ExT := ⟨fun _ _ => none, fun _ => none⟩
structure Gam where
  glb : String → Option D
  fn : String → Option Ctr
  ex : ExT

def rdA (env : En) : AP → Option AV
  | .d d => some (AV.val d)
  | .i i => match env[i]? with
    | some (Sl.own _ o) => some (AV.own o)
    | _ => none
def rdAs (env : En) : List AP → Option (List AV)
  | [] => some []
  | a :: r => match rdA env a, rdAs env r with
    | some x, some xs => some (x :: xs)
    | _, _ => none
def apds : List AP → Option (List D)
  | [] => some []
  | .d d :: r => (apds r).map (d :: ·)
  | .i _ :: _ => none
def mus : List AP → List Nat
  | [] => []
  | .d _ :: r => mus r
  | .i i :: r => i :: mus r
/-- the lent cells come back -/
def puts (env : En) : List Nat → List O → Option En
  | [], [] => some env
  | i :: is, o :: os => match env[i]? with
    | some (Sl.own m _) => puts (env.set i (.own m o)) is os
    | _ => none
  | _, _ => none
/-- nothing owned may be given away -/
def Sl.hard : Sl → Sl
  | .own _ o => .own false o
  | s => s
def Sl.softAs : Sl → Sl → Sl
  | .own m _, .own _ o => .own m o
  | _, s => s
def softAs (env : En) (e2 : En) : En := List.zipWith Sl.softAs env e2

/-! ### truth, operators -/
def D.tru : D → Option Bool
  | .non => some false
  | .bl b => some b
  | .int i => some (i != 0)
  | .str y => if y.length ≤ sizeLine then some ((y.length : Int) != 0) else none
  | .lst xs => some (!xs.isEmpty)
  | .tup xs => some (!xs.isEmpty)
  | .dct ks _ => some (!ks.isEmpty)
  | _ => none
mutual
def D.py : D → Option PyData
  | .non => some .none
  | .bl b => some (.bool b)
  | .int i => some (.int i)
  | .str x => some (.str x)
  | .tup xs => (pys xs).map .tuple
  | .lst xs => (pys xs).map .list
  | .dct _ _ => none
  | .obj _ _ _ => none
  | .ty _ => none
  | .ref _ => none
  | .scr _ => none
def pys : List D → Option (List PyData)
  | [] => some []
  | x :: r => match x.py, pys r with
    | some p, some ps => some (p :: ps)
    | _, _ => none
end
def wBin : Operator → D → D → (D → Prop) → Prop
  | .Add, .int i, .int j, Q => Q (.int (i + j))
  | .Add, .str a, .str b, Q => a.length + b.length ≤ sizeLine ∧ Q (.str (a ++ b))
  | .Add, .lst a, .lst b, Q => a.length + b.length ≤ sizeLine ∧ Q (.lst (a ++ b))
  | .Add, .tup a, .tup b, Q => a ≠ [] ∧ a.length + b.length ≤ sizeLine ∧ Q (.tup (a ++ b))
  | .Sub, .int i, .int j, Q => Q (.int (i - j))
  | .Mult, .int i, .int j, Q => CMulW i j ∧ Q (.int (i * j))
  | .Mult, .lst a, .int k, Q => -(2 ^ 63) ≤ k ∧ k < 2 ^ 63 ∧ a.length * k.toNat ≤ sizeLine ∧ Q (.lst (List.replicate k.toNat a).flatten)
  | .Mult, .tup a, .int k, Q => a ≠ [] ∧ 2 ≤ k ∧ k ≤ 1000 ∧ a.length ≤ 1000 ∧ Q (.tup (List.replicate k.toNat a).flatten)
  | .FloorDiv, .int i, .int j, Q => CDivW i j ∧ Q (.int (i / j))
  | .Mod, .int i, .int j, Q => 0 < j ∧ Q (.int (i % j))
  | .Pow, .int i, .int j, Q => 0 ≤ j ∧ (Builtin.Int.intBits i : Int) * j ≤ 2 ^ 27 ∧ Q (.int (i ^ j.toNat))
  | _, _, _, _ => False
/-- flat data -/
def D.flat : D → Option V
  | .non => some .non
  | .bl b => some (.bl b)
  | .int i => some (.int i)
  | .str x => some (.str x)
  | _ => none
def flats : List D → Option (List V)
  | [] => some []
  | x :: r => match x.flat, flats r with
    | some v, some vs => some (v :: vs)
    | _, _ => none
def D.items : D → Option (List D)
  | .lst xs => some xs
  | .tup xs => some xs
  | _ => none
/-- is x among the items -/
def wInF (x : D) (xs : List D) (Q : Bool → Prop) : Prop := ∃ v vs, x.flat = some v ∧ flats xs = some vs ∧ Q (inV v vs)
def wInP (x : D) (xs : List D) (Q : Bool → Prop) : Prop := ∃ p ps, x.py = some p ∧ pys xs = some ps ∧ SeqAt.shaped p = true ∧ SeqAt.shaped (.list ps) = true ∧ Q (ps.any fun z => PyData.eqv z p)
def wIn (x y : D) (Q : Bool → Prop) : Prop := match y with
  | .str z => ∃ c, x = .str c ∧ Q (!(Builtin.Str.occurrences z c 0 z.length 1).isEmpty)
  | .lst xs => wInF x xs Q ∨ wInP x xs Q
  | .tup xs => wInF x xs Q
  | _ => False
def wEq (x y : D) (Q : Bool → Prop) : Prop := ∃ p q, x.py = some p ∧ y.py = some q ∧ SeqAt.shaped p = true ∧ SeqAt.shaped q = true ∧ Q (PyData.eqv p q)
def D.isNon : D → Bool
  | .non => true
  | _ => false
def wCmp : CmpOp → D → D → (Bool → Prop) → Prop
  | .Eq, x, y, Q => wEq x y Q
  | .NotEq, x, y, Q => wEq x y fun b => Q (!b)
  | .Lt, .int i, .int j, Q => Q (decide (i < j))
  | .LtE, .int i, .int j, Q => Q (decide (i ≤ j))
  | .Gt, .int i, .int j, Q => Q (decide (j < i))
  | .GtE, .int i, .int j, Q => Q (decide (j ≤ i))
  | .Lt, .str a, .str b, Q => Q (decide (a.cps.toList < b.cps.toList))
  | .LtE, .str a, .str b, Q => Q (!decide (b.cps.toList < a.cps.toList))
  | .Gt, .str a, .str b, Q => Q (decide (b.cps.toList < a.cps.toList))
  | .GtE, .str a, .str b, Q => Q (!decide (a.cps.toList < b.cps.toList))
  | .In, x, y, Q => wIn x y Q
  | .NotIn, x, y, Q => wIn x y fun b => Q (!b)
  | .Is, x, .non, Q => Q x.isNon
  | .IsNot, x, .non, Q => Q (!x.isNon)
  | _, _, _, _ => False
def wIdx (o i : D) (Q : D → Prop) : Prop := match o, i with
  | .lst xs, .int i => ∃ d, atI xs i = some d ∧ Q d
  | .tup xs, .int i => ∃ d, atI xs i = some d ∧ Q d
  | .scr ns, .int i => ∃ d, atI ns i = some d ∧ Q (.int d)
  | .str z, .int i => ∃ c, z.length ≤ sizeLine ∧ atI z.cps.toList i = some c ∧ Q (.str ⟨#[c]⟩)
  | _, _ => False
def cutD (xs : List D) (lo hi : Option Int) : List D := (xs.drop (HT.sIx xs.length 0 lo)).take (HT.sIx xs.length xs.length hi - HT.sIx xs.length 0 lo)
def wSlc (o : D) (lo hi : Option Int) (Q : D → Prop) : Prop := match o with
  | .lst xs => Q (.lst (cutD xs lo hi))
  | .tup xs => Q (.tup (cutD xs lo hi))
  | .str z => z.length ≤ sizeLine ∧ Q (.str (cutS z lo hi))
  | _ => False

/-! ### built-in functions -/
def dStrs : List D → Option (List Str)
  | [] => some []
  | .str x :: r => (dStrs r).map (x :: ·)
  | _ :: _ => none
def dBls : List D → Option (List Bool)
  | [] => some []
  | .bl x :: r => (dBls r).map (x :: ·)
  | _ :: _ => none
def dInts : List D → Option (List Int)
  | [] => some []
  | .int x :: r => (dInts r).map (x :: ·)
  | _ :: _ => none
/-- the built-in type of data -/
def D.tyN : D → Option String
  | .non => some "NoneType"
  | .bl _ => some "bool"
  | .int _ => some "int"
  | .str _ => some "str"
  | .tup _ => some "tuple"
  | .lst _ => some "list"
  | .dct _ _ => some "dict"
  | _ => none
def tyIs (t c : String) : Bool := decide (t = c) || (decide (t = "bool") && decide (c = "int"))
def wB1 : B1 → D → (D → Prop) → Prop
  | .len, .str z, Q => z.length ≤ sizeLine ∧ Q (.int z.length)
  | .len, .lst xs, Q => Q (.int xs.length)
  | .len, .tup xs, Q => Q (.int xs.length)
  | .len, .scr xs, Q => Q (.int xs.length)
  | .abs, .int i, Q => Q (.int (if i < 0 then -i else i))
  | .int, .int i, Q => Q (.int i)
  | .int, .bl b, Q => Q (.int (if b then 1 else 0))
  | .list, .lst xs, Q => Q (.lst xs)
  | .list, .tup xs, Q => Q (.lst xs)
  | .list, .str z, Q => z.length ≤ sizeLine ∧ Q (.lst (z.cps.toList.map fun c => .str ⟨#[c]⟩))
  | .tuple, .lst xs, Q => Q (.tup xs)
  | .tuple, .tup xs, Q => Q (.tup xs)
  | .all, .lst xs, Q => ∃ bs, dBls xs = some bs ∧ Q (.bl (bs.all id))
  | .any, .lst xs, Q => ∃ bs, dBls xs = some bs ∧ Q (.bl (bs.any id))
  | .max, .lst xs, Q => ∃ ns, dInts xs = some ns ∧ 0 < ns.length ∧ ∀ m, m ∈ ns → (∀ y, y ∈ ns → y ≤ m) → Q (.int m)
  | .min, .lst xs, Q => ∃ ns, dInts xs = some ns ∧ 0 < ns.length ∧ ∀ m, m ∈ ns → (∀ y, y ∈ ns → m ≤ y) → Q (.int m)
  | .repr, x, Q => ∃ p, x.py = some p ∧ p.showable = true ∧ p.hasDict = false ∧ p.depth ≤ 60 ∧ p.shown.length ≤ sizeLine ∧ Q (.str p.shown)
  | .str, .int i, Q => i.natAbs.log2 < 1920 ∧ Q (.str (toString i))
  | .str, .str z, Q => Q (.str z)
  | _, _, _ => False
def wB2 : B2 → D → D → (D → Prop) → Prop
  | .max, .int i, .int j, Q => Q (.int (if j > i then j else i))
  | .min, .int i, .int j, Q => Q (.int (if j < i then j else i))
  | .isinstance, x, .ty c, Q => ∃ t, x.tyN = some t ∧ c ∈ ["int", "bool", "str", "tuple", "list", "dict"] ∧ Q (.bl (tyIs t c))
  | _, _, _, _ => False
def wM1 : M1 → D → D → (D → Prop) → Prop
  | .join, .str z, .lst xs, Q => ∃ ys, dStrs xs = some ys ∧ (ys.map Str.length).sum + ys.length * z.length ≤ 16777216 ∧ Q (.str (Txt.join z ys))
  | _, _, _, _ => False
def M1.ok : M1 → Bool
  | .join => true
  | _ => false
/-- the receiver is of the method's type -/
def mTy : M1 → D → Bool
  | .join, .str _ => true
  | _, _ => false
def wM0 : M0 → D → (D → Prop) → Prop
  | _, _, _ => False

/-- the items of what is walked -/
def D.walk : D → Option (List D)
  | .lst xs => some xs
  | .tup xs => some xs
  | .str z => some (z.cps.toList.map fun c => .str ⟨#[c]⟩)
  | _ => none
def rangeD (lo : Int) : Nat → List D
  | 0 => []
  | n + 1 => .int lo :: rangeD (lo + 1) n
def rangeC (lo c : Int) : Nat → List D
  | 0 => []
  | n + 1 => .int lo :: rangeC (lo + c) c n
def enumD (i : Nat) : List D → List D
  | [] => []
  | x :: r => .tup [.int (i : Nat), x] :: enumD (i + 1) r
def zipD : List D → List D → List D
  | x :: r, y :: t => .tup [x, y] :: zipD r t
  | _, _ => []
/-- names stored -/
def setNs (env : En) : List Nat → List D → Option En
  | [], [] => some env
  | i :: is, d :: ds => setNs (env.set i (.val d)) is ds
  | _, _ => none
def wTg (tg : Tg) (x : D) (env : En) (Q : En → Prop) : Prop := match tg with
  | .one i => Q (env.set i (.val x))
  | .row is => ∃ ds e, x = .tup ds ∧ setNs env is ds = some e ∧ Q e
def Tg.ix : Tg → List Nat
  | .one i => [i]
  | .row is => is
def wipeE (env : En) : List Nat → En
  | [] => env
  | v :: vs => (wipeE env vs).set v .un
def hards (env : En) : En := env.map Sl.hard

/-- over the items, from the left -/
def wEach (f : D → En → (List D → En → Prop) → Prop) : List D → List D → En → (List D → En → Prop) → Prop
  | [], acc, env, Q => Q acc env
  | x :: r, acc, env, Q => f x env fun ys env' => acc.length + ys.length ≤ sizeLine ∧ wEach f r (acc ++ ys) env' Q

/-- the value of a name; owned things are given away -/
def wVar (i : Nat) (env : En) (Q : D → En → Prop) : Prop := match env[i]? with
  | some (Sl.val d) => Q d env
  | some (Sl.own true o) => Q o.toD (env.set i (.val o.toD))
  | _ => False
def wRd (i : Nat) (env : En) (Q : D → En → Prop) : Prop := match env[i]? with
  | some (Sl.val d) => Q d env
  | some (Sl.own _ o) => Q o.toD env
  | _ => False
/-- where the block of a comprehension ends: the names are as before, what is lent may have changed -/
def backTo' (env env' : En) : En := softAs env env'
/-- a call of a def -/
def wCall (c : Ctr) (as : List AP) (env : En) (Q : D → En → Prop) (E : Xn → En → Prop) : Prop :=
  (mus as).Nodup ∧ ∃ avs, rdAs env as = some avs ∧ c avs (fun d os => ∃ e, puts env (mus as) os = some e ∧ Q d.toD e) (fun x os => ∃ e, puts env (mus as) os = some e ∧ E x e)
/-- .. that gives a new list of one's own -/
def wCallF (c : Ctr) (as : List AP) (env : En) (Q : List D → En → Prop) (E : Xn → En → Prop) : Prop :=
  (mus as).Nodup ∧ ∃ avs, rdAs env as = some avs ∧ c avs (fun d os => ∃ e ds, puts env (mus as) os = some e ∧ d = .own (.lst ds) ∧ Q ds e) (fun x os => ∃ e, puts env (mus as) os = some e ∧ E x e)
def wPop (i : Nat) (a : Option D) (env : En) (Q : D → En → Prop) : Prop := match env[i]?, a with
  | some (Sl.own m (.lst ds)), none => ∃ d, ds[ds.length - 1]? = some d ∧ Q d (env.set i (.own m (.lst ds.dropLast)))
  | some (Sl.own m (.lst ds)), some (.int j) => ∃ k d, -(2 ^ 63) ≤ j ∧ j < 2 ^ 63 ∧ seqIndex? j ds.length = some k ∧ ds[k]? = some d ∧ Q d (env.set i (.own m (.lst (ds.eraseIdx k))))
  | _, _ => False

mutual
def wE (Γ : Gam) : Ex → En → (D → En → Prop) → (Xn → En → Prop) → Prop
  | .abs, _, _, _ => False
  | .con d, env, Q, _ => Q d env
  | .var i, env, Q, _ => wVar i env Q
  | .rd i, env, Q, _ => wRd i env Q
  | .mu _, _, _, _ => False
  | .glb x, env, Q, _ => ∃ d, Γ.glb x = some d ∧ Q d env
  | .bin op a b, env, Q, E => wE Γ a env (fun x e1 => wE Γ b e1 (fun y e2 => wBin op x y fun z => Q z e2) E) E
  | .neg a, env, Q, E => wE Γ a env (fun x e1 => ∃ i, x = .int i ∧ Q (.int (-i)) e1) E
  | .not a, env, Q, E => wE Γ a env (fun x e1 => ∃ b, x.tru = some b ∧ Q (.bl (!b)) e1) E
  | .and a b, env, Q, E => wE Γ a env (fun x e1 => ∃ t, x.tru = some t ∧ if t = true then wE Γ b e1 Q E else Q x e1) E
  | .or a b, env, Q, E => wE Γ a env (fun x e1 => ∃ t, x.tru = some t ∧ if t = true then Q x e1 else wE Γ b e1 Q E) E
  | .ite c a b, env, Q, E => wT Γ c env (fun t e1 => if t = true then wE Γ a e1 Q E else wE Γ b e1 Q E) E
  | .cmp op a b, env, Q, E => wE Γ a env (fun x e1 => wE Γ b e1 (fun y e2 => wCmp op x y fun z => Q (.bl z) e2) E) E
  | .chn o1 o2 a b c, env, Q, E => wE Γ a env (fun x e1 => wE Γ b e1 (fun y e2 => wCmp o1 x y fun z => if z = true then wE Γ c e2 (fun w e3 => wCmp o2 y w fun z => Q (.bl z) e3) E else Q (.bl false) e2) E) E
  | .tup es, env, Q, E => wA Γ es env (fun as e1 => ∃ ds, apds as = some ds ∧ ds.length ≤ sizeLine ∧ Q (.tup ds) e1) E
  | .lst es, env, Q, E => wA Γ es env (fun as e1 => ∃ ds, apds as = some ds ∧ ds.length ≤ sizeLine ∧ Q (.lst ds) e1) E
  | .dct .nil .nil, env, Q, _ => Q (.dct [] []) env
  | .dct _ _, _, _, _ => False
  | .bty n, env, Q, _ => Q (.ty n) env
  | .idx a i, env, Q, E => wE Γ a env (fun x e1 => wE Γ i e1 (fun y e2 => wIdx x y fun z => Q z e2) E) E
  | .slc _ _ _, _, _, _ => False
  | .rev _, _, _, _ => False
  | .call f es, env, Q, E => ∃ c, Γ.fn f = some c ∧ wA Γ es env (fun as e1 => wCall c as e1 Q E) E
  | .b1 f a, env, Q, E => wE Γ a env (fun x e1 => wB1 f x fun z => Q z e1) E
  | .b2 f a b, env, Q, E => wE Γ a env (fun x e1 => wE Γ b e1 (fun y e2 => wB2 f x y fun z => Q z e2) E) E
  | .m0 m o, env, Q, E => wE Γ o env (fun x e1 => wM0 m x fun z => Q z e1) E
  | .m1 m o a, env, Q, E => m.ok = true ∧ wE Γ o env (fun x e1 => mTy m x = true ∧ wE Γ a e1 (fun y e2 => wM1 m x y fun z => Q z e2) E) E
  | .pop i a, env, Q, E => match a with
    | .abs => wPop i none env Q
    | a => (∃ m ds, env[i]? = some (Sl.own m (.lst ds))) ∧ wE Γ a env (fun x e1 => wPop i (some x) e1 Q) E
  | .lc tg elt it c, env, Q, E => wI Γ it env (fun xs e1 => wEach (fun x e2 Q' => wTg tg x (wipeE e2 tg.ix) fun e3 =>
      wT Γ c e3 (fun t e4 => if t = true then wE Γ elt e4 (fun y e5 => Q' [y] (wipeE e5 tg.ix)) (fun _ _ => False) else Q' [] (wipeE e4 tg.ix)) (fun _ _ => False))
      xs [] (wipeE (hards e1) tg.ix) fun ys e6 => Q (.lst ys) (softAs e1 e6)) E
  | .fld _ _, _, _, _ => False
  | .fst _, _, _, _ => False
def wT (Γ : Gam) : Ex → En → (Bool → En → Prop) → (Xn → En → Prop) → Prop
  | .not a, env, Q, E => wT Γ a env (fun t e1 => Q (!t) e1) E
  | .and a b, env, Q, E => wT Γ a env (fun t e1 => if t = true then wT Γ b e1 Q E else Q false e1) E
  | .or a b, env, Q, E => wT Γ a env (fun t e1 => if t = true then Q true e1 else wT Γ b e1 Q E) E
  | .ite c a b, env, Q, E => wT Γ c env (fun t e1 => if t = true then wT Γ a e1 Q E else wT Γ b e1 Q E) E
  | .abs, env, Q, E => Q true env
  | .con d, env, Q, E => ∃ t, d.tru = some t ∧ Q t env
  | .var i, env, Q, E => wRd i env fun x e1 => ∃ t, x.tru = some t ∧ Q t e1
  | e, env, Q, E => wE Γ e env (fun x e1 => ∃ t, x.tru = some t ∧ Q t e1) E
def wA (Γ : Gam) : Exs → En → (List AP → En → Prop) → (Xn → En → Prop) → Prop
  | .nil, env, Q, _ => Q [] env
  | .cons (.mu i) r, env, Q, E => ∃ m o, env[i]? = some (Sl.own m o) ∧ wA Γ r env (fun as e => Q (.i i :: as) e) E
  | .cons a r, env, Q, E => wE Γ a env (fun x e1 => wA Γ r e1 (fun as e2 => Q (.d x :: as) e2) E) E
def wI (Γ : Gam) : Itr → En → (List D → En → Prop) → (Xn → En → Prop) → Prop
  | .seq a, env, Q, E => wE Γ a env (fun x e1 => ∃ xs, x.walk = some xs ∧ Q xs e1) E
  | .rng1 a, env, Q, E => wE Γ a env (fun x e1 => ∃ j, x = .int j ∧ -(2 ^ 62) ≤ j ∧ j < 2 ^ 62 ∧ Q (rangeD 0 j.toNat) e1) E
  | .rng2 a b, env, Q, E => wE Γ a env (fun x e1 => wE Γ b e1 (fun y e2 => ∃ i j, x = .int i ∧ y = .int j ∧ (-(2 ^ 62) ≤ i ∧ i < 2 ^ 62 ∧ -(2 ^ 62) ≤ j ∧ j < 2 ^ 62) ∧ Q (rangeD i (j - i).toNat) e2) E) E
  | .rng3 _ _ _, _, _, _ => False
  | .enm a, env, Q, E => wE Γ a env (fun x e1 => ∃ xs, x = .lst xs ∧ Q (enumD 0 xs) e1) E
  | .zip a b, env, Q, E => wE Γ a env (fun x e1 => wE Γ b e1 (fun y e2 => ∃ xs ys, x = .lst xs ∧ y = .lst ys ∧ Q (zipD xs ys) e2) E) E
  | .items _, _, _, _ => False
end
end Pl

/-! Pl: the operators by data -/
namespace Pl
open PySem PySem.Spec L2

/-- read just now: fixed, or owned as it stands -/
def RepT (K : PySem.W.Frag) (G H : Hp) (v : V) (d : D) : Prop :=
  Rep K G v d ∨ (∃ p vs ds, v = .ref p ∧ d = .lst ds ∧ H p = some (.lst vs) ∧ Reps K G vs ds) ∨
    ∃ p, ∃ kvs : List (Key × V), ∃ ks ds, v = .ref p ∧ d = .dct ks ds ∧ H p = some (.dK kvs) ∧ ks = kvs.map (fun q => kD q.1) ∧ Reps K G (kvs.map (·.2)) ds
section
variable {K : PySem.W.Frag} {G H G' H' : Hp} {v : V} {d : D}
theorem RepT.mono (eG : Hx G G') (eH : Hx H H') (r : RepT K G H v d) : RepT K G' H' v d := by
  rcases r with r | ⟨p, vs, ds, rfl, rfl, h, r⟩ | ⟨p, kvs, ks, ds, rfl, rfl, h, e, r⟩
  · exact .inl (r.mono eG)
  · exact .inr (.inl ⟨p, vs, ds, rfl, rfl, eH _ _ h, r.mono eG⟩)
  · exact .inr (.inr ⟨p, kvs, ks, ds, rfl, rfl, eH _ _ h, e, r.mono eG⟩)
theorem RepT.int {i : Int} (r : RepT K G H v (.int i)) : v = .int i := by
  rcases r with r | ⟨p, vs, ds, _, e, _⟩ | ⟨p, kvs, ks, ds, _, e, _⟩
  · cases r; rfl
  · cases e
  · cases e
theorem RepT.str {i : Str} (r : RepT K G H v (.str i)) : v = .str i := by
  rcases r with r | ⟨p, vs, ds, _, e, _⟩ | ⟨p, kvs, ks, ds, _, e, _⟩
  · cases r; rfl
  · cases e
  · cases e
theorem RepT.bl {i : Bool} (r : RepT K G H v (.bl i)) : v = .bl i := by
  rcases r with r | ⟨p, vs, ds, _, e, _⟩ | ⟨p, kvs, ks, ds, _, e, _⟩
  · cases r; rfl
  · cases e
  · cases e
theorem RepT.non (r : RepT K G H v .non) : v = .non := by
  rcases r with r | ⟨p, vs, ds, _, e, _⟩ | ⟨p, kvs, ks, ds, _, e, _⟩
  · cases r; rfl
  · cases e
  · cases e
theorem RepT.ty {n : String} (r : RepT K G H v (.ty n)) : v = .ty n := by
  rcases r with r | ⟨p, vs, ds, _, e, _⟩ | ⟨p, kvs, ks, ds, _, e, _⟩
  · cases r; rfl
  · cases e
  · cases e
theorem RepT.tup {ds : List D} (g : Hx G H) (r : RepT K G H v (.tup ds)) : ∃ a vs, v = .ref a ∧ SqT K H a vs ∧ SqT K G a vs ∧ Reps K G vs ds := by
  rcases r with r | ⟨p, vs, ds, _, e, _⟩ | ⟨p, kvs, ks, ds, _, e, _⟩
  · cases r with
    | tup h r => exact ⟨_, _, rfl, ex_t g h, h, r⟩
  · cases e
  · cases e
theorem RepT.lst {ds : List D} (g : Hx G H) (r : RepT K G H v (.lst ds)) : ∃ a vs, v = .ref a ∧ H a = some (.lst vs) ∧ Reps K G vs ds := by
  rcases r with r | ⟨p, vs, ds, e1, e, h, r⟩ | ⟨p, kvs, ks, ds, _, e, _⟩
  · cases r with
    | lst h r => exact ⟨_, _, rfl, g _ _ h, r⟩
  · cases e; exact ⟨_, _, e1, h, r⟩
  · cases e
/-- the kind of a value is that of the data -/
theorem RepT.flat {x : V} (r : RepT K G H v d) (f : d.flat = some x) : v = x ∧ flatV v = true := by
  cases d <;> simp only [D.flat, Option.some.injEq, reduceCtorEq] at f
  · subst f; rw [r.non]; exact ⟨rfl, rfl⟩
  · subst f; rw [r.bl]; exact ⟨rfl, rfl⟩
  · subst f; rw [r.int]; exact ⟨rfl, rfl⟩
  · subst f; rw [r.str]; exact ⟨rfl, rfl⟩
theorem Reps.flats : ∀ {vs : List V} {ds : List D} {xs : List V}, Reps K G vs ds → flats ds = some xs → vs = xs ∧ vs.all flatV = true
  | _, _, _, .nil, f => by simp [Pl.flats] at f; subst f; exact ⟨rfl, rfl⟩
  | _, _, xs, .cons (d := d) (ds := ds) a b, f => by
    simp only [Pl.flats] at f
    split at f
    · rename_i v vs h1 h2
      cases f
      obtain ⟨e1, f1⟩ := RepT.flat (H := G) (.inl a) h1
      obtain ⟨e2, f2⟩ := Reps.flats b h2
      subst e1 e2
      exact ⟨rfl, by simp [f1, f2]⟩
    · cases f
mutual
theorem Rep.dp (g : Hx G H) : ∀ {v : V} {d : D} {p : PyData}, Rep K G v d → d.py = some p → Dp K H v p
  | _, _, _, .non, e => by simp [D.py] at e; subst e; exact .non
  | _, _, _, .bl b, e => by simp [D.py] at e; subst e; exact .bl b
  | _, _, _, .int i, e => by simp [D.py] at e; subst e; exact .int i
  | _, _, _, .str x, e => by simp [D.py] at e; subst e; exact .str x
  | _, _, _, .ty n, e => by simp [D.py] at e
  | _, _, _, .ref a, e => by simp [D.py] at e
  | _, _, _, .scr _, e => by simp [D.py] at e
  | _, _, p, .tup (ds := ds) h r, e => by
    simp only [D.py] at e
    cases e2 : pys ds with
    | none => rw [e2] at e; cases e
    | some ps => rw [e2] at e; cases e; exact .tup (ex_t g h) (Reps.dp g r e2)
  | _, _, p, .lst (ds := ds) h r, e => by
    simp only [D.py] at e
    cases e2 : pys ds with
    | none => rw [e2] at e; cases e
    | some ps => rw [e2] at e; cases e; exact .lst (.inl (.inl (g _ _ h))) (Reps.dp g r e2)
  | _, _, _, .dK h k r, e => by simp [D.py] at e
  | _, _, _, .obj h k r, e => by simp [D.py] at e
theorem Reps.dp (g : Hx G H) : ∀ {vs : List V} {ds : List D} {ps : List PyData}, Reps K G vs ds → pys ds = some ps → DpAll K H vs ps
  | _, _, _, .nil, e => by simp [pys] at e; subst e; exact .nil
  | _, _, ps, .cons (d := d) (ds := ds) a b, e => by
    simp only [pys] at e
    split at e
    · rename_i p qs h1 h2
      cases e
      exact .cons (Rep.dp g a h1) (Reps.dp g b h2)
    · cases e
end
theorem RepT.dp {p : PyData} (g : Hx G H) (r : RepT K G H v d) (e : d.py = some p) : Dp K H v p := by
  rcases r with r | ⟨q, vs, ds, rfl, rfl, h, r⟩ | ⟨q, kvs, ks, ds, _, e', _⟩
  · exact r.dp g e
  · simp only [D.py] at e
    cases e2 : pys ds with
    | none => rw [e2] at e; cases e
    | some ps => rw [e2] at e; cases e; exact .lst (.inl (.inl h)) (r.dp g e2)
  · rw [e'] at e; simp [D.py] at e
end
/-- an operation's end: the heap grows, what comes out stands for data of which Qz holds -/
def Fin (K : PySem.W.Frag) (G H : Hp) (Qz : D → Prop) (Q : VK) : Prop := ∀ z v G' H', Hx H H' → Hx G G' → Hx G' H' → (∀ a o, G' a = some o → G a = some o ∨ H a = none) → Rep K G' v z → Qz z → Q v H'
section
variable {K : PySem.W.Frag} {G H : Hp} {Qz : D → Prop} {Q : VK}
theorem Fin.flat (f : Fin K G H Qz Q) (g : Hx G H) {v : V} {z : D} (r : Rep K G v z) (q : Qz z) : Q v H := f z v G H Hx.rfl Hx.rfl g (fun _ _ h => .inl h) r q
theorem Fin.newL (f : Fin K G H Qz Q) (g : Hx G H) {vs : List V} {ds : List D} {p : Addr} (hp : H p = none) (r : Reps K G vs ds) (q : Qz (.lst ds)) : Q (.ref p) (upd H p (.lst vs)) := by
  have hg : G p = none := by
    cases e : G p with
    | none => rfl
    | some u => have := g p u e; rw [hp] at this; cases this
  refine f (.lst ds) (.ref p) (upd G p (.lst vs)) _ (Hx.new hp) (Hx.new hg) (fun a u e => ?_) (fun a u e => ?_) (.lst upd_same (r.mono (Hx.new hg))) q
  · by_cases ha : a = p
    · subst ha; rw [upd_same] at e ⊢; exact e
    · rw [upd_ne ha] at e ⊢; exact g a u e
  · by_cases ha : a = p
    · subst ha; exact .inr hp
    · rw [upd_ne ha] at e; exact .inl e
theorem Fin.newT (f : Fin K G H Qz Q) (g : Hx G H) {vs : List V} {ds : List D} {p : Addr} (hp : H p = none) (r : Reps K G vs ds) (q : Qz (.tup ds)) : Q (.ref p) (upd H p (.tup vs)) := by
  have hg : G p = none := by
    cases e : G p with
    | none => rfl
    | some u => have := g p u e; rw [hp] at this; cases this
  refine f (.tup ds) (.ref p) (upd G p (.tup vs)) _ (Hx.new hp) (Hx.new hg) (fun a u e => ?_) (fun a u e => ?_) (.tup (.inl (.inl upd_same)) (r.mono (Hx.new hg))) q
  · by_cases ha : a = p
    · subst ha; rw [upd_same] at e ⊢; exact e
    · rw [upd_ne ha] at e ⊢; exact g a u e
  · by_cases ha : a = p
    · subst ha; exact .inr hp
    · rw [upd_ne ha] at e; exact .inl e
end
/-- a two-place operation by data -/
def r2D (K : PySem.W.Frag) (w : D → D → (D → Prop) → Prop) : R2 := fun x y H Q => ∃ G dx dy Qz, Hx G H ∧ RepT K G H x dx ∧ RepT K G H y dy ∧ w dx dy Qz ∧ Fin K G H Qz Q
def r1D (K : PySem.W.Frag) (w : D → (D → Prop) → Prop) : V → Hp → VK → Prop := fun x H Q => ∃ G dx Qz, Hx G H ∧ RepT K G H x dx ∧ w dx Qz ∧ Fin K G H Qz Q

section
theorem op_powW {X : Cx} : OpR X (binaryOp .Pow) (rI (fun i j => 0 ≤ j ∧ (Builtin.Int.intBits i : Int) * j ≤ 2 ^ 27) fun i j => .int (i ^ j.toNat)) := opI fun _ _ _ _ _ _ _ hc q => PyProof.Rows.pow_int hc.1 hc.2 q
end
theorem flatten_reps {K : PySem.W.Frag} {G : Hp} {vs : List V} {ds : List D} (r : Reps K G vs ds) : ∀ k : Nat, Reps K G (List.replicate k vs).flatten (List.replicate k ds).flatten
  | 0 => .nil
  | k + 1 => by
    rw [List.replicate_succ, List.replicate_succ, List.flatten_cons, List.flatten_cons]
    exact r.append (flatten_reps r k)
theorem op_bin {X : Cx} (op : Operator) : OpR X (binaryOp op) (r2D X.K (wBin op)) := by
  intro pins s σ H x y v u Q I rx ry h
  obtain ⟨G, dx, dy, Qz, g, r1, r2, w, f⟩ := h
  unfold wBin at w
  split at w
  · exact op_add pins s σ H x y v u Q I rx ry ⟨_, _, r1.int, r2.int, f.flat g (.int _) w⟩
  · exact op_add_str pins s σ H x y v u Q I rx ry ⟨_, _, r1.str, r2.str, w.1, f.flat g (.str _) w.2⟩
  · obtain ⟨a, vs, rfl, h1, q1⟩ := r1.lst g
    obtain ⟨b, ws, rfl, h2, q2⟩ := r2.lst g
    exact op_cat pins s σ H _ _ v u Q I rx ry ⟨_, _, _, _, rfl, rfl, h1, h2, by rw [q1.length, q2.length]; exact w.1, fun p hp => f.newL g hp (q1.append q2) w.2⟩
  · obtain ⟨a, vs, rfl, h1, _, q1⟩ := r1.tup g
    obtain ⟨b, ws, rfl, h2, h2', q2⟩ := r2.tup g
    obtain ⟨w1, w2, w3⟩ := w
    refine op_catT pins s σ H _ _ v u Q I rx ry ⟨_, _, _, _, rfl, rfl, h1, h2, fun e => ?_, by rw [q1.length, q2.length]; exact w2, fun e => ?_, fun e p hp => f.newT g hp (q1.append q2) w3⟩
    · subst e; cases q1; exact w1 rfl
    · subst e
      cases q2
      rw [List.append_nil] at w3
      rcases r1 with r1 | ⟨p, vs, ds, _, e, _⟩ | ⟨p, kvs, ks, ds, _, e, _⟩
      · exact f.flat g r1 w3
      · cases e
      · cases e
  · exact op_sub pins s σ H x y v u Q I rx ry ⟨_, _, r1.int, r2.int, f.flat g (.int _) w⟩
  · exact op_mulW pins s σ H x y v u Q I rx ry ⟨_, _, r1.int, r2.int, w.1, f.flat g (.int _) w.2⟩
  · obtain ⟨w1, w2, w3, w4⟩ := w
    obtain ⟨a, vs, rfl, h1, q1⟩ := r1.lst g
    exact op_rep pins s σ H _ _ v u Q I rx ry ⟨_, _, _, rfl, r2.int, h1, w1, w2, by rw [q1.length]; exact w3, fun p hp => f.newL g hp (flatten_reps q1 _) w4⟩
  · obtain ⟨w1, w2, w3, w4, w5⟩ := w
    obtain ⟨a, vs, rfl, h1, _, q1⟩ := r1.tup g
    refine op_repT pins s σ H _ _ v u Q I rx ry ⟨_, _, _, rfl, r2.int, h1, fun e => ?_, w2, w3, by rw [q1.length]; exact w4, fun p hp => f.newT g hp (flatten_reps q1 _) w5⟩
    subst e; cases q1; exact w1 rfl
  · exact op_fdivW pins s σ H x y v u Q I rx ry ⟨_, _, r1.int, r2.int, w.1, f.flat g (.int _) w.2⟩
  · exact op_mod pins s σ H x y v u Q I rx ry ⟨_, _, r1.int, r2.int, w.1, f.flat g (.int _) w.2⟩
  · exact op_powW pins s σ H x y v u Q I rx ry ⟨_, _, r1.int, r2.int, ⟨w.1, w.2.1⟩, f.flat g (.int _) w.2.2⟩
  · exact w.elim
end Pl

/-! Pl: comparisons, items, built-in functions by data -/
namespace Pl
open PySem PySem.Spec L2
section
variable {X : Cx} {K : PySem.W.Frag} {G H : Hp}
def w2B (w : D → D → (Bool → Prop) → Prop) : D → D → (D → Prop) → Prop := fun x y Q => w x y fun b => Q (.bl b)
theorem flatV_of {vs : List V} {ds : List D} {xs : List V} (r : Reps K G vs ds) (f : flats ds = some xs) : vs = xs ∧ vs.all flatV = true := r.flats f
theorem op_inAll (hu : X.A.units + 65 < cLine) : OpR X (compareOp .In) (r2D X.K (w2B wIn)) := by
  intro pins s σ H x y v u Q I rx ry h
  obtain ⟨G, dx, dy, Qz, g, r1, r2, w, f⟩ := h
  unfold w2B wIn at w
  dsimp only at w
  split at w
  · obtain ⟨c, rfl, w⟩ := w
    exact op_in_str pins s σ H x y v u Q I rx ry ⟨_, _, r1.str, r2.str, f.flat g (.bl _) w⟩
  · obtain ⟨a, ws, rfl, h2, q2⟩ := r2.lst g
    rcases w with ⟨fv, fvs, e1, e2, w⟩ | ⟨p, ps, e1, e2, s1, s2, w⟩
    · obtain ⟨rfl, f1⟩ := r1.flat e1
      obtain ⟨rfl, f2⟩ := q2.flats e2
      exact op_in_seq pins s σ H _ _ v u Q I rx ry ⟨_, _, rfl, .inl (.inl (.inl h2)), f1, f2, f.flat g (.bl _) w⟩
    · exact op_inD hu pins s σ H _ _ v u Q I rx ry ⟨p, ps, r1.dp g e1, .lst (.inl (.inl h2)) (q2.dp g e2), s1, s2, f.flat g (.bl _) w⟩
  · obtain ⟨a, ws, rfl, h2, _, q2⟩ := r2.tup g
    obtain ⟨fv, fvs, e1, e2, w⟩ := w
    obtain ⟨rfl, f1⟩ := r1.flat e1
    obtain ⟨rfl, f2⟩ := q2.flats e2
    exact op_in_seq pins s σ H _ _ v u Q I rx ry ⟨_, _, rfl, .inr h2, f1, f2, f.flat g (.bl _) w⟩
  · exact w.elim
theorem op_notInAll (hu : X.A.units + 65 < cLine) : OpR X (compareOp .NotIn) (r2D X.K (w2B fun x y Q => wIn x y fun b => Q (!b))) := by
  intro pins s σ H x y v u Q I rx ry h
  obtain ⟨G, dx, dy, Qz, g, r1, r2, w, f⟩ := h
  unfold w2B wIn at w
  dsimp only at w
  split at w
  · obtain ⟨c, rfl, w⟩ := w
    exact op_notIn_str pins s σ H x y v u Q I rx ry ⟨_, _, r1.str, r2.str, f.flat g (.bl _) w⟩
  · obtain ⟨a, ws, rfl, h2, q2⟩ := r2.lst g
    rcases w with ⟨fv, fvs, e1, e2, w⟩ | ⟨p, ps, e1, e2, s1, s2, w⟩
    · obtain ⟨rfl, f1⟩ := r1.flat e1
      obtain ⟨rfl, f2⟩ := q2.flats e2
      exact op_notIn_seq pins s σ H _ _ v u Q I rx ry ⟨_, _, rfl, .inl (.inl (.inl h2)), f1, f2, f.flat g (.bl _) w⟩
    · exact op_notInD hu pins s σ H _ _ v u Q I rx ry ⟨p, ps, r1.dp g e1, .lst (.inl (.inl h2)) (q2.dp g e2), s1, s2, f.flat g (.bl _) w⟩
  · obtain ⟨a, ws, rfl, h2, _, q2⟩ := r2.tup g
    obtain ⟨fv, fvs, e1, e2, w⟩ := w
    obtain ⟨rfl, f1⟩ := r1.flat e1
    obtain ⟨rfl, f2⟩ := q2.flats e2
    exact op_notIn_seq pins s σ H _ _ v u Q I rx ry ⟨_, _, rfl, .inr h2, f1, f2, f.flat g (.bl _) w⟩
  · exact w.elim
theorem isNon_of (g : Hx G H) {x : V} {d : D} (r : RepT K G H x d) : decide (x = .non) = d.isNon := by
  rcases r with r | ⟨p, vs, ds, rfl, rfl, h, r⟩ | ⟨p, kvs, ks, ds, rfl, rfl, h, e, r⟩
  · cases r <;> simp [D.isNon]
  · simp [D.isNon]
  · simp [D.isNon]
theorem op_cmp (hu : X.A.units + 65 < cLine) (op : CmpOp) : OpR X (compareOp op) (r2D X.K (w2B (wCmp op))) := by
  intro pins s σ H x y v u Q I rx ry h
  obtain ⟨G, dx, dy, Qz, g, r1, r2, w, f⟩ := id h
  unfold w2B wCmp at w
  split at w
  · obtain ⟨p, q, e1, e2, s1, s2, w⟩ := w
    exact op_eqD (by omega) pins s σ H x y v u Q I rx ry ⟨p, q, r1.dp g e1, r2.dp g e2, s1, s2, f.flat g (.bl _) w⟩
  · obtain ⟨p, q, e1, e2, s1, s2, w⟩ := w
    exact op_neD (by omega) pins s σ H x y v u Q I rx ry ⟨p, q, r1.dp g e1, r2.dp g e2, s1, s2, f.flat g (.bl _) w⟩
  · exact op_lt pins s σ H x y v u Q I rx ry ⟨_, _, r1.int, r2.int, f.flat g (.bl _) w⟩
  · exact op_le pins s σ H x y v u Q I rx ry ⟨_, _, r1.int, r2.int, f.flat g (.bl _) w⟩
  · exact op_gt pins s σ H x y v u Q I rx ry ⟨_, _, r1.int, r2.int, f.flat g (.bl _) w⟩
  · exact op_ge pins s σ H x y v u Q I rx ry ⟨_, _, r1.int, r2.int, f.flat g (.bl _) w⟩
  · exact op_lt_str pins s σ H x y v u Q I rx ry ⟨_, _, r1.str, r2.str, f.flat g (.bl _) w⟩
  · exact op_le_str pins s σ H x y v u Q I rx ry ⟨_, _, r1.str, r2.str, f.flat g (.bl _) w⟩
  · exact op_gt_str pins s σ H x y v u Q I rx ry ⟨_, _, r1.str, r2.str, f.flat g (.bl _) w⟩
  · exact op_ge_str pins s σ H x y v u Q I rx ry ⟨_, _, r1.str, r2.str, f.flat g (.bl _) w⟩
  · exact op_inAll hu pins s σ H x y v u Q I rx ry ⟨G, _, _, Qz, g, r1, r2, w, f⟩
  · exact op_notInAll hu pins s σ H x y v u Q I rx ry ⟨G, _, _, Qz, g, r1, r2, w, f⟩
  · refine op_isN pins s σ H x y v u Q I rx ry ⟨r2.non, ?_⟩
    rw [isNon_of g r1]
    exact f.flat g (.bl _) w
  · refine op_notN pins s σ H x y v u Q I rx ry ⟨r2.non, ?_⟩
    rw [isNon_of g r1]
    exact f.flat g (.bl _) w
  · exact w.elim
theorem atI_reps {vs : List V} {ds : List D} {i : Int} {d : D} (r : Reps K G vs ds) (h : atI ds i = some d) : ∃ v, atI vs i = some v ∧ Rep K G v d := by
  unfold atI at h ⊢
  rw [r.length]
  cases e : ixN ds.length i with
  | none => rw [e] at h; cases h
  | some j =>
    rw [e] at h
    obtain ⟨v, h1, h2⟩ := r.get h
    exact ⟨v, h1, h2⟩
theorem atI_ints {ns : List Int} {i d : Int} (h : atI ns i = some d) : atI (ns.map V.int) i = some (V.int d) := by
  unfold atI at h ⊢
  rw [List.length_map]
  cases e : ixN ns.length i with
  | none => rw [e] at h; cases h
  | some j =>
    rw [e] at h
    show (ns.map V.int)[j]? = _
    rw [List.getElem?_map, show ns[j]? = some d from h]
    rfl
theorem RepT.scr {ns : List Int} {v : V} (g : Hx G H) (r : RepT K G H v (.scr ns)) : ∃ a, v = .ref a ∧ SqL K H a (ns.map V.int) := by
  rcases r with r | ⟨p, vs, ds, rfl, e, h, r⟩ | ⟨p, kvs, ks, ds, rfl, e, h, _⟩
  · cases r with
    | scr h => exact ⟨_, rfl, ex_l g h⟩
  · cases e
  · cases e
theorem ix_all : IxR X (r2D X.K wIdx) := by
  intro value slice pins s σ H x y v u Q I rx ry h hs
  obtain ⟨G, dx, dy, Qz, g, r1, r2, w, f⟩ := h
  unfold wIdx at w
  split at w
  · obtain ⟨d, e, w⟩ := w
    obtain ⟨a, vs, rfl, h1, q1⟩ := r1.lst g
    obtain ⟨z, e1, rz⟩ := atI_reps q1 e
    exact ix_list value slice pins s σ H _ _ v u Q I rx ry ⟨_, _, _, _, rfl, r2.int, .inl (.inl h1), e1, f.flat g rz w⟩ hs
  · obtain ⟨d, e, w⟩ := w
    obtain ⟨a, vs, rfl, h1, _, q1⟩ := r1.tup g
    obtain ⟨z, e1, rz⟩ := atI_reps q1 e
    exact ix_tup value slice pins s σ H _ _ v u Q I rx ry ⟨_, _, _, _, rfl, r2.int, h1, e1, f.flat g rz w⟩ hs
  · obtain ⟨d, e, w⟩ := w
    obtain ⟨a, rfl, h1⟩ := r1.scr g
    exact ix_list value slice pins s σ H _ _ v u Q I rx ry ⟨_, _, _, _, rfl, r2.int, h1, atI_ints e, f.flat g (.int _) w⟩ hs
  · obtain ⟨c, hz, e, w⟩ := w
    exact ix_str value slice pins s σ H _ _ v u Q I rx ry ⟨_, _, _, r1.str, r2.int, hz, e, f.flat g (.str _) w⟩ hs
  · exact w.elim
end
end Pl

/-! Pl: what a def promises, with the running reprs known (none) -/
namespace Pl
open PySem PySem.Spec L2

structure Rm (k : Nat) (A : Around) : Prop where
  room : Room k A
  gd : A.guards = some []
theorem Rm.mono {j k : Nat} {A : Around} (r : Rm k A) (h : j ≤ k) : Rm j A := ⟨r.room.mono h, r.gd⟩
theorem Rm.deeper {k : Nat} {A : Around} (r : Rm (k + 1) A) (env : Env) : Rm k (A.deeper env) := ⟨r.room.deeper env, r.gd⟩

/-- a def's promise -/
structure FnG (P : Program) (w : World) (K : PySem.W.Frag) (mg : Str → Option Value) (base : Heap) (k : Nat) (f : Addr) (fd : FuncData) (ps : List Str) (sp : Sp) : Prop where
  len : ∀ vs H Q E, sp vs H Q E → vs.length = ps.length
  run : ∀ (A : Around) (outer : List Env) (s : Shared) (H : Hp) (args : Args) (us : List Value) (vs : List V) (Q : VK) (E : XK), Rm k A → Env0 P w K mg base A outer s H → BindsTo s fd args (ps.zip us) → Vals vs us →
    sp vs H Q E → codeAny (model P w) A (.call (.ref f) args) (CR (L2.CX P w) outer P w H s Q E) s
section
variable {P : Program} {w : World} {K : PySem.W.Frag} {mg : Str → Option Value} {base : Heap} {k : Nat} {f : Addr} {fd : FuncData} {ps : List Str} {sp : Sp}
theorem FnG.mono {j : Nat} (F : FnG P w K mg base j f fd ps sp) (h : j ≤ k) : FnG P w K mg base k f fd ps sp :=
  ⟨F.len, fun A outer s H args us vs Q E hr => F.run A outer s H args us vs Q E (hr.mono h)⟩

/-- by the body -/
theorem FnG.body {x qual : Str} {st : Stmt} {N : List Str} (F : Fun K x qual st f fd) (S : FnScope N ps (defScope st)) (len : ∀ vs H Q E, sp vs H Q E → vs.length = ps.length)
    (go : ∀ (cdv : Value) (A : Around) (outer : List Env) (s : Shared) (H : Hp) (vs : List V) (Q : VK) (E : XK), Rm k (A.deeper (PyProof.Rows.envOfC qual (defScope st) s.heap.objs.size f cdv)) → sp vs H Q E →
      ∃ t, PSs (cxOf (L2.CX P w) P w K mg base N qual (defScope st) f cdv A outer s H E) (defBody st) t ∧ t { nx := fun _ H' => Q .non H', rt := Q } (start N vs) H) : FnG P w K mg base (k + 1) f fd ps sp := by
  obtain ⟨oc, od, kV, doc, pm, an, cdv, ct, osl, rfl, lk, hcd⟩ := F.ex
  constructor
  · exact len
  intro A outer s H args us vs Q E rm e0 hb rel spec
  have kin : K.In s.heap := Mod.kin e0.mod |>.keeps fun b o e => (e0.bs b o e).1
  have nol : s.heap.NoLimit := Mod.nolimit e0.mod |>.keeps fun b o e => (e0.bs b o e).1
  have kinds : ∀ z ∈ ps.zip us, (defScope st).names.lookup z.1 = some .local ∨
      ((defScope st).names.lookup z.1 = some .cell ∧ ((cellsFrom (s.heap.objs.size + 1) (defScope st).names []).lookup z.1).isSome = true) := by
    rintro ⟨n, v⟩ hz
    have hn := (List.of_mem_zip hz).1
    cases S.par n hn with
    | inl q => exact Or.inl q
    | inr q => exact Or.inr ⟨q, PySem.W.cellsFrom_some _ _ _ (Or.inl q)⟩
  obtain ⟨t, pss, ht⟩ := go cdv A outer s H vs Q E (rm.deeper _) spec
  apply codeAny_call_function rm.room.depth (kin _ _ lk) rfl S.co S.gen rfl (PySem.W.codeRec_of kin hcd)
  apply hb
  apply wpAny_newFunctionEnv_cells S.kind kinds
  intro env he s1 x
  subst he
  constructor
  · exact nol.keeps x.toInCall.keep
  have inv := inv_start (CX := L2.CX P w) (E := E) S rm.room.hd e0 (len _ _ _ _ spec) rel x
  apply codeAny_func
  apply wpAny_mono (pss.run [] s1 (start N vs) H _ inv ht)
  · intro fl s' hs
    cases fl with
    | next => obtain ⟨σ', H', J, q⟩ := hs; exact ⟨.non, H', J.os, J.bare, J.base, J.hok, rfl, q⟩
    | ret u => obtain ⟨v, σ', H', J, rv, q⟩ := hs; exact ⟨v, H', J.os, J.bare, J.base, J.hok, rv, q⟩
    | brk => obtain ⟨σ', H', J, q⟩ := hs; exact q.elim
    | cont => obtain ⟨σ', H', J, q⟩ := hs; exact q.elim
  · intro e s' h
    exact h
end
section
variable {X : Cx} {k : Nat} {f : Addr} {fd : FuncData} {ps : List Str} {sp : Sp}
/-- the callee runs -/
theorem runG {pins : List (Addr × Obj)} {σ : L2.St} {H : Hp} {s : Shared} {Q : VK} {E : XK} {us : List Value} {vs : List V} (F : FnG X.prog X.w X.K X.mg X.base k f fd ps sp) (hr : Rm k X.A) (hb : Binds X.K fd ps [])
    (hx : ∀ e s', L2.CX X.prog X.w X.stack H s E e s' → X.xe e s') (I : L2.Inv X pins σ H s) (r : Vals vs us) (h : sp vs H Q E) : wpAny (model X.prog X.w) X.A (call (.ref f) us) (EP X pins σ Q) X.xe s := by
  have hl : (us ++ []).length = ps.length := by rw [List.append_nil, ← r.length]; exact F.len _ _ _ _ h
  have bd := hb s us I.kIn hl
  rw [List.append_nil] at bd
  apply wpAny_call
  apply codeAny_mono (F.run X.A X.stack s H ⟨us, []⟩ us vs Q E hr I.env0 bd r h)
  intro res s' q
  match res, q with
  | .ok (.ret u), q => exact I.after q
  | .error e, q => exact hx e s' q
/-- f(..) -/
theorem pe_callG {x : Str} {p pos : Pos} {e : Expr} {es : List Expr} {t : TA} {E : L2.St → XK} (F : FnG X.prog X.w X.K X.mg X.base k f fd ps sp) (hr : Rm k X.A) (hg : Gl X x) (hm : X.mg x = some (.ref f)) (hk : PySem.W.keepIn X.K (.ref f) = true)
    (hb : Binds X.K fd ps []) (hx : ∀ σ, PassesAt (L2.CX X.prog X.w) X σ (E σ)) (ha : PA X (e :: es) t) (hdb : (x == ("__debug__" : Str)) = false) (he : starEach (e :: es) X.env = (false, eval e X.env) :: starEach es X.env)
    (hpl : (PySem.backTo pos (starEach es X.env)).any (·.1) = false) : PE X (.Call (.Name x p) (e :: es) [] pos) (fun σ H Q => t σ H fun vs H1 => sp vs H1 Q (E σ)) := by
  constructor
  intro pins s σ H Q I h
  apply wpAny_Call_Name_kw
  refine ld_glob I hg hm ?_ hdb
  · apply PySem.W.callWith_K (h₀ := X.base) I.ok.mod.kin hk _ he hpl
    apply thn (ha.run pos pins s σ H _ I h)
    rintro us s1 ⟨vs, H1, I1, r, q⟩
    refine ⟨I1.kIn, runG F hr hb ?_ I1 r q⟩
    intro e' s' z
    exact hx σ pins H1 s1 e' s' I1 z
theorem pe_callG0 {x : Str} {p pos : Pos} {E : L2.St → XK} (F : FnG X.prog X.w X.K X.mg X.base k f fd ps sp) (hr : Rm k X.A) (hg : Gl X x) (hm : X.mg x = some (.ref f)) (hk : PySem.W.keepIn X.K (.ref f) = true)
    (hb : Binds X.K fd ps []) (hx : ∀ σ, PassesAt (L2.CX X.prog X.w) X σ (E σ)) (hdb : (x == ("__debug__" : Str)) = false) : PE X (.Call (.Name x p) [] [] pos) (fun σ H Q => sp [] H Q (E σ)) := by
  constructor
  intro pins s σ H Q I h
  apply wpAny_Call_Name_kw
  refine ld_glob I hg hm ?_ hdb
  · apply PySem.W.callWith_K0 I.kIn hk
    apply runG (us := []) F hr hb _ I .nil h
    intro e' s' z
    exact hx σ pins H s e' s' I z
end
end Pl

/-! Pl: built-in functions by data -/
namespace Pl
open PySem PySem.Spec L2
def rL1 (K : PySem.W.Frag) (w : D → (D → Prop) → Prop) : List V → Hp → VK → Prop := fun xs H Q => ∃ x G dx Qz, xs = [x] ∧ Hx G H ∧ RepT K G H x dx ∧ w dx Qz ∧ Fin K G H Qz Q
def rL2 (K : PySem.W.Frag) (w : D → D → (D → Prop) → Prop) : List V → Hp → VK → Prop := fun xs H Q => ∃ x y G dx dy Qz, xs = [x, y] ∧ Hx G H ∧ RepT K G H x dx ∧ RepT K G H y dy ∧ w dx dy Qz ∧ Fin K G H Qz Q
def B1.val : B1 → Value
  | .len => .builtin "len"
  | .abs => .builtin "abs"
  | .int => .type "int"
  | .list => .type "list"
  | .tuple => .type "tuple"
  | .all => .builtin "all"
  | .any => .builtin "any"
  | .max => .builtin "max"
  | .min => .builtin "min"
  | .repr => .builtin "repr"
  | .str => .type "str"
  | .sorted => .builtin "sorted"
  | .set => .type "set"
  | .sum => .builtin "sum"
def B1.nm : B1 → Str
  | .len => "len"
  | .abs => "abs"
  | .int => "int"
  | .list => "list"
  | .tuple => "tuple"
  | .all => "all"
  | .any => "any"
  | .max => "max"
  | .min => "min"
  | .repr => "repr"
  | .str => "str"
  | .sorted => "sorted"
  | .set => "set"
  | .sum => "sum"
def B2.val : B2 → Value
  | .max => .builtin "max"
  | .min => .builtin "min"
  | .isinstance => .builtin "isinstance"
def B2.nm : B2 → Str
  | .max => "max"
  | .min => "min"
  | .isinstance => "isinstance"
theorem B1.boot (f : B1) : bootBuiltins f.nm = some f.val := by cases f <;> decide +kernel
theorem B2.boot (f : B2) : bootBuiltins f.nm = some f.val := by cases f <;> decide +kernel
theorem B1.nn (f : B1) : f.nm ≠ "__name__" := by cases f <;> decide +kernel
theorem B2.nn (f : B2) : f.nm ≠ "__name__" := by cases f <;> decide +kernel
theorem B1.nd (f : B1) : (f.nm == ("__debug__" : Str)) = false := by cases f <;> decide +kernel
theorem B2.nd (f : B2) : (f.nm == ("__debug__" : Str)) = false := by cases f <;> decide +kernel
section
variable {X : Cx} {K : PySem.W.Frag} {G H : Hp}
theorem Reps.dBls : ∀ {vs : List V} {ds : List D} {bs : List Bool}, Reps K G vs ds → dBls ds = some bs → vs = bs.map V.bl
  | _, _, _, .nil, f => by simp [Pl.dBls] at f; subst f; rfl
  | _, _, bs, .cons (d := d) (ds := ds) a b, f => by
    cases d <;> simp only [Pl.dBls, reduceCtorEq] at f
    cases e : Pl.dBls ds with
    | none => rw [e] at f; cases f
    | some cs =>
      rw [e] at f
      cases f
      have := Reps.dBls b e
      subst this
      rw [RepT.bl (H := G) (.inl a)]
      rfl
theorem Reps.dInts : ∀ {vs : List V} {ds : List D} {bs : List Int}, Reps K G vs ds → dInts ds = some bs → vs = bs.map V.int
  | _, _, _, .nil, f => by simp [Pl.dInts] at f; subst f; rfl
  | _, _, bs, .cons (d := d) (ds := ds) a b, f => by
    cases d <;> simp only [Pl.dInts, reduceCtorEq] at f
    cases e : Pl.dInts ds with
    | none => rw [e] at f; cases f
    | some cs =>
      rw [e] at f
      cases f
      have := Reps.dInts b e
      subst this
      rw [RepT.int (H := G) (.inl a)]
      rfl
theorem Reps.dStrs : ∀ {vs : List V} {ds : List D} {bs : List Str}, Reps K G vs ds → dStrs ds = some bs → vs = bs.map V.str
  | _, _, _, .nil, f => by simp [Pl.dStrs] at f; subst f; rfl
  | _, _, bs, .cons (d := d) (ds := ds) a b, f => by
    cases d <;> simp only [Pl.dStrs, reduceCtorEq] at f
    cases e : Pl.dStrs ds with
    | none => rw [e] at f; cases f
    | some cs =>
      rw [e] at f
      cases f
      have := Reps.dStrs b e
      subst this
      rw [RepT.str (H := G) (.inl a)]
      rfl
/-- repr of data -/
theorem cr_repr (gd : X.A.guards = some []) (hu : X.A.units + 64 < cLine) : CallR X (.builtin "repr") (rL1 X.K fun x Q => wB1 .repr x Q) := by
  intro pins s σ H xs us Q I r h
  obtain ⟨x, G, dx, Qz, rfl, g, r1, w, f⟩ := h
  simp only [wB1] at w
  obtain ⟨p, e, h1, h2, h3, h4, w⟩ := w
  obtain ⟨u, rfl, rx⟩ := vals1 r
  have dp := r1.dp g e
  obtain ⟨as, rd⟩ := Dp.reads I p x u dp rx
  have fin : ∀ s', L2.Inv X pins σ H s' → ∀ t, EP X pins σ Q (.str p.shown t) s' := fun s' I' t => ⟨.str p.shown, H, I', ⟨t, rfl⟩, f.flat g (.str _) w⟩
  have big : ∀ a, u = .ref a → wpAny (model X.prog X.w) X.A (call (.builtin "repr") [u]) (EP X pins σ Q) X.xe s := by
    intro a ea
    subst ea
    exact repr_of_reads' rd h1 (fun z => by rw [h2] at z; cases z) gd (by omega) (fun _ _ z => z) (fun h' t tk hk => fin _ (I.kept hk) t) h4
  cases dp with
  | non => cases rx; exact PySem.P.repr_of_none (fin _ (I.tok _) _)
  | bl b =>
    cases rx
    refine PySem.P.repr_of_bool ?_
    have := fin { s with toks := s.toks + 1 } (I.tok _) s.toks
    simpa only [PyData.shown] using this
  | int i =>
    obtain ⟨t, rfl⟩ := rx
    refine PySem.P.repr_of_int (by simpa [PyData.showable] using h1) ?_
    have := fin { s with toks := s.toks + 1 } (I.tok _) s.toks
    simpa only [PyData.shown] using this
  | str z =>
    obtain ⟨t, rfl⟩ := rx
    refine PySem.P.repr_of_str ?_ (by simpa only [PyData.shown] using h4)
    have := fin { s with toks := s.toks + 1 } (I.tok _) s.toks
    simpa only [PyData.shown] using this
  | lst _ _ => exact big _ rx
  | tup _ _ => exact big _ rx
/-- the signs of a text, as a list -/
theorem cr_listS (hc : X.calm = true) : CallR X (.type "list") (fun xs H Q => ∃ z : Str, xs = [.str z] ∧ z.length ≤ sizeLine ∧ ∀ l, H l = none → Q (.ref l) (upd H l (.lst (z.cps.toList.map fun c => V.str ⟨#[c]⟩)))) := by
  intro pins s σ H xs us Q I r h
  obtain ⟨z, rfl, hz, q⟩ := h
  obtain ⟨u, rfl, t, rfl⟩ := vals1 r
  refine call_list_str (I.ok.hd hc) z t (fun h' tk acc' c' hk hS hit => ?_) hz
  have rel : Vals (z.cps.toList.map fun c => V.str ⟨#[c]⟩) acc'.toList := by
    obtain ⟨n1, n2⟩ := hit
    have key : ∀ (l : List Nat) (us : List Value), l.length = us.length → (∀ (j : Nat) (v : Value), us[j]? = some v → ∃ c t, l[j]? = some c ∧ v = Value.str ⟨#[c]⟩ t) → Vals (l.map fun c => V.str ⟨#[c]⟩) us := by
      intro l
      induction l with
      | nil => intro us e _; cases us with
        | nil => exact .nil
        | cons _ _ => simp at e
      | cons c l ih =>
        intro us e hh
        cases us with
        | nil => simp at e
        | cons v us =>
          obtain ⟨c', t', e1, e2⟩ := hh 0 v (by simp)
          simp at e1
          subst e1
          refine .cons ⟨t', e2⟩ (ih us (by simpa using e) fun j w hj => ?_)
          have := hh (j + 1) w (by simpa using hj)
          simpa using this
    refine key _ _ (by simp [n1]) fun j v hj => ?_
    obtain ⟨c, t', e1, e2⟩ := n2 j v (by simpa using hj)
    exact ⟨c, t', by simpa using e1, e2⟩
  have eN : H s.heap.objs.size = none := I.hok.fresh (Nat.le_refl _)
  refine ⟨.ref s.heap.objs.size, upd H s.heap.objs.size (.lst _), I.laid (t' := tk) (fun b o e => hk b o e) (Nat.le_refl _) ?_, rfl, q _ eN⟩
  exact ⟨by rw [List.length_map, Array.length_toList]; exact hz, acc'.toList, c', rel, by simpa using hS⟩
theorem cr_b1 (hc : X.calm = true) (gd : X.A.guards = some []) (hu : X.A.units + 64 < cLine) (b : B1) : CallR X b.val (rL1 X.K (wB1 b)) := by
  intro pins s σ H xs us Q I r h
  obtain ⟨x, G, dx, Qz, rfl, g, r1, w, f⟩ := id h
  unfold wB1 at w
  split at w
  · exact call_len pins s σ H _ us Q I r ⟨_, _, rfl, by rw [r1.str]; exact ⟨w.1, rfl⟩, f.flat g (.int _) w.2⟩
  · obtain ⟨a, vs, rfl, h1, q1⟩ := r1.lst g
    exact call_len pins s σ H _ us Q I r ⟨_, vs.length, rfl, .inl ⟨_, .inl (.inl h1), rfl⟩, by rw [q1.length]; exact f.flat g (.int _) w⟩
  · obtain ⟨a, vs, rfl, h1, _, q1⟩ := r1.tup g
    exact call_len pins s σ H _ us Q I r ⟨_, vs.length, rfl, .inr ⟨_, h1, rfl⟩, by rw [q1.length]; exact f.flat g (.int _) w⟩
  · obtain ⟨a, rfl, h1⟩ := r1.scr g
    exact call_len pins s σ H _ us Q I r ⟨_, _, rfl, .inl ⟨_, h1, rfl⟩, by rw [List.length_map]; exact f.flat g (.int _) w⟩
  · exact call_abs pins s σ H _ us Q I r ⟨_, by rw [r1.int], f.flat g (.int _) w⟩
  · exact call_int1 pins s σ H _ us Q I r (.inl ⟨_, by rw [r1.int], f.flat g (.int _) w⟩)
  · exact call_int1 pins s σ H _ us Q I r (.inr ⟨_, by rw [r1.bl], f.flat g (.int _) w⟩)
  · obtain ⟨a, vs, rfl, h1, q1⟩ := r1.lst g
    exact call_list_of pins s σ H _ us Q I r ⟨_, _, rfl, .inl (.inl (.inl h1)), fun l hl => f.newL g hl q1 w⟩
  · obtain ⟨a, vs, rfl, h1, _, q1⟩ := r1.tup g
    exact call_list_of pins s σ H _ us Q I r ⟨_, _, rfl, .inr h1, fun l hl => f.newL g hl q1 w⟩
  · refine cr_listS hc pins s σ H _ us Q I r ⟨_, by rw [r1.str], w.1, fun l hl => f.newL g hl ?_ w.2⟩
    have key : ∀ l : List Nat, Reps X.K G (l.map fun c => V.str ⟨#[c]⟩) (l.map fun c => D.str ⟨#[c]⟩) := by
      intro l
      induction l with
      | nil => exact .nil
      | cons c l ih => exact .cons (.str _) ih
    exact key _
  · obtain ⟨a, vs, rfl, h1, q1⟩ := r1.lst g
    exact call_tuple_of pins s σ H _ us Q I r ⟨_, _, rfl, .inl ⟨.inl (.inl h1), fun l hl => f.newT g hl q1 w⟩⟩
  · have r2 := r1
    obtain ⟨a, vs, rfl, h1, h1', q1⟩ := r1.tup g
    exact call_tuple_of pins s σ H _ us Q I r ⟨_, _, rfl, .inr ⟨h1, f.flat g (.tup h1' q1) w⟩⟩
  · obtain ⟨bs, e, w⟩ := w
    obtain ⟨a, vs, rfl, h1, q1⟩ := r1.lst g
    have ev := q1.dBls e
    subst ev
    exact cr_all hc pins s σ H _ us Q I r ⟨_, _, rfl, .inl (.inl h1), f.flat g (.bl _) w⟩
  · obtain ⟨bs, e, w⟩ := w
    obtain ⟨a, vs, rfl, h1, q1⟩ := r1.lst g
    have ev := q1.dBls e
    subst ev
    exact cr_any hc pins s σ H _ us Q I r ⟨_, _, rfl, .inl (.inl h1), f.flat g (.bl _) w⟩
  · obtain ⟨ns, e, w0, w⟩ := w
    obtain ⟨a, vs, rfl, h1, q1⟩ := r1.lst g
    have ev := q1.dInts e
    subst ev
    exact cr_max hc pins s σ H _ us Q I r ⟨_, _, rfl, .inl (.inl h1), w0, fun m z1 z2 => f.flat g (.int _) (w m z1 z2)⟩
  · obtain ⟨ns, e, w0, w⟩ := w
    obtain ⟨a, vs, rfl, h1, q1⟩ := r1.lst g
    have ev := q1.dInts e
    subst ev
    exact cr_min hc pins s σ H _ us Q I r ⟨_, _, rfl, .inl (.inl h1), w0, fun m z1 z2 => f.flat g (.int _) (w m z1 z2)⟩
  · exact cr_repr gd hu pins s σ H _ us Q I r ⟨x, G, _, Qz, rfl, g, r1, by simp only [wB1]; exact w, f⟩
  · exact call_str_int pins s σ H _ us Q I r ⟨_, by rw [r1.int], w.1, f.flat g (.str _) w.2⟩
  · exact SkE.call_str_str pins s σ H _ us Q I r ⟨_, by rw [r1.str], f.flat g (.str _) w⟩
  · exact w.elim
theorem tyx_of (g : Hx G H) {x : V} {d : D} {t : String} (r : RepT K G H x d) (e : d.tyN = some t) : TyX K H x (.type t) := by
  rcases r with r | ⟨p, vs, ds, rfl, rfl, h, r⟩ | ⟨p, kvs, ks, ds, rfl, rfl, h, e', r⟩
  · cases r <;> simp only [D.tyN, Option.some.injEq, reduceCtorEq] at e <;> subst e
    · exact .base .non
    · exact .base (.bl _)
    · exact .base (.int _)
    · exact .base (.str _)
    · rename_i h r
      rcases ex_t g h with (h | ⟨o, h⟩) | ⟨o, its, n, h1, h2, _⟩
      · exact .base (.tup h)
      · exact .fTuple h
      · exact .kTuple h1 h2
    · rename_i h r; exact .base (.lst (g _ _ h))
    · rename_i h _ r; exact .base (.dK (g _ _ h))
  · simp only [D.tyN, Option.some.injEq] at e
    subst e
    exact .base (.lst h)
  · simp only [D.tyN, Option.some.injEq] at e
    subst e
    exact .base (.dK h)
theorem kit_all {d : D} {t c : String} (e : d.tyN = some t) (hc : c ∈ ["int", "bool", "str", "tuple", "list", "dict"]) : PySem.W.kitOne K (.type t) (.type c) = some (tyIs t c) := by
  have ht : t ∈ ["NoneType", "bool", "int", "str", "tuple", "list", "dict"] := by
    cases d <;> simp only [D.tyN, Option.some.injEq, reduceCtorEq] at e <;> subst e <;> decide
  have all : ∀ t ∈ ["NoneType", "bool", "int", "str", "tuple", "list", "dict"], ∀ c ∈ ["int", "bool", "str", "tuple", "list", "dict"], kitB t c = some (tyIs t c) := by decide +kernel
  exact kit_ty (all t ht c hc)
theorem cr_b2 (hc : X.calm = true) (b : B2) : CallR X b.val (rL2 X.K (wB2 b)) := by
  intro pins s σ H xs us Q I r h
  obtain ⟨x, y, G, dx, dy, Qz, rfl, g, r1, r2, w, f⟩ := h
  unfold wB2 at w
  split at w
  · exact call_max2 hc pins s σ H _ us Q I r ⟨_, _, by rw [r1.int, r2.int], f.flat g (.int _) w⟩
  · exact call_min2 hc pins s σ H _ us Q I r ⟨_, _, by rw [r1.int, r2.int], f.flat g (.int _) w⟩
  · obtain ⟨t, e, hcc, w⟩ := w
    exact call_isi pins s σ H _ us Q I r ⟨_, _, _, _, _, rfl, by rw [r2.ty]; exact .ty _, tyx_of g r1 e, kit_all e hcc, f.flat g (.bl _) w⟩
  · exact w.elim
end
end Pl

/-! Pl: which syntax a plain program stands for; expressions do what their condition says -/
namespace Pl
open PySem PySem.Spec L2

/-! ### the syntax -/
def vis (sc : Scope) (x : Str) : Bool := match sc.names.lookup x with
  | some .local => true
  | some .cell => true
  | some .free => true
  | _ => false
def nameOk (N : List Str) (sc : Scope) (i : Nat) (x : Str) : Bool := decide (N[i]? = some x) && vis sc x && (x != ("__debug__" : Str)) && (x != ("__classdict__" : Str))
def glOk (sc : Scope) (x : Str) : Bool := decide (sc.names.lookup x = some .globalImplicit) && (x != ("__debug__" : Str))
def noStar : Expr → Bool
  | .Starred _ _ => false
  | _ => true
def noSlice : Expr → Bool
  | .Slice _ _ _ _ => false
  | _ => true
def plainB : Expr → Bool
  | .Call (.Name _ _) [] [] _ => false
  | _ => true
def noSetE : Expr → Bool
  | .Set _ _ _ => false
  | _ => true
/-- tests that have a road of their own -/
def plainT : Expr → Bool
  | .UnaryOp .Not _ _ => false
  | .BoolOp _ _ _ => false
  | .IfExp _ _ _ _ => false
  | .Compare _ _ _ _ => false
  | _ => true
def cst : D → Const → Bool
  | .non, .none => true
  | .bl a, .bool b => decide (a = b)
  | .int a, .int b => decide (a = b)
  | .str a, .str b => decide (a = b)
  | _, _ => false
def Ex.isRd : Ex → Bool
  | .rd _ => true
  | _ => false
mutual
/-- nothing that stands is changed -/
def Ex.simp : Ex → Bool
  | .abs => true
  | .con _ => true
  | .var _ => true
  | .rd _ => true
  | .mu _ => true
  | .glb _ => true
  | .bty _ => true
  | .bin _ a b => a.simp && b.simp
  | .neg a => a.simp
  | .not a => a.simp
  | .and a b => a.simp && b.simp
  | .or a b => a.simp && b.simp
  | .ite c a b => c.simp && a.simp && b.simp
  | .cmp _ a b => a.simp && b.simp
  | .chn _ _ a b c => a.simp && b.simp && c.simp
  | .tup es => es.simp
  | .lst es => es.simp
  | .idx a i => a.simp && i.simp
  | .b1 _ a => a.simp
  | .b2 _ a b => a.simp && b.simp
  | .m1 _ o a => o.simp && a.simp
  | _ => false
def Exs.simp : Exs → Bool
  | .nil => true
  | .cons e r => e.simp && r.simp
end
/-- a thing that is only read stands still until it is used -/
def rdOk (a b : Ex) : Bool := !a.isRd || b.simp
def Exs.noRd : Exs → Bool
  | .nil => true
  | .cons e r => !e.isRd && r.noRd
def M1.nm : M1 → Str
  | .join => "join"
  | .get => "get"
  | .index => "index"
  | .split => "split"
  | .startswith => "startswith"
def oneLine (a b : Pos) : Bool := a.endLine == b.line
def tgOk (N : List Str) (scope sc : Scope) : Tg → Expr → Bool
  | .one i, .Name x _ => decide (N[i]? = some x) && decide ((relS scope sc).names.lookup x = some .local ∨ (scope.names.lookup x = some .cell ∧ (relS scope sc).names.lookup x = some .cell))
  | _, _ => false
def ownOf (N : List Str) : List Nat → List (Str × Nat)
  | [] => []
  | i :: r => (N.getD i Str.empty, i) :: ownOf N r
mutual
def ckE (N : List Str) : Scope → Ex → Expr → Bool
  | _, .con d, .Constant c _ _ => cst d c
  | sc, .var i, .Name x _ => nameOk N sc i x
  | sc, .rd i, .Name x _ => nameOk N sc i x
  | sc, .mu i, .Name x _ => nameOk N sc i x
  | sc, .glb y, .Name x _ => decide (x = (y : Str)) && glOk sc x
  | sc, .bty n, .Name x _ => decide (n ∈ ["int", "bool", "str", "tuple", "list", "dict"]) && decide (x = (n : Str)) && glOk sc x
  | _, .dct .nil .nil, .Dict [] [] _ => true
  | sc, .bin op a b, .BinOp l o r _ => decide (op = o) && ckE N sc a l && ckE N sc b r && rdOk a b
  | sc, .neg a, .UnaryOp .USub x _ => ckE N sc a x && !a.isRd
  | sc, .not a, .UnaryOp .Not x _ => ckE N sc a x
  | sc, .and a b, .BoolOp .And (x :: y :: r) pos => ckE N sc a x && !a.isRd && !b.isRd && (match r with
    | [] => ckE N sc b y
    | _ => ckE N sc b (.BoolOp .And (y :: r) pos))
  | sc, .or a b, .BoolOp .Or (x :: y :: r) pos => ckE N sc a x && !a.isRd && !b.isRd && (match r with
    | [] => ckE N sc b y
    | _ => ckE N sc b (.BoolOp .Or (y :: r) pos))
  | sc, .ite c a b, .IfExp t x y _ => ckT N sc c t && ckE N sc a x && ckE N sc b y && !a.isRd && !b.isRd
  | sc, .cmp op a b, .Compare x [o] [y] _ => decide (op = o) && noSetE y && ckE N sc a x && ckE N sc b y && rdOk a b
  | sc, .chn o1 o2 a b c, .Compare x [p, q] [y, z] _ => decide (o1 = p) && decide (o2 = q) && noSetE y && noSetE z && ckE N sc a x && ckE N sc b y && ckE N sc c z && rdOk a b && rdOk b c
  | sc, .tup es, .Tuple xs _ _ => ckA N sc es xs && es.noRd
  | sc, .lst es, .List xs _ => ckA N sc es xs && es.noRd
  | sc, .idx a i, .Subscript x y _ => ckE N sc a x && ckE N sc i y && noSlice y && rdOk a i
  | sc, .call f es, .Call (.Name x _) xs [] _ => decide (x = (f : Str)) && glOk sc x && ckA N sc es xs && es.noRd
  | sc, .b1 f a, .Call (.Name x _) [y] [] _ => decide (x = f.nm) && glOk sc x && noStar y && ckE N sc a y
  | sc, .b2 f a b, .Call (.Name x _) [y, z] [] _ => decide (x = f.nm) && glOk sc x && noStar y && noStar z && ckE N sc a y && ckE N sc b z && rdOk a b
  | sc, .m1 m o a, .Call (.Attribute v x apos) [y] [] pos => decide (x = m.nm) && noStar y && plainB v && oneLine apos pos && ckE N sc o v && ckE N sc a y && rdOk o a
  | sc, .pop i a, .Call (.Attribute (.Name v _) x apos) ys [] pos => decide (x = ("pop" : Str)) && nameOk N sc i v && oneLine apos pos && (match ys with
    | [] => (match a with
      | .abs => true
      | _ => false)
    | [y] => noStar y && ckE N sc a y && !a.isRd
    | _ => false)
  | sc, .lc tg elt it c, .ListComp e [⟨t, x, ifs, 0⟩] scope _ => ckI N sc it x && blkC N sc scope (ownOf N tg.ix) && tgOk N scope sc tg t && ckE N (relS scope sc) elt e && !elt.isRd && (match ifs with
    | [] => (match c with
      | .abs => true
      | _ => false)
    | [y] => ckT N (relS scope sc) c y
    | _ => false)
  | _, _, _ => false
def ckT (N : List Str) : Scope → Ex → Expr → Bool
  | sc, .not a, .UnaryOp .Not x _ => ckT N sc a x
  | sc, .and a b, .BoolOp .And (x :: y :: r) pos => ckT N sc a x && (match r with
    | [] => ckT N sc b y
    | _ => ckT N sc b (.BoolOp .And (y :: r) pos))
  | sc, .or a b, .BoolOp .Or (x :: y :: r) pos => ckT N sc a x && (match r with
    | [] => ckT N sc b y
    | _ => ckT N sc b (.BoolOp .Or (y :: r) pos))
  | _, .ite _ _ _, _ => false
  | _, .abs, _ => false
  | sc, .cmp op a b, .Compare x [o] [y] _ => decide (op = o) && noSetE y && ckE N sc a x && ckE N sc b y && rdOk a b
  | sc, .chn o1 o2 a b c, .Compare x [p, q] [y, z] _ => decide (o1 = p) && decide (o2 = q) && noSetE y && noSetE z && ckE N sc a x && ckE N sc b y && ckE N sc c z && rdOk a b && rdOk b c
  | sc, .var i, .Name x _ => nameOk N sc i x
  | sc, .call f es, .Call (.Name x _) xs [] _ => decide (x = (f : Str)) && glOk sc x && ckA N sc es xs && es.noRd
  | sc, .b1 f a, .Call (.Name x _) [y] [] _ => decide (x = f.nm) && glOk sc x && noStar y && ckE N sc a y
  | sc, .b2 f a b, .Call (.Name x _) [y, z] [] _ => decide (x = f.nm) && glOk sc x && noStar y && noStar z && ckE N sc a y && ckE N sc b z && rdOk a b
  | sc, .idx a i, .Subscript x y _ => ckE N sc a x && ckE N sc i y && noSlice y && rdOk a i
  | _, _, _ => false
def ckA (N : List Str) : Scope → Exs → List Expr → Bool
  | _, .nil, [] => true
  | sc, .cons e r, x :: xs => noStar x && ckE N sc e x && ckA N sc r xs
  | _, _, _ => false
def ckI (N : List Str) : Scope → Itr → Expr → Bool
  | sc, .seq a, x => noSetE x && ckE N sc a x && !a.isRd
  | sc, .rng1 a, .Call (.Name f _) [x] [] _ => decide (f = ("range" : Str)) && glOk sc f && noStar x && ckE N sc a x && !a.isRd
  | sc, .rng2 a b, .Call (.Name f _) [x, y] [] _ => decide (f = ("range" : Str)) && glOk sc f && noStar x && noStar y && ckE N sc a x && ckE N sc b y && !a.isRd && !b.isRd
  | _, _, _ => false
end
end Pl

/-! Pl: expressions do what their condition says -/
namespace Pl
open PySem PySem.Spec L2

/-! ### lending and giving back -/
inductive ArgsR (K : PySem.W.Frag) (G H : Hp) : List V → List AV → List (List Addr) → Prop
  | nil : ArgsR K G H [] [] []
  | val {v : V} {d : D} {vs : List V} {as : List AV} {fs : List (List Addr)} : Rep K G v d → ArgsR K G H vs as fs → ArgsR K G H (v :: vs) (.val d :: as) ([] :: fs)
  | own {p : Addr} {o : O} {l : List Addr} {vs : List V} {as : List AV} {fs : List (List Addr)} : ORep K G H p l o → (∀ a ∈ l, G a = none) → (∀ a ∈ l, ∀ l' ∈ fs, a ∉ l') →
      ArgsR K G H vs as fs → ArgsR K G H (.ref p :: vs) (.own o :: as) (l :: fs)
/-- what was lent stands behind the call -/
inductive BackR (K : PySem.W.Frag) (G H : Hp) : List V → List AV → List (List Addr) → List O → Prop
  | nil : BackR K G H [] [] [] []
  | val {v : V} {d : D} {vs : List V} {as : List AV} {fs : List (List Addr)} {os : List O} : BackR K G H vs as fs os → BackR K G H (v :: vs) (.val d :: as) ([] :: fs) os
  | own {p : Addr} {o o' : O} {l : List Addr} {vs : List V} {as : List AV} {fs : List (List Addr)} {os : List O} : ORep K G H p l o' → (∀ a ∈ l, G a = none) →
      BackR K G H vs as fs os → BackR K G H (.ref p :: vs) (.own o :: as) (l :: fs) (o' :: os)
structure Aft (K : PySem.W.Frag) (G H : Hp) (vs : List V) (as : List AV) (fs : List (List Addr)) (G' H' : Hp) (os : List O) : Prop where
  gg : Hx G G'
  gh : Hx G' H'
  nw : ∀ a o, G' a = some o → G a = some o ∨ H a = none
  fr : ∀ a o, H a = some o → (∀ l ∈ fs, a ∉ l) → H' a = some o
  dom : ∀ a o, H a = some o → ∃ o', H' a = some o'
  bk : BackR K G' H' vs as fs os
/-- an exception stands for its data -/
def XRep (K : PySem.W.Frag) (G : Hp) (cls : Value) (dd : Option Addr) (x : Xn) : Prop := PySem.W.nsIn K mainGlobals (x.cls : Str) = some (some cls) ∧ match dd with
  | none => x.ns = [] ∧ x.vs = []
  | some a => ∃ fs : List (Str × V), G a = some (.xd fs) ∧ x.ns = fs.map (·.1) ∧ Reps K G (fs.map (·.2)) x.vs
def lift (K : PySem.W.Frag) (c : Ctr) : Sp := fun vs H Q E => ∃ G avs fs Qp Ep, Hx G H ∧ ArgsR K G H vs avs fs ∧ c avs Qp Ep ∧
  (∀ d os v G' H', Aft K G H vs avs fs G' H' os → Rep K G' v d → Qp (.val d) os → Q v H') ∧
  (∀ o os p l G' H', Aft K G H vs avs fs G' H' os → ORep K G' H' p l o → (∀ a ∈ l, G' a = none ∧ H a = none) → Qp (.own o) os → Q (.ref p) H') ∧ (∀ x os cls dd G' H', Aft K G H vs avs fs G' H' os → XRep K G' cls dd x → Ep x os → E cls dd H')

def blts : List Str := ["len", "abs", "int", "list", "tuple", "all", "any", "max", "min", "repr", "str", "sorted", "set", "sum", "isinstance", "range", "enumerate", "zip", "bool", "dict"]
/-- a class of exceptions that is made of a text -/
def ClP (K : PySem.W.Frag) (mg : Str → Option Value) (x : String) : Prop := ∃ (C : Addr) (bmB : List Value) (B newId initId : String), mg (x : Str) = some (.ref C) ∧ PySem.W.nsIn K mainGlobals (x : Str) = some (some (.ref C)) ∧ PySem.W.keepIn K (.ref C) = true ∧
  ExcBaseFacts B newId initId bmB ∧ PySem.W.excIn K C bmB newId = true ∧ PySem.W.subIn K (.ref C) (.type "BaseException") = some true ∧ PySem.W.typeIn K (.ref C) = some (.type "type")
/-- class a is one of class b, or is not -/
def SubF (K : PySem.W.Frag) (mg : Str → Option Value) (a b : String) (t : Bool) : Prop := ∃ cb, mg (b : Str) = some cb ∧ ∀ ca, PySem.W.nsIn K mainGlobals (a : Str) = some (some ca) → PySem.W.exmOne K ca cb = some t
/-- what is known of the program around a body -/
structure SX (Γ : Gam) (k : Nat) (N : List Str) (X : Cx) : Prop where
  calm : X.calm = true
  nd : X.N.Nodup
  n : X.N = N
  rm : Rm k X.A
  glb : ∀ (x : String) d, Γ.glb x = some d → ∃ u v, X.mg (x : Str) = some u ∧ RelV v u ∧ Rep X.K (fun _ => none) v d
  bt : ∀ x ∈ blts, X.mg x = none
  sub : ∀ (a b : String) t, Γ.ex.sub a b = some t → SubF X.K X.mg a b t
  cl : ∀ x : String, Γ.ex.cls x = some none → ClP X.K X.mg x
  fn : ∀ (x : String) c, Γ.fn x = some c → ∃ f fd ps j, j ≤ k ∧ X.mg (x : Str) = some (.ref f) ∧ PySem.W.keepIn X.K (.ref f) = true ∧ Binds X.K fd ps [] ∧ FnG X.prog X.w X.K X.mg X.base j f fd ps (lift X.K c)
/-- the wish about exceptions -/
def WXn (K : PySem.W.Frag) (B : Bs) (Ep : Xn → En → Prop) : WX := fun cls dd σ H => ∃ G env fp x, ER K B G H σ env fp ∧ XRep K G cls dd x ∧ Ep x env

section
variable (K : PySem.W.Frag) (B : Bs)
/-- from one state to a later one: the names' slots are the same, nothing new is owned -/
structure Stp (fp : Nat → List Addr) (σ : L2.St) (G H : Hp) (env : En) (G' H' : Hp) (env' : En) : Prop where
  r : ER K B G' H' σ env' fp
  g : Hx G G'
  o : ∀ (i : Nat) (m : Bool) (u : O), env'[i]? = some (Sl.own m u) → ∃ u', env[i]? = some (Sl.own m u')
def Po (p : Ex) (fp : Nat → List Addr) (G H : Hp) (σ : L2.St) (env : En) (Q : VK) (Qp : D → En → Prop) : Prop := ∀ d env' v G' H', Stp K B fp σ G H env G' H' env' → RepT K G' H' v d → (p.isRd = false → Rep K G' v d) → (p.simp = true → Hx H H') → Qp d env' → Q v H'
def tD (Γ : Gam) (p : Ex) (Ep : Xn → En → Prop) : TE := fun σ H Q => ∃ G env fp Qp, ER K B G H σ env fp ∧ wE Γ p env Qp Ep ∧ Po K B p fp G H σ env Q Qp
def PoT (p : Ex) (fp : Nat → List Addr) (G H : Hp) (σ : L2.St) (env : En) (Q : Bool → Hp → Prop) (Qp : Bool → En → Prop) : Prop := ∀ t env' G' H', Stp K B fp σ G H env G' H' env' → (p.simp = true → Hx H H') → Qp t env' → Q t H'
def tDT (Γ : Gam) (p : Ex) (Ep : Xn → En → Prop) : TT := fun σ H Q => ∃ G env fp Qp, ER K B G H σ env fp ∧ wT Γ p env Qp Ep ∧ PoT K B p fp G H σ env Q Qp
inductive APs (G : Hp) (σ : L2.St) : List V → List AP → Prop
  | nil : APs G σ [] []
  | d {v : V} {x : D} {vs : List V} {as : List AP} : Rep K G v x → APs G σ vs as → APs G σ (v :: vs) (.d x :: as)
  | i {v : V} {i : Nat} {vs : List V} {as : List AP} : σ[i]? = some (some v) → APs G σ vs as → APs G σ (v :: vs) (.i i :: as)
def PoA (p : Exs) (fp : Nat → List Addr) (G H : Hp) (σ : L2.St) (env : En) (Q : List V → Hp → Prop) (Qp : List AP → En → Prop) : Prop := ∀ as env' vs G' H', Stp K B fp σ G H env G' H' env' → APs K G' σ vs as → (p.simp = true → Hx H H') → Qp as env' → Q vs H'
def tDA (Γ : Gam) (p : Exs) (Ep : Xn → En → Prop) : TA := fun σ H Q => ∃ G env fp Qp, ER K B G H σ env fp ∧ wA Γ p env Qp Ep ∧ PoA K B p fp G H σ env Q Qp
end
section
variable {K : PySem.W.Frag} {B : Bs} {fp : Nat → List Addr} {σ : L2.St} {G H G1 H1 G2 H2 : Hp} {env e1 e2 : En}
theorem Stp.rfl (R : ER K B G H σ env fp) : Stp K B fp σ G H env G H env := ⟨R, Hx.rfl, fun _ _ u h => ⟨u, h⟩⟩
theorem Stp.trans (a : Stp K B fp σ G H env G1 H1 e1) (b : Stp K B fp σ G1 H1 e1 G2 H2 e2) : Stp K B fp σ G H env G2 H2 e2 := ⟨b.r, a.g.trans b.g, fun i m u h => by
  obtain ⟨u1, h1⟩ := b.o i m u h
  exact a.o i m u1 h1⟩
theorem Stp.grow (a : Stp K B fp σ G H env G1 H1 e1) (h1 : Hx H1 H2) (h2 : Hx G1 G2) (h3 : Hx G2 H2) (h4 : ∀ a o, G2 a = some o → G1 a = some o ∨ H1 a = none) : Stp K B fp σ G H env G2 H2 e1 := ⟨a.r.grow h1 h2 h3 h4, a.g.trans h2, a.o⟩
theorem Stp.lay (a : Stp K B fp σ G H env G1 H1 e1) {p : Addr} {o : HO} (hp : H1 p = none) : Stp K B fp σ G H env (upd G1 p o) (upd H1 p o) e1 := ⟨a.r.lay hp, a.g.trans (Hx.new (a.r.gnone hp)), a.o⟩
end
theorem wkE {X : Cx} {e : Expr} {t t' : TE} (h : PE X e t) (i : ∀ σ H Q, t' σ H Q → t σ H Q) : PE X e t' := ⟨fun pins s σ H Q I q => h.run pins s σ H Q I (i _ _ _ q)⟩
theorem wkT {X : Cx} {e : Expr} {t t' : TT} (h : PT X e t) (i : ∀ σ H Q, t' σ H Q → t σ H Q) : PT X e t' := ⟨fun pins s σ H Q I q => h.run pins s σ H Q I (i _ _ _ q)⟩
theorem wkW {X : Cx} {e : Expr} {t t' : TT} (h : PW X e t) (i : ∀ σ H Q, t' σ H Q → t σ H Q) : PW X e t' := ⟨fun wh pins s σ H Q I q => h.run wh pins s σ H Q I (i _ _ _ q)⟩
theorem wkA {X : Cx} {e : List Expr} {t t' : TA} (h : PA X e t) (i : ∀ σ H Q, t' σ H Q → t σ H Q) : PA X e t' := ⟨fun pos pins s σ H Q I q => h.run pos pins s σ H Q I (i _ _ _ q)⟩
theorem APs.mono {K : PySem.W.Frag} {G G' : Hp} {σ : L2.St} (e : Hx G G') : ∀ {vs : List V} {as : List AP}, APs K G σ vs as → APs K G' σ vs as
  | _, _, .nil => .nil
  | _, _, .d a b => .d (a.mono e) (APs.mono e b)
  | _, _, .i a b => .i a (APs.mono e b)
theorem APs.data {K : PySem.W.Frag} {G : Hp} {σ : L2.St} : ∀ {vs : List V} {as : List AP} {ds : List D}, APs K G σ vs as → apds as = some ds → Reps K G vs ds
  | _, _, _, .nil, e => by simp [apds] at e; subst e; exact .nil
  | _, _, ds, .d (as := as) a b, e => by
    simp only [apds] at e
    cases e2 : apds as with
    | none => rw [e2] at e; cases e
    | some es => rw [e2] at e; cases e; exact .cons a (APs.data b e2)
  | _, _, _, .i a b, e => by simp [apds] at e

section
variable {Γ : Gam} {k : Nat} {N : List Str} {X : Cx} {B : Bs} {Ep : Xn → En → Prop} {sc : Scope}

theorem vis_of {x : Str} (h : vis sc x = true) : Vis sc x := by
  unfold vis at h
  split at h
  · exact .inl (by assumption)
  · exact .inr (.inl (by assumption))
  · exact .inr (.inr (by assumption))
  · cases h
theorem name_of {i : Nat} {x : Str} (h : nameOk N sc i x = true) : N[i]? = some x ∧ Vis sc x ∧ (x == ("__debug__" : Str)) = false ∧ (x == ("__classdict__" : Str)) = false := by
  unfold nameOk at h
  simp only [Bool.and_eq_true, decide_eq_true_eq, bne_iff_ne, ne_eq] at h
  exact ⟨h.1.1.1, vis_of h.1.1.2, beq_eq_false_iff_ne.mpr h.1.2, beq_eq_false_iff_ne.mpr h.2⟩
theorem gl_of {x : Str} (h : glOk sc x = true) (es : X.env.scope = sc) : Gl X x ∧ (x == ("__debug__" : Str)) = false := by
  unfold glOk at h
  simp only [Bool.and_eq_true, decide_eq_true_eq, bne_iff_ne, ne_eq] at h
  exact ⟨by unfold Gl Env.kindOf; rw [es]; exact h.1, beq_eq_false_iff_ne.mpr h.2⟩
theorem hu_rm {A : Around} (r : Rm k A) : A.units + 65 < cLine := by have := r.room.un; omega

/-- a name that is read -/
theorem se_var {i : Nat} {x : Str} {pos : Pos} (S : SX Γ k N X) (es : X.env.scope = sc) (h : nameOk N sc i x = true) : PE X (.Name x pos) (tVar i) := by
  obtain ⟨h1, h2, h3, h4⟩ := name_of h
  exact pe_var (by rw [S.n]; exact h1) (by rw [es]; exact h2) h3 h4
theorem ER.rd {K : PySem.W.Frag} {G H : Hp} {σ : L2.St} {env : En} {fp : Nat → List Addr} (R : ER K B G H σ env fp) {i : Nat} {Qp : D → En → Prop} (h : wRd i env Qp) :
    ∃ v d, σ[i]? = some (some v) ∧ RepT K G H v d ∧ Qp d env := by
  unfold wRd at h
  split at h
  · rename_i d e
    obtain ⟨v, h1, h2⟩ := R.val i d e
    exact ⟨v, d, h1, .inl h2, h⟩
  · rename_i m o e
    obtain ⟨p, h1, h2⟩ := R.own i m o e
    refine ⟨_, _, h1, ?_, h⟩
    cases o with
    | lst ds =>
      obtain ⟨_, vs, h3, h4⟩ := h2
      exact .inr (.inl ⟨p, vs, ds, rfl, rfl, h3, h4⟩)
    | dct ks ds =>
      obtain ⟨_, kvs, h3, h4, h5⟩ := h2
      exact .inr (.inr ⟨p, kvs, ks, ds, rfl, rfl, h3, h4, h5⟩)
  · exact h.elim
theorem sE_var {i : Nat} {x : Str} {pos : Pos} (S : SX Γ k N X) (es : X.env.scope = sc) (h : nameOk N sc i x = true) : PE X (.Name x pos) (tD X.K B Γ (.var i) Ep) := by
  refine wkE (se_var S es h) fun σ H Q ⟨G, env, fp, Qp, R, w, po⟩ => ?_
  simp only [wE] at w
  unfold wVar at w
  split at w
  · rename_i d e
    obtain ⟨v, h1, h2⟩ := R.val i d e
    exact ⟨v, h1, po _ _ _ _ _ (.rfl R) (.inl h2) (fun _ => h2) (fun _ => Hx.rfl) w⟩
  · rename_i o e
    obtain ⟨p, h1, h2, h3, h4⟩ := R.give e
    refine ⟨_, h1, po _ _ _ _ _ ⟨h4, h2, fun j m u hj => ?_⟩ (.inl h3) (fun _ => h3) (fun _ => Hx.rfl) w⟩
    by_cases z : i = j
    · subst z
      obtain ⟨z, _⟩ := get_set_eq hj
      cases z
    · rw [get_set_ne z] at hj
      exact ⟨u, hj⟩
  · exact w.elim
theorem sE_rd {i : Nat} {x : Str} {pos : Pos} (S : SX Γ k N X) (es : X.env.scope = sc) (h : nameOk N sc i x = true) : PE X (.Name x pos) (tD X.K B Γ (.rd i) Ep) := by
  refine wkE (se_var S es h) fun σ H Q ⟨G, env, fp, Qp, R, w, po⟩ => ?_
  simp only [wE] at w
  obtain ⟨v, d, h1, h2, h3⟩ := R.rd w
  exact ⟨v, h1, po _ _ _ _ _ (.rfl R) h2 (fun z => by cases z) (fun _ => Hx.rfl) h3⟩
theorem sE_con {d : D} {c : Const} {n : Nat} {pos : Pos} (h : cst d c = true) : PE X (.Constant c n pos) (tD X.K B Γ (.con d) Ep) := by
  have key : ∀ v : V, (∀ G, Rep X.K G v d) → PE X (.Constant c n pos) (tC v) → PE X (.Constant c n pos) (tD X.K B Γ (.con d) Ep) := fun v r h => by
    refine wkE h fun σ H Q ⟨G, env, fp, Qp, R, w, po⟩ => ?_
    simp only [wE] at w
    exact po _ _ _ _ _ (.rfl R) (.inl (r G)) (fun _ => r G) (fun _ => Hx.rfl) w
  cases d <;> cases c <;> simp only [cst, decide_eq_true_eq, reduceCtorEq, Bool.false_eq_true] at h
  · exact key .non (fun _ => .non) pe_non
  · subst h; exact key (.bl _) (fun _ => .bl _) pe_bl
  · subst h; exact key (.int _) (fun _ => .int _) pe_int
  · subst h; exact key (.str _) (fun _ => .str _) pe_str
theorem sE_glb {y : String} {pos : Pos} (S : SX Γ k N X) (es : X.env.scope = sc) (h : glOk sc (y : Str) = true) : PE X (.Name (y : Str) pos) (tD X.K B Γ (.glb y) Ep) := by
  obtain ⟨hg, hd⟩ := gl_of h es
  cases hd' : Γ.glb y with
  | none =>
    refine ⟨fun pins s σ H Q I ⟨G, env, fp, Qp, R, w, po⟩ => ?_⟩
    simp only [wE, hd', reduceCtorEq, false_and, exists_false] at w
  | some d =>
    obtain ⟨u, v, h1, h2, h3⟩ := S.glb y d hd'
    refine wkE (pe_glob hg h1 h2 hd) fun σ H Q ⟨G, env, fp, Qp, R, w, po⟩ => ?_
    simp only [wE, hd', Option.some.injEq, exists_eq_left'] at w
    have r : Rep X.K G v d := h3.mono fun _ _ z => by cases z
    exact po _ _ _ _ _ (.rfl R) (.inl r) (fun _ => r) (fun _ => Hx.rfl) w

/-! ### operators -/
/-- two operands, one operation -/
theorem tD2 {p a b : Ex} {wo : D → D → (D → Prop) → Prop} {ra : rdOk a b = true} (hp : p.isRd = false) (hs : p.simp = (a.simp && b.simp))
    (hw : ∀ env Q E, wE Γ p env Q E → wE Γ a env (fun x e1 => wE Γ b e1 (fun y e2 => wo x y fun z => Q z e2) E) E) :
    ∀ σ H Q, tD X.K B Γ p Ep σ H Q → tOp (r2D X.K wo) (tD X.K B Γ a Ep) (tD X.K B Γ b Ep) σ H Q := by
  rintro σ H Q ⟨G, env, fp, Qp, R, w, po⟩
  refine ⟨G, env, fp, _, R, hw _ _ _ w, ?_⟩
  intro d1 e1 v1 G1 H1 st1 t1 n1 s1 w1
  refine ⟨G1, e1, fp, _, st1.r, w1, ?_⟩
  intro d2 e2 v2 G2 H2 st2 t2 n2 s2 w2
  have g2 := st2.g
  have t1' : RepT X.K G2 H2 v1 d1 := by
    unfold rdOk at ra
    cases ha : a.isRd with
    | false => exact .inl ((n1 ha).mono g2)
    | true =>
      rw [ha] at ra
      exact t1.mono g2 (s2 (by simpa using ra))
  refine ⟨G2, d1, d2, _, st2.r.exG, t1', t2, w2, ?_⟩
  intro z v G3 H3 h1 h2 h3 h4 r q
  refine po z e2 v G3 H3 ((st1.trans st2).grow h1 h2 h3 h4) (.inl r) (fun _ => r) (fun hsp => ?_) q
  rw [hs, Bool.and_eq_true] at hsp
  exact ((s1 hsp.1).trans (s2 hsp.2)).trans h1
end
end Pl

namespace Pl
open PySem PySem.Spec L2
section
variable {Γ : Gam} {k : Nat} {N : List Str} {X : Cx} {B : Bs} {Ep : Xn → En → Prop} {sc : Scope}
theorem sE_bin {op : Operator} {a b : Ex} {l r : Expr} {pos : Pos} (ra : rdOk a b = true) (ha : PE X l (tD X.K B Γ a Ep)) (hb : PE X r (tD X.K B Γ b Ep)) : PE X (.BinOp l op r pos) (tD X.K B Γ (.bin op a b) Ep) :=
  wkE (pe_op (op_bin op) ha hb) (tD2 (p := .bin op a b) (ra := ra) rfl (by simp only [Ex.simp]) fun env Q E w => by simpa only [wE] using w)
theorem sE_cmp {op : CmpOp} {a b : Ex} {l r : Expr} {pos : Pos} (S : SX Γ k N X) (ra : rdOk a b = true) (hn : noSetE r = true) (ha : PE X l (tD X.K B Γ a Ep)) (hb : PE X r (tD X.K B Γ b Ep)) : PE X (.Compare l [op] [r] pos) (tD X.K B Γ (.cmp op a b) Ep) := by
  have hm : behindInMarks op r = false := by
    cases r <;> first | rfl | cases hn
  exact wkE (pe_cmpR (op_cmp (hu_rm S.rm) op) ha hb hm) (tD2 (p := .cmp op a b) (ra := ra) rfl (by simp only [Ex.simp]) fun env Q E w => by simpa only [wE, w2B] using w)
theorem sT_cmp {op : CmpOp} {a b : Ex} {l r : Expr} {pos : Pos} (S : SX Γ k N X) (ra : rdOk a b = true) (hn : noSetE r = true) (ha : PE X l (tD X.K B Γ a Ep)) (hb : PE X r (tD X.K B Γ b Ep)) : PT X (.Compare l [op] [r] pos) (tDT X.K B Γ (.cmp op a b) Ep) := by
  have hm : behindInMarks op r = false := by
    cases r <;> first | rfl | cases hn
  refine wkT (pt_cmpR (op_cmp (hu_rm S.rm) op) ha hb hm) fun σ H Q ⟨G, env, fp, Qp, R, w, po⟩ => ?_
  simp only [wT, wE] at w
  refine tD2 (B := B) (Γ := Γ) (Ep := Ep) (p := .cmp op a b) (wo := w2B (wCmp op)) (ra := ra) rfl (by simp only [Ex.simp]) (fun env Q E w => by simpa only [wE, w2B] using w) σ H _ ⟨G, env, fp, fun d e => ∃ t, d = .bl t ∧ Qp t e, R, ?_, ?_⟩
  · simp only [wE]
    simpa only [D.tru, Option.some.injEq, exists_eq_left', D.bl.injEq] using w
  · intro d e v G' H' st t n s ⟨b, e1, q⟩
    subst e1
    exact ⟨b, t.bl, po b e G' H' st s q⟩
/-- a value as a test -/
theorem tru_of {K : PySem.W.Frag} {G H : Hp} {v : V} {d : D} {t : Bool} (g : Hx G H) (r : RepT K G H v d) (e : d.tru = some t) : TruV K v H t := by
  rcases r with r | ⟨p, vs, ds, rfl, rfl, h, r⟩ | ⟨p, kvs, ks, ds, rfl, rfl, h, e', r⟩
  · cases r <;> simp only [D.tru, Option.some.injEq, reduceCtorEq] at e
    · exact e.symm
    · exact e.symm
    · exact e.symm
    · split at e
      · rename_i h; cases e; exact ⟨h, rfl⟩
      · cases e
    · rename_i vs ds h r
      subst e
      refine .inr (.inl ⟨vs, ex_t g h, ?_⟩)
      cases r <;> rfl
    · rename_i vs ds h r
      subst e
      refine .inl ⟨vs, .inl (.inl (g _ _ h)), ?_⟩
      cases r <;> rfl
    · rename_i kvs ks ds h hk r
      subst e
      subst hk
      refine .inr (.inr ⟨kvs, g _ _ h, ?_⟩)
      cases kvs <;> rfl
  · simp only [D.tru, Option.some.injEq] at e
    subst e
    refine .inl ⟨vs, .inl (.inl h), ?_⟩
    cases r <;> rfl
  · simp only [D.tru, Option.some.injEq] at e
    subst e
    subst e'
    refine .inr (.inr ⟨kvs, h, ?_⟩)
    cases kvs <;> rfl
theorem plain_isTrue {e : Expr} (h : plainT e = true) (env : PySem.Env) (whole : Sem Value) : isTrue e env whole = (do let v ← whole; standAt e.pos; holding [v] (truthy v)) := by
  cases e with
  | UnaryOp op x pos => cases op <;> first | rfl | cases h
  | BoolOp _ _ _ => cases h
  | IfExp _ _ _ _ => cases h
  | Compare _ _ _ _ => cases h
  | _ => rfl
theorem sT_val {p : Ex} {e : Expr} (hp : plainT e = true) (hw : ∀ env Q E, wT Γ p env Q E → wE Γ p env (fun x e1 => ∃ t, x.tru = some t ∧ Q t e1) E) (h : PE X e (tD X.K B Γ p Ep)) : PT X e (tDT X.K B Γ p Ep) := by
  refine wkT (pt_truth h (plain_isTrue hp X.env)) fun σ H Q ⟨G, env, fp, Qp, R, w, po⟩ => ?_
  refine ⟨G, env, fp, _, R, hw _ _ _ w, ?_⟩
  intro d e v G' H' st t n s ⟨b, e1, q⟩
  exact ⟨b, tru_of st.r.exG t e1, po b e G' H' st s q⟩
theorem sT_var {i : Nat} {x : Str} {pos : Pos} (S : SX Γ k N X) (es : X.env.scope = sc) (h : nameOk N sc i x = true) : PT X (.Name x pos) (tDT X.K B Γ (.var i) Ep) := by
  refine wkT (pt_truth (se_var S es h) (by intro _; rfl)) fun σ H Q ⟨G, env, fp, Qp, R, w, po⟩ => ?_
  simp only [wT] at w
  obtain ⟨v, d, h1, h2, t, h3, h4⟩ := R.rd w
  exact ⟨v, h1, t, tru_of R.exG h2 h3, po t _ _ _ (.rfl R) (fun _ => Hx.rfl) h4⟩
theorem sE_idx {a b : Ex} {l r : Expr} {pos : Pos} (ra : rdOk a b = true) (hn : noSlice r = true) (ha : PE X l (tD X.K B Γ a Ep)) (hb : PE X r (tD X.K B Γ b Ep)) : PE X (.Subscript l r pos) (tD X.K B Γ (.idx a b) Ep) := by
  have hs : PlainIx r := fun o i => by
    cases r <;> first | rfl | cases hn
  exact wkE (pe_ix ix_all ha hb hs) (tD2 (p := .idx a b) (ra := ra) rfl (by simp only [Ex.simp]) fun env Q E w => by simpa only [wE] using w)
theorem sE_neg {a : Ex} {l : Expr} {pos : Pos} (ra : a.isRd = false) (ha : PE X l (tD X.K B Γ a Ep)) : PE X (.UnaryOp .USub l pos) (tD X.K B Γ (.neg a) Ep) := by
  refine wkE (pe_un un_neg ha) fun σ H Q ⟨G, env, fp, Qp, R, w, po⟩ => ?_
  simp only [wE] at w
  refine ⟨G, env, fp, _, R, w, ?_⟩
  intro d e v G' H' st t n s ⟨i, e1, q⟩
  subst e1
  refine ⟨i, t.int, po _ e _ G' H' st (.inl (.int _)) (fun _ => .int _) (fun z => s (by simpa only [Ex.simp] using z)) q⟩
theorem sE_not {a : Ex} {l : Expr} {pos : Pos} (ha : PE X l (tD X.K B Γ a Ep)) : PE X (.UnaryOp .Not l pos) (tD X.K B Γ (.not a) Ep) := by
  refine wkE (pe_notT ha) fun σ H Q ⟨G, env, fp, Qp, R, w, po⟩ => ?_
  simp only [wE] at w
  refine ⟨G, env, fp, _, R, w, ?_⟩
  intro d e v G' H' st t n s ⟨i, e1, q⟩
  exact ⟨i, tru_of st.r.exG t e1, po _ e _ G' H' st (.inl (.bl _)) (fun _ => .bl _) (fun z => s (by simpa only [Ex.simp] using z)) q⟩
theorem sE_and {a b : Ex} {l m : Expr} {r : List Expr} {pos : Pos} (na : a.isRd = false) (nb : b.isRd = false) (ha : PE X l (tD X.K B Γ a Ep)) (hb : PE X (.BoolOp .And (m :: r) pos) (tD X.K B Γ b Ep)) : PE X (.BoolOp .And (l :: m :: r) pos) (tD X.K B Γ (.and a b) Ep) := by
  refine wkE (pe_andT ha hb) fun σ H Q ⟨G, env, fp, Qp, R, w, po⟩ => ?_
  simp only [wE] at w
  refine ⟨G, env, fp, _, R, w, ?_⟩
  intro d e v G' H' st t n s ⟨i, e1, q⟩
  refine ⟨i, tru_of st.r.exG t e1, ?_⟩
  cases i with
  | true =>
    rw [if_pos rfl] at q ⊢
    refine ⟨G', e, fp, _, st.r, q, ?_⟩
    intro d2 e2 v2 G2 H2 st2 t2 n2 s2 q2
    exact po d2 e2 v2 G2 H2 (st.trans st2) t2 (fun _ => n2 nb) (fun z => by simp only [Ex.simp, Bool.and_eq_true] at z; exact (s z.1).trans (s2 z.2)) q2
  | false =>
    rw [if_neg Bool.false_ne_true] at q ⊢
    exact po d e v G' H' st t (fun _ => n na) (fun z => by simp only [Ex.simp, Bool.and_eq_true] at z; exact s z.1) q
theorem sE_or {a b : Ex} {l m : Expr} {r : List Expr} {pos : Pos} (na : a.isRd = false) (nb : b.isRd = false) (ha : PE X l (tD X.K B Γ a Ep)) (hb : PE X (.BoolOp .Or (m :: r) pos) (tD X.K B Γ b Ep)) : PE X (.BoolOp .Or (l :: m :: r) pos) (tD X.K B Γ (.or a b) Ep) := by
  refine wkE (pe_orT ha hb) fun σ H Q ⟨G, env, fp, Qp, R, w, po⟩ => ?_
  simp only [wE] at w
  refine ⟨G, env, fp, _, R, w, ?_⟩
  intro d e v G' H' st t n s ⟨i, e1, q⟩
  refine ⟨i, tru_of st.r.exG t e1, ?_⟩
  cases i with
  | false =>
    rw [if_neg Bool.false_ne_true] at q ⊢
    refine ⟨G', e, fp, _, st.r, q, ?_⟩
    intro d2 e2 v2 G2 H2 st2 t2 n2 s2 q2
    exact po d2 e2 v2 G2 H2 (st.trans st2) t2 (fun _ => n2 nb) (fun z => by simp only [Ex.simp, Bool.and_eq_true] at z; exact (s z.1).trans (s2 z.2)) q2
  | true =>
    rw [if_pos rfl] at q ⊢
    exact po d e v G' H' st t (fun _ => n na) (fun z => by simp only [Ex.simp, Bool.and_eq_true] at z; exact s z.1) q
theorem sE_ite {c a b : Ex} {t l m : Expr} {pos : Pos} (na : a.isRd = false) (nb : b.isRd = false) (hc : PT X t (tDT X.K B Γ c Ep)) (ha : PE X l (tD X.K B Γ a Ep)) (hb : PE X m (tD X.K B Γ b Ep)) : PE X (.IfExp t l m pos) (tD X.K B Γ (.ite c a b) Ep) := by
  refine wkE (pe_ifExp hc ha hb) fun σ H Q ⟨G, env, fp, Qp, R, w, po⟩ => ?_
  simp only [wE] at w
  refine ⟨G, env, fp, _, R, w, ?_⟩
  intro i e G' H' st s q
  cases i with
  | true =>
    rw [if_pos rfl] at q ⊢
    refine ⟨G', e, fp, _, st.r, q, ?_⟩
    intro d2 e2 v2 G2 H2 st2 t2 n2 s2 q2
    exact po d2 e2 v2 G2 H2 (st.trans st2) t2 (fun _ => n2 na) (fun z => by simp only [Ex.simp, Bool.and_eq_true] at z; exact (s z.1.1).trans (s2 z.1.2)) q2
  | false =>
    rw [if_neg Bool.false_ne_true] at q ⊢
    refine ⟨G', e, fp, _, st.r, q, ?_⟩
    intro d2 e2 v2 G2 H2 st2 t2 n2 s2 q2
    exact po d2 e2 v2 G2 H2 (st.trans st2) t2 (fun _ => n2 nb) (fun z => by simp only [Ex.simp, Bool.and_eq_true] at z; exact (s z.1.1).trans (s2 z.2)) q2
/-! ### tests -/
theorem sT_not {a : Ex} {l : Expr} {pos : Pos} (ha : PT X l (tDT X.K B Γ a Ep)) : PT X (.UnaryOp .Not l pos) (tDT X.K B Γ (.not a) Ep) := by
  refine wkT (pt_not ha) fun σ H Q ⟨G, env, fp, Qp, R, w, po⟩ => ?_
  simp only [wT] at w
  exact ⟨G, env, fp, _, R, w, fun i e G' H' st s q => po _ e G' H' st (fun z => s (by simpa only [Ex.simp] using z)) q⟩
theorem sT_and {a b : Ex} {l m : Expr} {r : List Expr} {pos : Pos} (ha : PT X l (tDT X.K B Γ a Ep)) (hb : PW X (.BoolOp .And (m :: r) pos) (tDT X.K B Γ b Ep)) : PW X (.BoolOp .And (l :: m :: r) pos) (tDT X.K B Γ (.and a b) Ep) := by
  refine wkW (pw_and ha hb) fun σ H Q ⟨G, env, fp, Qp, R, w, po⟩ => ?_
  simp only [wT] at w
  refine ⟨G, env, fp, _, R, w, ?_⟩
  intro i e G' H' st s q
  cases i with
  | true =>
    rw [if_pos rfl] at q ⊢
    exact ⟨G', e, fp, _, st.r, q, fun i2 e2 G2 H2 st2 s2 q2 => po i2 e2 G2 H2 (st.trans st2) (fun z => by simp only [Ex.simp, Bool.and_eq_true] at z; exact (s z.1).trans (s2 z.2)) q2⟩
  | false =>
    rw [if_neg Bool.false_ne_true] at q ⊢
    exact po _ e G' H' st (fun z => by simp only [Ex.simp, Bool.and_eq_true] at z; exact s z.1) q
theorem sT_or {a b : Ex} {l m : Expr} {r : List Expr} {pos : Pos} (ha : PT X l (tDT X.K B Γ a Ep)) (hb : PW X (.BoolOp .Or (m :: r) pos) (tDT X.K B Γ b Ep)) : PW X (.BoolOp .Or (l :: m :: r) pos) (tDT X.K B Γ (.or a b) Ep) := by
  refine wkW (pw_or ha hb) fun σ H Q ⟨G, env, fp, Qp, R, w, po⟩ => ?_
  simp only [wT] at w
  refine ⟨G, env, fp, _, R, w, ?_⟩
  intro i e G' H' st s q
  cases i with
  | false =>
    rw [if_neg Bool.false_ne_true] at q ⊢
    exact ⟨G', e, fp, _, st.r, q, fun i2 e2 G2 H2 st2 s2 q2 => po i2 e2 G2 H2 (st.trans st2) (fun z => by simp only [Ex.simp, Bool.and_eq_true] at z; exact (s z.1).trans (s2 z.2)) q2⟩
  | true =>
    rw [if_pos rfl] at q ⊢
    exact po _ e G' H' st (fun z => by simp only [Ex.simp, Bool.and_eq_true] at z; exact s z.1) q
/-! ### chains -/
theorem lastM {o1 o2 : CmpOp} {y z : Expr} (hy : noSetE y = true) (hz : noSetE z = true) : lastMarks [o1, o2] [y, z] = false := by
  have h2 : behindInMarks o2 z = false := by cases z <;> first | rfl | cases hz
  simpa only [lastMarks] using h2
theorem tD3 {o1 o2 : CmpOp} {a b c : Ex} (rab : rdOk a b = true) (rbc : rdOk b c = true) : ∀ σ H Q, tD X.K B Γ (.chn o1 o2 a b c) Ep σ H Q →
    tChain (r2D X.K (w2B (wCmp o1))) (r2D X.K (w2B (wCmp o2))) (tD X.K B Γ a Ep) (tD X.K B Γ b Ep) (tD X.K B Γ c Ep) σ H Q := by
  rintro σ H Q ⟨G, env, fp, Qp, R, w, po⟩
  simp only [wE] at w
  refine ⟨G, env, fp, _, R, w, ?_⟩
  intro d1 e1 v1 G1 H1 st1 t1 n1 s1 w1
  refine ⟨G1, e1, fp, _, st1.r, w1, ?_⟩
  intro d2 e2 v2 G2 H2 st2 t2 n2 s2 w2
  have g2 := st2.g
  have t1' : RepT X.K G2 H2 v1 d1 := by
    unfold rdOk at rab
    cases ha : a.isRd with
    | false => exact .inl ((n1 ha).mono g2)
    | true => rw [ha] at rab; exact t1.mono g2 (s2 (by simpa using rab))
  refine ⟨G2, d1, d2, fun z => ∃ i, z = .bl i ∧ if i = true then wE Γ c e2 (fun w e3 => wCmp o2 d2 w fun z => Qp (.bl z) e3) Ep else Qp (.bl false) e2, st2.r.exG, t1', t2, ?_, ?_⟩
  · show wCmp o1 d1 d2 _
    simpa only [D.bl.injEq, exists_eq_left'] using w2
  intro z v G3 H3 h1 h2 h3 h4 r ⟨i, ez, q⟩
  subst ez
  refine ⟨i, RepT.bl (H := H3) (.inl r), ?_⟩
  have st3 := (st1.trans st2).grow h1 h2 h3 h4
  cases i with
  | false =>
    rw [if_neg Bool.false_ne_true] at q ⊢
    refine po _ e2 _ G3 H3 st3 (.inl (.bl _)) (fun _ => .bl _) (fun z => ?_) q
    simp only [Ex.simp, Bool.and_eq_true] at z
    exact ((s1 z.1.1).trans (s2 z.1.2)).trans h1
  | true =>
    rw [if_pos rfl] at q ⊢
    refine ⟨G3, e2, fp, _, st3.r, q, ?_⟩
    intro d4 e4 v4 G4 H4 st4 t4 n4 s4 w4
    have g4 := st4.g
    have t2' : RepT X.K G4 H4 v2 d2 := by
      unfold rdOk at rbc
      cases hb : b.isRd with
      | false => exact .inl ((n2 hb).mono (h2.trans g4))
      | true => rw [hb] at rbc; exact t2.mono (h2.trans g4) (h1.trans (s4 (by simpa using rbc)))
    refine ⟨G4, d2, d4, fun z => Qp z e4, st4.r.exG, t2', t4, w4, ?_⟩
    intro z v G5 H5 k1 k2 k3 k4 r q
    refine po _ e4 v G5 H5 ((st3.trans st4).grow k1 k2 k3 k4) (.inl r) (fun _ => r) (fun z => ?_) q
    simp only [Ex.simp, Bool.and_eq_true] at z
    exact ((((s1 z.1.1).trans (s2 z.1.2)).trans h1).trans (s4 z.2)).trans k1
theorem sE_chn {o1 o2 : CmpOp} {a b c : Ex} {l m r : Expr} {pos : Pos} (S : SX Γ k N X) (rab : rdOk a b = true) (rbc : rdOk b c = true) (hy : noSetE m = true) (hz : noSetE r = true)
    (ha : PE X l (tD X.K B Γ a Ep)) (hb : PE X m (tD X.K B Γ b Ep)) (hc : PE X r (tD X.K B Γ c Ep)) : PE X (.Compare l [o1, o2] [m, r] pos) (tD X.K B Γ (.chn o1 o2 a b c) Ep) :=
  wkE (pe_chain (op_cmp (hu_rm S.rm) o1) (op_cmp (hu_rm S.rm) o2) ha hb hc (lastM hy hz)) (tD3 rab rbc)
theorem tru_bl {Q : Bool → En → Prop} : (fun (x : D) (e : En) => ∃ t, x.tru = some t ∧ Q t e) = (fun x e => ∃ t, x.tru = some t ∧ Q t e) := rfl
theorem sT_chn {o1 o2 : CmpOp} {a b c : Ex} {l m r : Expr} {pos : Pos} (S : SX Γ k N X) (rab : rdOk a b = true) (rbc : rdOk b c = true) (hy : noSetE m = true) (hz : noSetE r = true)
    (ha : PE X l (tD X.K B Γ a Ep)) (hb : PE X m (tD X.K B Γ b Ep)) (hc : PE X r (tD X.K B Γ c Ep)) : PT X (.Compare l [o1, o2] [m, r] pos) (tDT X.K B Γ (.chn o1 o2 a b c) Ep) := by
  refine wkT (pt_chain (op_cmp (hu_rm S.rm) o1) (op_cmp (hu_rm S.rm) o2) ha hb hc (lastM hy hz)) fun σ H Q ⟨G, env, fp, Qp, R, w, po⟩ => ?_
  refine tD3 rab rbc σ H _ ⟨G, env, fp, fun d e => ∃ t, d = .bl t ∧ Qp t e, R, ?_, ?_⟩
  · simp only [wT, wE] at w ⊢
    simpa only [D.tru, Option.some.injEq, exists_eq_left', D.bl.injEq] using w
  · intro d e v G' H' st t n s ⟨b, e1, q⟩
    subst e1
    exact ⟨b, t.bl, po b e G' H' st s q⟩
end
end Pl

/-! Pl: displays, calls -/
namespace Pl
open PySem PySem.Spec L2
section
variable {Γ : Gam} {k : Nat} {N : List Str} {X : Cx} {B : Bs} {Ep : Xn → En → Prop} {sc : Scope}
theorem star_of {x : Expr} (h : noStar x = true) (es : List Expr) (env : PySem.Env) : starEach (x :: es) env = (false, eval x env) :: starEach es env := by
  cases x <;> first | rfl | cases h
theorem sA_nil : PA X [] (tDA X.K B Γ .nil Ep) := by
  refine wkA pa_nil fun σ H Q ⟨G, env, fp, Qp, R, w, po⟩ => ?_
  simp only [wA] at w
  exact po _ _ _ _ _ (.rfl R) .nil (fun _ => Hx.rfl) w
theorem sA_cons {e : Ex} {r : Exs} {x : Expr} {xs : List Expr} (nm : ∀ i, e ≠ .mu i) (nr : e.isRd = false) (hs : noStar x = true) (he : PE X x (tD X.K B Γ e Ep)) (hr : PA X xs (tDA X.K B Γ r Ep)) : PA X (x :: xs) (tDA X.K B Γ (.cons e r) Ep) := by
  refine wkA (pa_cons he hr (star_of hs _ _)) fun σ H Q ⟨G, env, fp, Qp, R, w, po⟩ => ?_
  have w' : wE Γ e env (fun x e1 => wA Γ r e1 (fun as e2 => Qp (.d x :: as) e2) Ep) Ep := by
    cases e <;> first | exact absurd rfl (nm _) | simpa only [wA] using w
  refine ⟨G, env, fp, _, R, w', ?_⟩
  intro d1 e1 v1 G1 H1 st1 t1 n1 s1 w1
  refine ⟨G1, e1, fp, _, st1.r, w1, ?_⟩
  intro as e2 vs G2 H2 st2 a2 s2 w2
  exact po _ e2 _ G2 H2 (st1.trans st2) (.d ((n1 nr).mono st2.g) a2) (fun z => by simp only [Exs.simp, Bool.and_eq_true] at z; exact (s1 z.1).trans (s2 z.2)) w2
theorem sA_mu {i : Nat} {r : Exs} {x : Str} {pos : Pos} {xs : List Expr} (S : SX Γ k N X) (es : X.env.scope = sc) (h : nameOk N sc i x = true) (hr : PA X xs (tDA X.K B Γ r Ep)) : PA X (.Name x pos :: xs) (tDA X.K B Γ (.cons (.mu i) r) Ep) := by
  refine wkA (pa_cons (se_var S es h) hr (star_of (x := .Name x pos) rfl _ _)) fun σ H Q ⟨G, env, fp, Qp, R, w, po⟩ => ?_
  simp only [wA] at w
  obtain ⟨m, o, e, w⟩ := w
  obtain ⟨p, h1, _⟩ := R.own i m o e
  refine ⟨_, h1, G, env, fp, _, R, w, ?_⟩
  intro as e2 vs G2 H2 st2 a2 s2 w2
  exact po _ e2 _ G2 H2 st2 (.i h1 a2) (fun z => by simp only [Exs.simp, Bool.and_eq_true] at z; exact s2 z.2) w2
/-- displays -/
theorem sE_tup {es : Exs} {xs : List Expr} {n : Nat} {pos : Pos} (h : PA X xs (tDA X.K B Γ es Ep)) : PE X (.Tuple xs n pos) (tD X.K B Γ (.tup es) Ep) := by
  refine wkE (pe_tup h) fun σ H Q ⟨G, env, fp, Qp, R, w, po⟩ => ?_
  simp only [wE] at w
  refine ⟨G, env, fp, _, R, w, ?_⟩
  intro as e2 vs G2 H2 st2 a2 s2 ⟨ds, e, hz, q⟩
  have r := a2.data e
  refine ⟨by rw [r.length]; exact hz, fun p hp => ?_⟩
  have hg := st2.r.gnone hp
  have rr : Rep X.K (upd G2 p (.tup vs)) (.ref p) (.tup ds) := .tup (.inl (.inl upd_same)) (r.mono (Hx.new hg))
  exact po _ e2 _ _ _ (st2.lay hp) (.inl rr) (fun _ => rr) (fun z => (s2 (by simpa only [Ex.simp] using z)).trans (Hx.new hp)) q
theorem sE_lst {es : Exs} {xs : List Expr} {pos : Pos} (h : PA X xs (tDA X.K B Γ es Ep)) : PE X (.List xs pos) (tD X.K B Γ (.lst es) Ep) := by
  refine wkE (pe_lst h) fun σ H Q ⟨G, env, fp, Qp, R, w, po⟩ => ?_
  simp only [wE] at w
  refine ⟨G, env, fp, _, R, w, ?_⟩
  intro as e2 vs G2 H2 st2 a2 s2 ⟨ds, e, hz, q⟩
  have r := a2.data e
  refine ⟨by rw [r.length]; exact hz, fun p hp => ?_⟩
  have hg := st2.r.gnone hp
  have rr : Rep X.K (upd G2 p (.lst vs)) (.ref p) (.lst ds) := .lst upd_same (r.mono (Hx.new hg))
  exact po _ e2 _ _ _ (st2.lay hp) (.inl rr) (fun _ => rr) (fun z => (s2 (by simpa only [Ex.simp] using z)).trans (Hx.new hp)) q
theorem sE_dct0 {pos : Pos} : PE X (.Dict [] [] pos) (tD X.K B Γ (.dct .nil .nil) Ep) := by
  refine wkE pe_dnewK fun σ H Q ⟨G, env, fp, Qp, R, w, po⟩ => ?_
  simp only [wE] at w
  intro d hd
  have hg := R.gnone hd
  have rr : Rep X.K (upd G d (.dK [])) (.ref d) (.dct [] []) := .dK upd_same rfl .nil
  exact po _ env _ _ _ ((Stp.rfl R).lay hd) (.inl rr) (fun _ => rr) (fun z => by simp only [Ex.simp] at z; cases z) w
theorem sE_bty {n : String} {pos : Pos} (S : SX Γ k N X) (es : X.env.scope = sc) (hn : n ∈ ["int", "bool", "str", "tuple", "list", "dict"]) (h : glOk sc (n : Str) = true) : PE X (.Name (n : Str) pos) (tD X.K B Γ (.bty n) Ep) := by
  obtain ⟨hg, hd⟩ := gl_of h es
  have hb : bootBuiltins (n : Str) = some (.type n) ∧ (n : Str) ∈ blts ∧ (n : Str) ≠ "__name__" := by
    simp only [List.mem_cons, List.not_mem_nil, or_false] at hn
    rcases hn with rfl | rfl | rfl | rfl | rfl | rfl <;> refine ⟨by decide +kernel, by simp [blts], by decide +kernel⟩
  refine wkE (pe_bltn (v := .ty n) hg (S.bt _ hb.2.1) hb.1 rfl hb.2.2 hd) fun σ H Q ⟨G, env, fp, Qp, R, w, po⟩ => ?_
  simp only [wE] at w
  exact po _ _ _ _ _ (.rfl R) (.inl (.ty n)) (fun _ => .ty n) (fun _ => Hx.rfl) w
/-! ### built-in functions -/
theorem nm_in1 (f : B1) : f.nm ∈ blts := by cases f <;> simp only [B1.nm, blts, List.mem_cons, true_or, or_true]
theorem nm_in2 (f : B2) : f.nm ∈ blts := by cases f <;> simp only [B2.nm, blts, List.mem_cons, true_or, or_true]
theorem callB {x : Str} {v : Value} {r : List V → Hp → VK → Prop} {p pos : Pos} {e : Expr} {es : List Expr} {t : TA} (hv : (∃ id, v = .builtin id) ∨ ∃ T, v = .type T) (hc : CallR X v r) (hg : Gl X x) (hm : X.mg x = none) (hb : bootBuiltins x = some v) (ha : PA X (e :: es) t)
    (hn : x ≠ "__name__") (hd : (x == ("__debug__" : Str)) = false) (he : starEach (e :: es) X.env = (false, eval e X.env) :: starEach es X.env) (hp : (PySem.backTo pos (starEach es X.env)).any (·.1) = false) : PE X (.Call (.Name x p) (e :: es) [] pos) (tCB r t) := by
  rcases hv with ⟨id, rfl⟩ | ⟨T, rfl⟩
  · exact pe_callB hc hg hm hb ha hn hd he hp
  · exact pe_callTy hc hg hm hb ha hn hd he hp
theorem sE_b1 {f : B1} {a : Ex} {y : Expr} {p pos : Pos} (S : SX Γ k N X) (es : X.env.scope = sc) (hg : glOk sc f.nm = true) (hs : noStar y = true) (ha : PE X y (tD X.K B Γ a Ep)) : PE X (.Call (.Name f.nm p) [y] [] pos) (tD X.K B Γ (.b1 f a) Ep) := by
  obtain ⟨h1, h2⟩ := gl_of hg es
  have hv : (∃ id, f.val = .builtin id) ∨ ∃ T, f.val = .type T := by cases f <;> first | exact .inl ⟨_, rfl⟩ | exact .inr ⟨_, rfl⟩
  have pa : PA X [y] (tCons (tD X.K B Γ a Ep) tNil) := pa_cons ha pa_nil (star_of hs _ _)
  refine wkE (callB hv (cr_b1 S.calm S.rm.gd (by have := hu_rm S.rm; omega) f) h1 (S.bt _ (nm_in1 f)) f.boot pa f.nn f.nd (star_of hs _ _) rfl) fun σ H Q ⟨G, env, fp, Qp, R, w, po⟩ => ?_
  simp only [wE] at w
  refine ⟨G, env, fp, _, R, w, ?_⟩
  intro d1 e1 v1 G1 H1 st1 t1 n1 s1 w1
  refine ⟨v1, G1, d1, _, rfl, st1.r.exG, t1, w1, ?_⟩
  intro z v G3 H3 h1 h2 h3 h4 r q
  exact po z e1 v G3 H3 (st1.grow h1 h2 h3 h4) (.inl r) (fun _ => r) (fun z => (s1 (by simpa only [Ex.simp] using z)).trans h1) q
theorem sE_b2 {f : B2} {a b : Ex} {y z : Expr} {p pos : Pos} (S : SX Γ k N X) (es : X.env.scope = sc) (hg : glOk sc f.nm = true) (hs : noStar y = true) (hs2 : noStar z = true) (ra : rdOk a b = true)
    (ha : PE X y (tD X.K B Γ a Ep)) (hb : PE X z (tD X.K B Γ b Ep)) : PE X (.Call (.Name f.nm p) [y, z] [] pos) (tD X.K B Γ (.b2 f a b) Ep) := by
  obtain ⟨h1, h2⟩ := gl_of hg es
  have hv : (∃ id, f.val = .builtin id) ∨ ∃ T, f.val = .type T := by cases f <;> first | exact .inl ⟨_, rfl⟩ | exact .inr ⟨_, rfl⟩
  have pa : PA X [y, z] (tCons (tD X.K B Γ a Ep) (tCons (tD X.K B Γ b Ep) tNil)) := pa_cons ha (pa_cons hb pa_nil (star_of hs2 _ _)) (star_of hs _ _)
  have hp : (PySem.backTo pos (starEach [z] X.env)).any (·.1) = false := by rw [star_of hs2]; rfl
  refine wkE (callB hv (cr_b2 S.calm f) h1 (S.bt _ (nm_in2 f)) f.boot pa f.nn f.nd (star_of hs _ _) hp) fun σ H Q ⟨G, env, fp, Qp, R, w, po⟩ => ?_
  simp only [wE] at w
  refine ⟨G, env, fp, _, R, w, ?_⟩
  intro d1 e1 v1 G1 H1 st1 t1 n1 s1 w1
  refine ⟨G1, e1, fp, _, st1.r, w1, ?_⟩
  intro d2 e2 v2 G2 H2 st2 t2 n2 s2 w2
  have t1' : RepT X.K G2 H2 v1 d1 := by
    unfold rdOk at ra
    cases ha : a.isRd with
    | false => exact .inl ((n1 ha).mono st2.g)
    | true => rw [ha] at ra; exact t1.mono st2.g (s2 (by simpa using ra))
  refine ⟨v1, v2, G2, d1, d2, _, rfl, st2.r.exG, t1', t2, w2, ?_⟩
  intro z v G3 H3 h1 h2 h3 h4 r q
  exact po z e2 v G3 H3 ((st1.trans st2).grow h1 h2 h3 h4) (.inl r) (fun _ => r) (fun z => by simp only [Ex.simp, Bool.and_eq_true] at z; exact ((s1 z.1).trans (s2 z.2)).trans h1) q
/-! ### methods of built-in types -/
theorem base_of {o : Expr} (h : plainB o = true) (m : Str) (env : PySem.Env) : attributeBase o m env (eval o env) = eval o env := by
  unfold attributeBase
  split
  · rename_i id p pos
    cases h
  · rfl
theorem join_r : MtR X "str.join" (fun x xs H Q => ∃ y G dx dy Qz, xs = [y] ∧ Hx G H ∧ RepT X.K G H x dx ∧ RepT X.K G H y dy ∧ wM1 .join dx dy Qz ∧ Fin X.K G H Qz Q) := by
  intro pins s σ H x xs v us Q I rx rxs h
  obtain ⟨y, G, dx, dy, Qz, rfl, g, r1, r2, w, f⟩ := h
  unfold wM1 at w
  split at w
  · obtain ⟨ys, e, hz, w⟩ := w
    obtain ⟨a, vs, rfl, h1, q1⟩ := r2.lst g
    have ev := q1.dStrs e
    subst ev
    exact mt_join pins s σ H _ _ v us Q I rx rxs ⟨_, _, ys, r1.str, rfl, .inl (.inl (.inl h1)), hz, f.flat g (.str _) w⟩
  · exact w.elim
theorem few_of {pos : Pos} {y : Expr} {env : PySem.Env} (hs : noStar y = true) : ((PySem.backTo pos (starEach [y] env)).all (fun x => !x.1) && (backToKw pos (keywordEach [] env)).all (fun x => x.1.isSome) &&
    decide (([y] : List Expr).length + ([] : List Keyword).length + (if ([] : List Keyword).isEmpty then 0 else 1) < 30)) = true := by
  rw [star_of hs]
  rfl
theorem sE_m1 {m : M1} {o a : Ex} {v y : Expr} {apos pos : Pos} (hs : noStar y = true) (hp : plainB v = true) (hl : oneLine apos pos = true) (ra : rdOk o a = true) (ho : PE X v (tD X.K B Γ o Ep)) (ha : PE X y (tD X.K B Γ a Ep)) :
    PE X (.Call (.Attribute v m.nm apos) [y] [] pos) (tD X.K B Γ (.m1 m o a) Ep) := by
  have pa : PA X [y] (tCons (tD X.K B Γ a Ep) tNil) := pa_cons ha pa_nil (star_of hs _ _)
  cases m with
  | join =>
    refine wkE (pe_bm PySem.F.plainAttrs_str PySem.F.slot_str_join PySem.F.type_str_join join_r ho pa (base_of hp _ _) (few_of hs) hl (star_of hs _ _) rfl) fun σ H Q ⟨G, env, fp, Qp, R, w, po⟩ => ?_
    simp only [wE] at w
    refine ⟨G, env, fp, _, R, w.2, ?_⟩
    intro d1 e1 v1 G1 H1 st1 t1 n1 s1 ⟨ez, w1⟩
    obtain ⟨z, ez⟩ : ∃ z, d1 = .str z := by cases d1 <;> first | exact ⟨_, rfl⟩ | cases ez
    subst ez
    refine ⟨by rw [t1.str]; rfl, G1, e1, fp, _, st1.r, w1, ?_⟩
    intro d2 e2 v2 G2 H2 st2 t2 n2 s2 w2
    refine ⟨v2, G2, _, d2, _, rfl, st2.r.exG, .inl (by rw [t1.str]; exact .str _), t2, w2, ?_⟩
    intro z v G3 H3 h1 h2 h3 h4 r q
    exact po z e2 v G3 H3 ((st1.trans st2).grow h1 h2 h3 h4) (.inl r) (fun _ => r) (fun z => by simp only [Ex.simp, Bool.and_eq_true] at z; exact ((s1 z.1).trans (s2 z.2)).trans h1) q
  | get => exact ⟨fun pins s σ H Q I ⟨G, env, fp, Qp, R, w, po⟩ => by simp only [wE] at w; exact absurd w.1 Bool.false_ne_true⟩
  | index => exact ⟨fun pins s σ H Q I ⟨G, env, fp, Qp, R, w, po⟩ => by simp only [wE] at w; exact absurd w.1 Bool.false_ne_true⟩
  | split => exact ⟨fun pins s σ H Q I ⟨G, env, fp, Qp, R, w, po⟩ => by simp only [wE] at w; exact absurd w.1 Bool.false_ne_true⟩
  | startswith => exact ⟨fun pins s σ H Q I ⟨G, env, fp, Qp, R, w, po⟩ => by simp only [wE] at w; exact absurd w.1 Bool.false_ne_true⟩

/-! ### x.pop() -/
theorem set_own {env : En} {i : Nat} {m : Bool} {o o' : O} (h : env[i]? = some (Sl.own m o)) : ∀ (j : Nat) (n : Bool) (u : O), (env.set i (.own m o'))[j]? = some (Sl.own n u) → ∃ u', env[j]? = some (Sl.own n u') := fun j n u e => by
  by_cases z : i = j
  · subst z
    obtain ⟨z, _⟩ := get_set_eq e
    cases z
    exact ⟨_, h⟩
  · rw [get_set_ne z] at e
    exact ⟨u, e⟩
theorem sE_pop0 {i : Nat} {x : Str} {p apos pos : Pos} (S : SX Γ k N X) (es : X.env.scope = sc) (h : nameOk N sc i x = true) (hl : oneLine apos pos = true) :
    PE X (.Call (.Attribute (.Name x p) ("pop" : Str) apos) [] [] pos) (tD X.K B Γ (.pop i .abs) Ep) := by
  refine wkE (pe_bm0 PySem.F.plainAttrs_list PySem.F.slot_list_pop PySem.F.type_list_pop mt_pop (se_var S es h) (base_of (o := .Name x p) rfl _ _) hl) fun σ H Q ⟨G, env, fp, Qp, R, w, po⟩ => ?_
  simp only [wE] at w
  unfold wPop at w
  split at w
  · rename_i m ds e _
    obtain ⟨d, hd, q⟩ := w
    obtain ⟨q0, h1, h2⟩ := R.own i m _ e
    obtain ⟨ef, vs, h3, h4⟩ := h2
    have hv : vs.length = ds.length := h4.length
    obtain ⟨v, e1, r1⟩ := h4.get hd
    refine ⟨_, h1, .inl ⟨rfl, vs, .inl (.inl h3)⟩, q0, vs, v, rfl, rfl, h3, by rw [hv]; exact e1, ?_⟩
    have R' := R.change (H' := upd H q0 (.lst vs.dropLast)) (o' := .lst ds.dropLast) e h1 (fun a ha => upd_ne (fun z => ha (by rw [ef]; simp [z]))) (by
      refine ⟨ef, _, upd_same, ?_⟩
      rw [List.dropLast_eq_take, List.dropLast_eq_take, hv]
      exact h4.take _)
    exact po d _ v G _ ⟨R', Hx.rfl, set_own e⟩ (.inl r1) (fun _ => r1) (fun z => by simp only [Ex.simp] at z; cases z) q
  · rename_i hh
    cases hh
  · exact w.elim
theorem sE_pop1 {i : Nat} {a : Ex} {x : Str} {y : Expr} {p apos pos : Pos} (S : SX Γ k N X) (es : X.env.scope = sc) (h : nameOk N sc i x = true) (hl : oneLine apos pos = true) (hs : noStar y = true) (nr : a.isRd = false) (na : a ≠ .abs)
    (own : ∀ env Q, wE Γ a env Q Ep → True) (ha : PE X y (tD X.K B Γ a Ep)) :
    PE X (.Call (.Attribute (.Name x p) ("pop" : Str) apos) [y] [] pos) (tD X.K B Γ (.pop i a) Ep) := by
  have pa : PA X [y] (tCons (tD X.K B Γ a Ep) tNil) := pa_cons ha pa_nil (star_of hs _ _)
  refine wkE (pe_bm PySem.F.plainAttrs_list PySem.F.slot_list_pop PySem.F.type_list_pop mt_popAt (se_var S es h) pa (base_of (o := .Name x p) rfl _ _) (few_of hs) hl (star_of hs _ _) rfl) fun σ H Q ⟨G, env, fp, Qp, R, w, po⟩ => ?_
  have w' : (∃ m ds, env[i]? = some (Sl.own m (.lst ds))) ∧ wE Γ a env (fun x e1 => wPop i (some x) e1 Qp) Ep := by
    cases a <;> first | exact absurd rfl na | simpa only [wE] using w
  obtain ⟨⟨m0, ds0, e0⟩, w'⟩ := w'
  obtain ⟨q0, h1, _, vs0, h30, _⟩ := R.own i m0 _ e0
  refine ⟨_, h1, .inl ⟨rfl, vs0, .inl (.inl h30)⟩, G, env, fp, _, R, w', ?_⟩
  intro d1 e1 v1 G1 H1 st1 t1 n1 s1 w1
  show ∃ l xs i k y, _
  unfold wPop at w1
  split at w1
  · rename_i hh; cases hh
  · rename_i m ds j e hh
    cases hh
    obtain ⟨kk, d, b1, b2, sq, hd, q⟩ := w1
    obtain ⟨q1, h2, h3⟩ := st1.r.own i m _ e
    have eq1 : q1 = q0 := by rw [h1] at h2; cases h2; rfl
    subst eq1
    obtain ⟨ef, vs, h3, h4⟩ := h3
    have hv : vs.length = ds.length := h4.length
    obtain ⟨v, ev, rv⟩ := h4.get hd
    refine ⟨q1, vs, j, kk, v, rfl, by rw [t1.int], h3, b1, b2, by rw [hv]; exact sq, ev, ?_⟩
    have R' := st1.r.change (H' := upd H1 q1 (.lst (vs.eraseIdx kk))) (o' := .lst (ds.eraseIdx kk)) e h2 (fun a ha => upd_ne (fun z => ha (by rw [ef]; simp [z]))) ⟨ef, _, upd_same, h4.eraseIdx _⟩
    exact po d _ v G1 _ (st1.trans ⟨R', Hx.rfl, set_own e⟩) (.inl rv) (fun _ => rv) (fun z => by simp only [Ex.simp] at z; cases z) q
  · exact w1.elim
end
end Pl

/-! Pl: a call of a def: what is lent and what comes back -/
namespace Pl
open PySem PySem.Spec L2
def fps (fp : Nat → List Addr) : List AP → List (List Addr)
  | [] => []
  | .d _ :: r => [] :: fps fp r
  | .i i :: r => fp i :: fps fp r
section
variable {K : PySem.W.Frag} {B : Bs} {G H G' H' : Hp} {σ : L2.St} {env e : En} {fp : Nat → List Addr}
theorem fps_mem : ∀ {as : List AP} {l : List Addr}, l ∈ fps fp as → l = [] ∨ ∃ i ∈ mus as, l = fp i
  | [], _, h => by cases h
  | .d _ :: r, l, h => by
    rcases List.mem_cons.mp h with h | h
    · exact .inl h
    · exact fps_mem (as := r) h
  | .i j :: r, l, h => by
    rcases List.mem_cons.mp h with h | h
    · exact .inr ⟨j, List.mem_cons_self, h⟩
    · rcases fps_mem (as := r) h with h | ⟨i, h1, h2⟩
      · exact .inl h
      · exact .inr ⟨i, List.mem_cons_of_mem _ h1, h2⟩
theorem rd_own : ∀ {as : List AP} {avs : List AV} {i : Nat}, rdAs env as = some avs → i ∈ mus as → ∃ m o, env[i]? = some (Sl.own m o)
  | [], _, _, _, h => by cases h
  | .d d :: r, avs, i, e, h => by
    simp only [rdAs, rdA] at e
    split at e
    · rename_i x xs h1 h2
      exact rd_own (as := r) h2 h
    · cases e
  | .i j :: r, avs, i, e, h => by
    simp only [rdAs] at e
    split at e
    · rename_i x xs h1 h2
      rcases List.mem_cons.mp h with h | h
      · subst h
        simp only [rdA] at h1
        split at h1
        · rename_i m o eo; exact ⟨m, o, eo⟩
        · cases h1
      · exact rd_own (as := r) h2 h
    · cases e
theorem args_of (R : ER K B G H σ env fp) : ∀ {vs : List V} {as : List AP} {avs : List AV}, APs K G σ vs as → rdAs env as = some avs → (mus as).Nodup → ArgsR K G H vs avs (fps fp as)
  | _, _, _, .nil, e, _ => by simp [rdAs] at e; subst e; exact .nil
  | _, _, avs, .d (as := as) a b, e, n => by
    simp only [rdAs, rdA] at e
    split at e
    · rename_i x xs h1 h2
      cases h1
      cases e
      exact .val a (args_of R b h2 n)
    · cases e
  | _, _, avs, .i (i := i) (as := as) a b, e, n => by
    simp only [rdAs] at e
    split at e
    · rename_i x xs h1 h2
      cases e
      simp only [rdA] at h1
      split at h1
      · rename_i m o eo
        cases h1
        obtain ⟨p, h3, h4⟩ := R.own i m o eo
        rw [a] at h3
        cases h3
        have n' : i ∉ mus as ∧ (mus as).Nodup := by simpa only [mus, List.nodup_cons] using n
        refine .own h4 (fun b hb => (R.sep i m o eo b hb).1) (fun b hb l' hl hm => ?_) (args_of R b h2 n'.2)
        rcases fps_mem hl with z | ⟨j, hj, z⟩
        · subst z; cases hm
        · subst z
          obtain ⟨m', o', eo'⟩ := rd_own h2 hj
          exact R.dis i j m o m' o' eo eo' (fun z => n'.1 (z ▸ hj)) b hb hm
      · cases h1
    · cases e
theorem puts_spec : ∀ {is : List Nat} {os : List O} {env e : En}, puts env is os = some e → is.Nodup → e.length = env.length ∧ (∀ j : Nat, j ∉ is → e[j]? = env[j]?) ∧
    (∀ (n i : Nat) (o : O), is[n]? = some i → os[n]? = some o → ∃ m u, env[i]? = some (Sl.own m u) ∧ e[i]? = some (Sl.own m o)) ∧ is.length = os.length
  | [], [], env, e, h, _ => by
    simp only [puts, Option.some.injEq] at h
    subst h
    exact ⟨rfl, fun _ _ => rfl, fun n i o z => by simp at z, rfl⟩
  | i :: is, o :: os, env, e, h, nd => by
    simp only [puts] at h
    split at h
    · rename_i m u eo
      have nd' := List.nodup_cons.mp nd
      obtain ⟨h1, h2, h3, h4⟩ := puts_spec (is := is) h nd'.2
      refine ⟨by rw [h1, List.length_set], fun j hj => ?_, fun n j o' hn ho => ?_, by simp [h4]⟩
      · have hj' : j ≠ i ∧ j ∉ is := ⟨fun z => hj (z ▸ List.mem_cons_self), fun z => hj (List.mem_cons_of_mem _ z)⟩
        rw [h2 j hj'.2, get_set_ne (Ne.symm hj'.1)]
      · cases n with
        | zero =>
          simp at hn ho
          subst hn ho
          refine ⟨m, u, eo, ?_⟩
          rw [h2 i nd'.1]
          exact List.getElem?_set_self (List.getElem?_eq_some_iff.mp eo).1
        | succ n =>
          obtain ⟨m', u', e1, e2⟩ := h3 n j o' (by simpa using hn) (by simpa using ho)
          have hne : i ≠ j := fun z => nd'.1 (z ▸ List.mem_of_getElem? (by simpa using hn))
          rw [get_set_ne hne] at e1
          exact ⟨m', u', e1, e2⟩
    · cases h
  | [], o :: os, env, e, h, _ => by simp [puts] at h
  | i :: is, [], env, e, h, _ => by simp [puts] at h
theorem puts_own {is : List Nat} {os : List O} {env e : En} (h : puts env is os = some e) (nd : is.Nodup) : ∀ (i : Nat) (m : Bool) (u : O), e[i]? = some (Sl.own m u) → ∃ u', env[i]? = some (Sl.own m u') := fun i m u he => by
  obtain ⟨h1, h2, h3, h4⟩ := puts_spec h nd
  by_cases hi : i ∈ is
  · obtain ⟨n, hn⟩ := List.getElem?_of_mem hi
    have : n < os.length := by rw [← h4]; exact (List.getElem?_eq_some_iff.mp hn).1
    obtain ⟨m', u', e1, e2⟩ := h3 n i os[n] hn (by simp [this])
    rw [he] at e2
    cases e2
    exact ⟨u', e1⟩
  · rw [h2 i hi] at he
    exact ⟨u, he⟩
theorem back_spec : ∀ {vs : List V} {as : List AP} {avs : List AV} {os : List O}, APs K G σ vs as → BackR K G' H' vs avs (fps fp as) os → rdAs env as = some avs → ∀ (n i : Nat) (o : O), (mus as)[n]? = some i → os[n]? = some o →
    ∃ p, σ[i]? = some (some (.ref p)) ∧ ORep K G' H' p (fp i) o ∧ ∀ a ∈ fp i, G' a = none
  | _, _, _, _, .nil, .nil, _ => fun n i o z => by simp [mus] at z
  | _, _, avs, os, .d (as := as) a b, bk, e => fun n i o hn ho => by
    simp only [rdAs, rdA] at e
    split at e
    · rename_i x xs h1 h2
      cases h1
      cases e
      simp only [fps] at bk
      cases bk with
      | val bk => exact back_spec b bk h2 n i o (by simpa only [mus] using hn) ho
    · cases e
  | _, _, avs, os, .i (i := j) (as := as) a b, bk, e => fun n i o hn ho => by
    simp only [rdAs] at e
    split at e
    · rename_i x xs h1 h2
      cases e
      simp only [rdA] at h1
      split at h1
      · cases h1
        simp only [fps] at bk
        cases bk with
        | own q1 q2 bk =>
          simp only [mus] at hn
          cases n with
          | zero =>
            simp at hn ho
            subst hn ho
            exact ⟨_, a, q1, q2⟩
          | succ n => exact back_spec b bk h2 n i o (by simpa using hn) (by simpa using ho)
      · cases h1
    · cases e
/-- what nobody owns any more is fixed -/
theorem ER.fixO (R : ER K B G H σ env fp) {p : Addr} {l : List Addr} {o : O} (h : ORep K G H p l o) (g : ∀ a ∈ l, G a = none) (b : ∀ a ∈ l, B.H0 a = none)
    (nd : ∀ (j : Nat) (m : Bool) (u : O), env[j]? = some (Sl.own m u) → ∀ a ∈ l, a ∉ fp j) : ER K B (frz G H l) H σ env fp ∧ Rep K (frz G H l) (.ref p) o.toD ∧ Hx G (frz G H l) := by
  have eG : Hx G (frz G H l) := frz_ex g
  refine ⟨⟨R.exB, R.dom, frz_le R.exG, R.g0.trans eG, fun a u e => ?_, R.len, fun i d e => ?_, fun i m u e => ?_, fun i m u e a ha => ?_, R.loc, R.dis, R.pin⟩, h.toRep g, eG⟩
  · by_cases ha : a ∈ l
    · exact .inr (b a ha)
    · unfold frz at e; rw [if_neg ha] at e; exact R.new a u e
  · obtain ⟨v, h1, h2⟩ := R.val i d e
    exact ⟨v, h1, h2.mono eG⟩
  · obtain ⟨q, h1, h2⟩ := R.own i m u e
    exact ⟨q, h1, h2.mono eG fun _ _ _ z => z⟩
  · have z : a ∉ l := fun z => nd i m u e a z ha
    unfold frz
    rw [if_neg z]
    exact R.sep i m u e a ha
/-- behind a call -/
theorem ER.after (R : ER K B G H σ env fp) {vs : List V} {as : List AP} {avs : List AV} {os : List O} (ap : APs K G σ vs as) (rd : rdAs env as = some avs) (nd : (mus as).Nodup) (A : Aft K G H vs avs (fps fp as) G' H' os)
    (pt : puts env (mus as) os = some e) : ER K B G' H' σ e fp := by
  obtain ⟨p1, p2, p3, p4⟩ := puts_spec pt nd
  have bs := back_spec ap A.bk rd
  -- what is lent, from either side
  have at_ : ∀ j : Nat, j ∈ mus as → ∃ m u o, env[j]? = some (Sl.own m u) ∧ e[j]? = some (Sl.own m o) ∧ ∃ p, σ[j]? = some (some (.ref p)) ∧ ORep K G' H' p (fp j) o ∧ ∀ a ∈ fp j, G' a = none := by
    intro j hj
    obtain ⟨n, hn⟩ := List.getElem?_of_mem hj
    obtain ⟨o, ho⟩ : ∃ o, os[n]? = some o := by
      have : n < os.length := by rw [← p4]; exact (List.getElem?_eq_some_iff.mp hn).1
      exact ⟨os[n], by simp [this]⟩
    obtain ⟨m, u, e1, e2⟩ := p3 n j o hn ho
    exact ⟨m, u, o, e1, e2, bs n j o hn ho⟩
  have frO : ∀ (j : Nat) (m : Bool) (u : O), env[j]? = some (Sl.own m u) → j ∉ mus as → ∀ a ∈ fp j, ∀ l ∈ fps fp as, a ∉ l := by
    intro j m u hj hn a ha l hl hm
    rcases fps_mem hl with z | ⟨i, hi, z⟩
    · subst z; cases hm
    · subst z
      obtain ⟨m', o', eo'⟩ := rd_own rd hi
      exact R.dis j i m u m' o' hj eo' (fun z => hn (z ▸ hi)) a ha hm
  have notIn : ∀ a, G a ≠ none ∨ (∃ o, B.H0 a = some o ∧ a ∉ B.mu) → ∀ l ∈ fps fp as, a ∉ l := by
    intro a h l hl hm
    rcases fps_mem hl with z | ⟨i, hi, z⟩
    · subst z; cases hm
    · subst z
      obtain ⟨m', o', eo'⟩ := rd_own rd hi
      obtain ⟨s1, s2⟩ := R.sep i m' o' eo' a hm
      rcases h with h | ⟨o, h, h'⟩
      · exact h s1
      · rcases s2 with s2 | s2
        · rw [s2] at h; cases h
        · exact h' s2
  refine ⟨fun a o h hm => A.fr a o (R.exB a o h hm) (notIn a (.inr ⟨o, h, hm⟩)), fun a o h => ?_, A.gh, R.g0.trans A.gg, fun a o h => ?_, by rw [p1]; exact R.len, fun j d h => ?_, fun j m o h => ?_, fun j m o h a ha => ?_, fun j o h a ha => ?_,
    fun j k' m o m' o' h1 h2 ne => ?_, fun j o h => ?_⟩
  · obtain ⟨o', h'⟩ := R.dom a o h
    exact A.dom a o' h'
  · rcases A.nw a o h with z | z
    · exact R.new a o z
    · exact .inr (R.new0 z)
  · by_cases hj : j ∈ mus as
    · obtain ⟨m, u, o, e1, e2, _⟩ := at_ j hj
      rw [e2] at h; cases h
    · rw [p2 j hj] at h
      obtain ⟨v, h1, h2⟩ := R.val j d h
      exact ⟨v, h1, h2.mono A.gg⟩
  · by_cases hj : j ∈ mus as
    · obtain ⟨m', u, o', e1, e2, p, q1, q2, q3⟩ := at_ j hj
      rw [e2] at h; cases h
      exact ⟨p, q1, q2⟩
    · rw [p2 j hj] at h
      obtain ⟨p, h1, h2⟩ := R.own j m o h
      exact ⟨p, h1, h2.mono A.gg fun a u ha e => A.fr a u e (frO j m o h hj a ha)⟩
  · by_cases hj : j ∈ mus as
    · obtain ⟨m', u, o', e1, e2, p, q1, q2, q3⟩ := at_ j hj
      exact ⟨q3 a ha, (R.sep j m' u e1 a ha).2⟩
    · rw [p2 j hj] at h
      obtain ⟨s1, s2⟩ := R.sep j m o h a ha
      refine ⟨?_, s2⟩
      cases q : G' a with
      | none => rfl
      | some w =>
        obtain ⟨p, _, h2⟩ := R.own j m o h
        obtain ⟨w', hw⟩ := h2.there a ha
        rcases A.nw a w q with z | z
        · rw [s1] at z; cases z
        · rw [hw] at z; cases z
  · by_cases hj : j ∈ mus as
    · obtain ⟨m', u, o', e1, e2, p, q1, q2, q3⟩ := at_ j hj
      rw [e2] at h; cases h
      exact R.loc j u e1 a ha
    · rw [p2 j hj] at h
      exact R.loc j o h a ha
  · have old : ∀ (j : Nat) (m : Bool) (o : O), e[j]? = some (Sl.own m o) → ∃ m u, env[j]? = some (Sl.own m u) := fun j m o h => by
      by_cases hj : j ∈ mus as
      · obtain ⟨m', u, o', e1, _⟩ := at_ j hj
        exact ⟨m', u, e1⟩
      · rw [p2 j hj] at h
        exact ⟨m, o, h⟩
    obtain ⟨m1, u1, z1⟩ := old j m o h1
    obtain ⟨m2, u2, z2⟩ := old k' m' o' h2
    exact R.dis j k' m1 u1 m2 u2 z1 z2 ne
  · obtain ⟨u', hu⟩ := puts_own pt nd j false o h
    exact R.pin j u' hu
end
section
variable {Γ : Gam} {k : Nat} {N : List Str} {X : Cx} {B : Bs} {Ep : Xn → En → Prop} {sc : Scope}
theorem anyF {xs : List Expr} {pos : Pos} {env : PySem.Env} (h : ∀ x ∈ xs, noStar x = true) : (PySem.backTo pos (starEach xs env)).any (·.1) = false := by
  induction xs with
  | nil => rfl
  | cons x xs ih =>
    rw [star_of (h x List.mem_cons_self)]
    have := ih fun y hy => h y (List.mem_cons_of_mem _ hy)
    unfold PySem.backTo at this ⊢
    simpa using this
theorem ckA_star {N : List Str} {sc : Scope} : ∀ {es : Exs} {xs : List Expr}, ckA N sc es xs = true → ∀ x ∈ xs, noStar x = true
  | .nil, [], _ => fun x h => by cases h
  | .nil, _ :: _, h => by simp [ckA] at h
  | .cons e r, [], h => by simp [ckA] at h
  | .cons e r, y :: xs, h => fun x hx => by
    simp only [ckA, Bool.and_eq_true] at h
    rcases List.mem_cons.mp hx with z | z
    · rw [z]; exact h.1.1
    · exact ckA_star h.2 x z
theorem call_post {f : String} {es : Exs} {σ : L2.St} {H : Hp} {Q : VK} {G : Hp} {Qp : D → En → Prop} {c : Ctr} (hc : Γ.fn f = some c)
    {env : En} {fp : Nat → List Addr} (po : Po X.K B (.call f es) fp G H σ env Q Qp) {as : List AP} {e2 : En} {vs : List V} {G2 H2 : Hp} (st : Stp X.K B fp σ G H env G2 H2 e2) (a2 : APs X.K G2 σ vs as)
    (w2 : wCall c as e2 Qp Ep) : lift X.K c vs H2 Q (WE (WXn X.K B Ep) σ) := by
  obtain ⟨nd, avs, rd, w⟩ := w2
  refine ⟨G2, avs, fps fp as, _, _, st.r.exG, args_of st.r a2 rd nd, w, ?_, ?_, ?_⟩
  · intro d os v G' H' A r ⟨e, pt, q⟩
    exact po d e v G' H' ⟨st.r.after a2 rd nd A pt, st.g.trans A.gg, fun i m u h => by
      obtain ⟨u1, h1⟩ := puts_own pt nd i m u h
      exact st.o i m u1 h1⟩ (.inl r) (fun _ => r) (fun z => by simp only [Ex.simp] at z; cases z) q
  · intro o os p l G' H' A r hl ⟨e, pt, q⟩
    have R' := st.r.after a2 rd nd A pt
    obtain ⟨R3, rr, eg⟩ := R'.fixO r (fun a ha => (hl a ha).1) (fun a ha => st.r.new0 (hl a ha).2) fun j m u h a ha hm => by
      obtain ⟨u1, h1⟩ := puts_own pt nd j m u h
      obtain ⟨p', _, h2⟩ := st.r.own j m u1 h1
      obtain ⟨w', hw⟩ := h2.there a hm
      rw [(hl a ha).2] at hw
      cases hw
    exact po _ e _ _ H' ⟨R3, (st.g.trans A.gg).trans eg, fun i m u h => by
      obtain ⟨u1, h1⟩ := puts_own pt nd i m u h
      exact st.o i m u1 h1⟩ (.inl rr) (fun _ => rr) (fun z => by simp only [Ex.simp] at z; cases z) q
  · intro x os cls dd G' H' A xr ⟨e, pt, q⟩
    exact ⟨G', e, fp, x, st.r.after a2 rd nd A pt, xr, q⟩
theorem sE_call {f : String} {es : Exs} {p pos : Pos} {xs : List Expr} (S : SX Γ k N X) (esc : X.env.scope = sc) (tk : Takes X (WXn X.K B Ep)) (hg : glOk sc (f : Str) = true) (hst : ∀ x ∈ xs, noStar x = true) (hnil : xs = [] → es = .nil) (ha : PA X xs (tDA X.K B Γ es Ep)) :
    PE X (.Call (.Name (f : Str) p) xs [] pos) (tD X.K B Γ (.call f es) Ep) := by
  obtain ⟨h1, h2⟩ := gl_of hg esc
  cases hc : Γ.fn f with
  | none =>
    refine ⟨fun pins s σ H Q I ⟨G, env, fp, Qp, R, w, po⟩ => ?_⟩
    simp only [wE, hc, reduceCtorEq, false_and, exists_false] at w
  | some c =>
    obtain ⟨fa, fd, ps, j, hj, m1, m2, m3, m4⟩ := S.fn f c hc
    cases xs with
    | nil =>
      have he := hnil rfl
      subst he
      refine wkE (pe_callG0 (E := WE (WXn X.K B Ep)) m4 (S.rm.mono hj) h1 m1 m2 m3 (passAt tk) h2) fun σ H Q ⟨G, env, fp, Qp, R, w, po⟩ => ?_
      simp only [wE, wA, hc, Option.some.injEq, exists_eq_left'] at w
      exact call_post hc po (.rfl R) .nil w
    | cons x xs =>
      refine wkE (pe_callG (E := WE (WXn X.K B Ep)) m4 (S.rm.mono hj) h1 m1 m2 m3 (passAt tk) ha h2 (star_of (hst x List.mem_cons_self) _ _) (anyF fun y hy => hst y (List.mem_cons_of_mem _ hy))) fun σ H Q ⟨G, env, fp, Qp, R, w, po⟩ => ?_
      simp only [wE, hc, Option.some.injEq, exists_eq_left'] at w
      refine ⟨G, env, fp, _, R, w, ?_⟩
      intro as e2 vs G2 H2 st2 a2 s2 w2
      exact call_post hc po st2 a2 w2
end
end Pl

/-! Pl: what is walked; comprehensions -/
namespace Pl
open PySem PySem.Spec L2
/-- J yields the data xs, one by one, as long as G stands -/
def Wk (K : PySem.W.Frag) (G : Hp) (J : It) (xs : List D) : Prop := ∀ H, Hx G H → ∀ i : Nat,
  (∀ d, xs[i]? = some d → J.go i H ∧ ∀ v H', J.yld i H v H' → Hx H H' ∧ ∀ G1, Hx G G1 → Hx G1 H → ∃ G2, Hx G1 G2 ∧ Hx G2 H' ∧ (∀ a o, G2 a = some o → G1 a = some o ∨ H a = none) ∧ Rep K G2 v d) ∧ (xs.length ≤ i → J.stop i H)
section
variable {K : PySem.W.Frag} {G : Hp}
theorem wk_list {a : Addr} {vs : List V} {ds : List D} (h : G a = some (.lst vs)) (r : Reps K G vs ds) : Wk K G (Itl K a) ds := by
  intro H g i
  have hl : SqL K H a vs := .inl (.inl (g _ _ h))
  refine ⟨fun d e => ?_, fun e => ⟨vs, hl, by rw [r.length]; exact e⟩⟩
  obtain ⟨v, e1, e2⟩ := r.get e
  refine ⟨⟨vs, v, hl, e1⟩, ?_⟩
  rintro v' H' ⟨rfl, hy⟩
  have := hy vs hl
  rw [e1] at this
  cases this
  exact ⟨Hx.rfl, fun G1 h1 h2 => ⟨G1, Hx.rfl, h2, fun _ _ z => .inl z, e2.mono h1⟩⟩
theorem wk_tup {a : Addr} {vs : List V} {ds : List D} (h : SqT K G a vs) (r : Reps K G vs ds) : Wk K G (Itt K a) ds := by
  intro H g i
  have hl : SqT K H a vs := ex_t g h
  refine ⟨fun d e => ?_, fun e => ⟨vs, hl, by rw [r.length]; exact e⟩⟩
  obtain ⟨v, e1, e2⟩ := r.get e
  refine ⟨⟨vs, v, hl, e1⟩, ?_⟩
  rintro v' H' ⟨rfl, hy⟩
  have := hy vs hl
  rw [e1] at this
  cases this
  exact ⟨Hx.rfl, fun G1 h1 h2 => ⟨G1, Hx.rfl, h2, fun _ _ z => .inl z, e2.mono h1⟩⟩
theorem wk_str {z : Str} : Wk K G (Its z) (z.cps.toList.map fun c => .str ⟨#[c]⟩) := by
  intro H g i
  refine ⟨fun d e => ?_, fun e => by show z.cps.size ≤ i; simpa using e⟩
  rw [List.getElem?_map] at e
  cases e1 : z.cps.toList[i]? with
  | none => rw [e1] at e; cases e
  | some c =>
    rw [e1] at e
    cases e
    refine ⟨by show i < z.cps.size; have := (List.getElem?_eq_some_iff.mp e1).1; simpa using this, ?_⟩
    rintro v' H' ⟨rfl, c', hc, rfl⟩
    have : z.cps.toList[i]? = some c' := by simpa using hc
    rw [e1] at this
    cases this
    exact ⟨Hx.rfl, fun G1 h1 h2 => ⟨G1, Hx.rfl, h2, fun _ _ z => .inl z, .str _⟩⟩
theorem range_len : ∀ (n : Nat) (lo : Int), (rangeD lo n).length = n
  | 0, _ => rfl
  | n + 1, lo => by simp [rangeD, range_len n]
theorem range_get : ∀ (n : Nat) (lo : Int) (i : Nat) (d : D), (rangeD lo n)[i]? = some d → i < n ∧ d = .int (lo + i)
  | 0, _, i, d, h => by simp [rangeD] at h
  | n + 1, lo, 0, d, h => by simp [rangeD] at h; exact ⟨by omega, by rw [← h]; simp⟩
  | n + 1, lo, i + 1, d, h => by
    simp only [rangeD, List.getElem?_cons_succ] at h
    obtain ⟨h1, h2⟩ := range_get n (lo + 1) i d h
    refine ⟨by omega, ?_⟩
    rw [h2]
    congr 1
    omega
theorem wk_range {lo : Int} {n : Nat} : Wk K G (L2.Itr lo n) (rangeD lo n) := by
  intro H g i
  refine ⟨fun d e => ?_, fun e => by rw [range_len] at e; exact e⟩
  obtain ⟨h1, h2⟩ := range_get n lo i d e
  subst h2
  refine ⟨h1, ?_⟩
  rintro v' H' ⟨rfl, rfl⟩
  exact ⟨Hx.rfl, fun G1 h1 h2 => ⟨G1, Hx.rfl, h2, fun _ _ z => .inl z, .int _⟩⟩
end
def tDI (K : PySem.W.Frag) (B : Bs) (Γ : Gam) (p : Itr) (Ep : Xn → En → Prop) : TI := fun σ H R => ∃ G env fp Qp, ER K B G H σ env fp ∧ wI Γ p env Qp Ep ∧
  ∀ xs env' J G' H', Stp K B fp σ G H env G' H' env' → Wk K G' J xs → Qp xs env' → R J H'
theorem wkI {X : Cx} {tg e : Expr} {t t' : TI} (h : PI X tg e t) (i : ∀ σ H Q, t' σ H Q → t σ H Q) : PI X tg e t' := ⟨fun pins s σ H Q I q => h.run pins s σ H Q I (i _ _ _ q)⟩
section
variable {Γ : Gam} {k : Nat} {N : List Str} {X : Cx} {B : Bs} {Ep : Xn → En → Prop} {sc : Scope} {tg : Expr}
theorem sI_seq {a : Ex} {x : Expr} (nr : a.isRd = false) (ha : PE X x (tD X.K B Γ a Ep)) : PI X tg x (tDI X.K B Γ (.seq a) Ep) := by
  constructor
  rintro pins s σ H R I ⟨G, env, fp, Qp, E0, w, po⟩
  simp only [wI] at w
  apply thn (ha.run pins s σ H (fun v H1 => ∃ xs env' d G', Stp X.K B fp σ G H env G' H1 env' ∧ Rep X.K G' v d ∧ d.walk = some xs ∧ Qp xs env') I ⟨G, env, fp, _, E0, w, fun d e v G' H' st t n s1 ⟨xs, e1, q⟩ => ⟨xs, e, d, G', st, n nr, e1, q⟩⟩)
  rintro v s1 ⟨y, H1, I1, ry, xs, e1, d, G1, st, r, ew, q⟩
  cases r with
  | non => simp [D.walk] at ew
  | bl b => simp [D.walk] at ew
  | int b => simp [D.walk] at ew
  | ty b => simp [D.walk] at ew
  | ref b => simp [D.walk] at ew
  | scr b => simp [D.walk] at ew
  | dK _ _ _ => simp [D.walk] at ew
  | obj _ _ _ => simp [D.walk] at ew
  | str z =>
    simp only [D.walk, Option.some.injEq] at ew
    subst ew
    obtain ⟨t, rfl⟩ := ry
    have fin := po _ e1 (Its z) G1 H1 st wk_str q
    cases ha : z.cps.all (· < 128)
    · exact wpAny_pyIter_wide ha (pi_one (tk := s1.toks) I1 _ (turn_str _ z t "str_iterator" (.inr rfl)) ⟨_, Heap.get?_push_size _ rfl, rfl, rfl⟩ fin)
    · exact wpAny_pyIter_ascii ha (pi_one (tk := s1.toks) I1 _ (turn_str _ z t "str_ascii_iterator" (.inl rfl)) ⟨_, Heap.get?_push_size _ rfl, rfl, rfl⟩ fin)
  | @tup a vs ds h r =>
    simp only [D.walk, Option.some.injEq] at ew
    subst ew
    cases ry
    obtain ⟨its, rv, p, hz⟩ := I1.tuple (ex_t st.r.exG h)
    exact wpAny_pyIter_tuple (show s1.heap.IsTuple a its.toArray from p) (pi_one (tk := s1.toks) I1 _ (turn_tuple a _) ⟨_, Heap.get?_push_size _ rfl, rfl, rfl⟩ (po _ e1 (Itt X.K a) G1 H1 st (wk_tup h r) q))
  | @lst a vs ds h r =>
    simp only [D.walk, Option.some.injEq] at ew
    subst ew
    cases ry
    obtain ⟨its, rv, p, hz⟩ := I1.list (.inl (.inl (st.r.exG _ _ h)))
    exact wpAny_pyIter_list p.isList (pi_one (tk := s1.toks) I1 _ (turn_list a _) ⟨_, Heap.get?_push_size _ rfl, rfl, rfl⟩ (po _ e1 (Itl X.K a) G1 H1 st (wk_list h r) q))
theorem sI_rng1 {a : Ex} {x : Expr} {p pos : Pos} (S : SX Γ k N X) (es : X.env.scope = sc) (hg : glOk sc ("range" : Str) = true) (hs : noStar x = true) (nr : a.isRd = false) (ha : PE X x (tD X.K B Γ a Ep)) : PI X tg (.Call (.Name ("range" : Str) p) [x] [] pos) (tDI X.K B Γ (.rng1 a) Ep) := by
  obtain ⟨h1, h2⟩ := gl_of hg es
  refine wkI (pi_range1 h1 (S.bt _ (by simp [blts])) (pa_cons ha pa_nil (star_of hs _ _)) (star_of hs _ _)) fun σ H Q ⟨G, env, fp, Qp, R, w, po⟩ => ?_
  simp only [wI] at w
  refine ⟨G, env, fp, _, R, w, ?_⟩
  rintro d e v G' H' st t n s ⟨j, rfl, b1, b2, q⟩
  exact ⟨j, by rw [t.int], b1, b2, po _ e _ G' H' st wk_range q⟩
theorem sI_rng2 {a b : Ex} {x y : Expr} {p pos : Pos} (S : SX Γ k N X) (es : X.env.scope = sc) (hg : glOk sc ("range" : Str) = true) (hs : noStar x = true) (hs2 : noStar y = true) (nr : a.isRd = false) (nr2 : b.isRd = false)
    (ha : PE X x (tD X.K B Γ a Ep)) (hb : PE X y (tD X.K B Γ b Ep)) : PI X tg (.Call (.Name ("range" : Str) p) [x, y] [] pos) (tDI X.K B Γ (.rng2 a b) Ep) := by
  obtain ⟨h1, h2⟩ := gl_of hg es
  refine wkI (pi_range2 h1 (S.bt _ (by simp [blts])) (pa_cons ha (pa_cons hb pa_nil (star_of hs2 _ _)) (star_of hs _ _)) (by rw [star_of hs, star_of hs2]; rfl) (star_of hs2 _ _)) fun σ H Q ⟨G, env, fp, Qp, R, w, po⟩ => ?_
  simp only [wI] at w
  refine ⟨G, env, fp, _, R, w, ?_⟩
  intro d e v G' H' st t n s w1
  refine ⟨G', e, fp, _, st.r, w1, ?_⟩
  rintro d2 e2 v2 G2 H2 st2 t2 n2 s2 ⟨i, j, rfl, rfl, bb, q⟩
  have e1 : v = .int i := (n nr |> fun z => RepT.int (H := H') (.inl z))
  exact ⟨i, j, by rw [e1, t2.int], bb, po _ e2 _ G2 H2 (st.trans st2) wk_range q⟩
end

/-! ### the block of a comprehension -/
def muOf (env : En) (fp : Nat → List Addr) : List Addr := (List.range env.length).flatMap fun i => match env[i]? with
  | some (Sl.own _ _) => fp i
  | _ => []
def pinOf (σ : L2.St) (fp : Nat → List Addr) : Nat → Option (Addr × List Addr) := fun i => match σ[i]? with
  | some (some (.ref p)) => some (p, fp i)
  | _ => none
theorem mem_mu {env : En} {fp : Nat → List Addr} {i : Nat} {m : Bool} {o : O} (h : env[i]? = some (Sl.own m o)) {a : Addr} (ha : a ∈ fp i) : a ∈ muOf env fp := by
  unfold muOf
  refine List.mem_flatMap.mpr ⟨i, List.mem_range.mpr (List.getElem?_eq_some_iff.mp h).1, ?_⟩
  rw [h]
  exact ha
theorem of_mu {env : En} {fp : Nat → List Addr} {a : Addr} (h : a ∈ muOf env fp) : ∃ i m o, env[i]? = some (Sl.own m o) ∧ a ∈ fp i := by
  unfold muOf at h
  obtain ⟨i, _, h⟩ := List.mem_flatMap.mp h
  split at h
  · rename_i m o e; exact ⟨i, m, o, e, h⟩
  · cases h
theorem wipeE_len (env : En) : ∀ vs : List Nat, (wipeE env vs).length = env.length
  | [] => rfl
  | v :: vs => by unfold wipeE; rw [List.length_set, wipeE_len env vs]
theorem wipeE_get {env : En} {i : Nat} {x : Sl} : ∀ {vs : List Nat}, (wipeE env vs)[i]? = some x → (x = .un ∧ i ∈ vs) ∨ (env[i]? = some x ∧ i ∉ vs)
  | [], h => .inr ⟨h, by simp⟩
  | v :: vs, h => by
    unfold wipeE at h
    by_cases hv : v = i
    · subst hv
      exact .inl ⟨(get_set_eq h).1, List.mem_cons_self⟩
    · rw [get_set_ne hv] at h
      rcases wipeE_get h with ⟨h1, h2⟩ | ⟨h1, h2⟩
      · exact .inl ⟨h1, List.mem_cons_of_mem _ h2⟩
      · exact .inr ⟨h1, fun z => by rcases List.mem_cons.mp z with z | z; exact hv z.symm; exact h2 z⟩
theorem wipe_get {σ : L2.St} {i : Nat} : ∀ {vs : List Nat}, i ∉ vs → (wipe σ vs)[i]? = σ[i]?
  | [], _ => rfl
  | v :: vs, h => by
    unfold wipe
    have hv : v ≠ i := fun z => h (by rw [z]; exact List.mem_cons_self)
    rw [List.getElem?_set_ne hv]
    exact wipe_get fun z => h (List.mem_cons_of_mem _ z)
theorem hards_get {env : En} {i : Nat} {x : Sl} (h : (hards env)[i]? = some x) : ∃ y, env[i]? = some y ∧ x = y.hard := by
  unfold hards at h
  rw [List.getElem?_map] at h
  cases e : env[i]? with
  | none => rw [e] at h; cases h
  | some y => rw [e] at h; cases h; exact ⟨y, rfl, rfl⟩
section
variable {K : PySem.W.Frag} {B B6 : Bs} {G H G6 H6 H' : Hp} {σ σ2 : L2.St} {env e1 e5 e6 : En} {fp : Nat → List Addr} {vs : List Nat}
theorem hard_val {s : Sl} {d : D} (h : Sl.val d = s.hard) : s = .val d := by
  cases s <;> simp only [Sl.hard, reduceCtorEq, Sl.val.injEq] at h
  rw [h]
theorem hard_own {s : Sl} {m : Bool} {o : O} (h : Sl.own m o = s.hard) : m = false ∧ ∃ m', s = .own m' o := by
  cases s <;> simp only [Sl.hard, reduceCtorEq, Sl.own.injEq] at h
  exact ⟨h.1, _, by rw [h.2]⟩
/-- into a block -/
theorem ER.block (R : ER K B G H σ env fp) : ER K ⟨H, G, muOf env fp, pinOf σ fp⟩ G H (wipe σ vs) (wipeE (hards env) vs) fp where
  exB := fun _ _ h _ => h
  dom := fun a o h => ⟨o, h⟩
  exG := R.exG
  g0 := Hx.rfl
  new := fun _ _ h => .inl h
  len := by rw [wipe_length, wipeE_len]; unfold hards; rw [List.length_map]; exact R.len
  val := fun i d h => by
    rcases wipeE_get h with ⟨z, _⟩ | ⟨h, hn⟩
    · cases z
    · obtain ⟨y, h1, h2⟩ := hards_get h
      rw [hard_val h2] at h1
      rw [wipe_get hn]
      exact R.val i d h1
  own := fun i m o h => by
    rcases wipeE_get h with ⟨z, _⟩ | ⟨h, hn⟩
    · cases z
    · obtain ⟨y, h1, h2⟩ := hards_get h
      obtain ⟨_, m', e⟩ := hard_own h2
      rw [e] at h1
      rw [wipe_get hn]
      exact R.own i m' o h1
  sep := fun i m o h a ha => by
    rcases wipeE_get h with ⟨z, _⟩ | ⟨h, hn⟩
    · cases z
    · obtain ⟨y, h1, h2⟩ := hards_get h
      obtain ⟨_, m', e⟩ := hard_own h2
      rw [e] at h1
      exact ⟨(R.sep i m' o h1 a ha).1, .inr (mem_mu h1 ha)⟩
  loc := fun i o h a ha => by
    rcases wipeE_get h with ⟨z, _⟩ | ⟨h, hn⟩
    · cases z
    · obtain ⟨y, h1, h2⟩ := hards_get h
      obtain ⟨z, _⟩ := hard_own h2
      cases z
  dis := fun i j m o m' o' h h' ne => by
    rcases wipeE_get h with ⟨z, _⟩ | ⟨h, _⟩
    · cases z
    · rcases wipeE_get h' with ⟨z, _⟩ | ⟨h', _⟩
      · cases z
      · obtain ⟨y, h1, h2⟩ := hards_get h
        obtain ⟨_, m1, e⟩ := hard_own h2
        rw [e] at h1
        obtain ⟨y', h1', h2'⟩ := hards_get h'
        obtain ⟨_, m2, e'⟩ := hard_own h2'
        rw [e'] at h1'
        exact R.dis i j m1 o m2 o' h1 h1' ne
  pin := fun i o h => by
    rcases wipeE_get h with ⟨z, _⟩ | ⟨h, hn⟩
    · cases z
    · obtain ⟨y, h1, h2⟩ := hards_get h
      obtain ⟨_, m', e⟩ := hard_own h2
      rw [e] at h1
      rw [wipe_get hn]
      obtain ⟨p, q, _⟩ := R.own i m' o h1
      exact ⟨p, by show pinOf σ fp i = _; unfold pinOf; rw [q], q⟩
/-- a new ground within a block: only what is owned may change -/
theorem ER.rebase (R : ER K B6 G6 H6 σ2 e5 fp) (hw : wipe σ2 vs = wipe σ vs) {mu : List Addr} (hm : ∀ (i : Nat) (m : Bool) (o : O), e5[i]? = some (Sl.own m o) → m = false ∧ ∀ a ∈ fp i, a ∈ mu)
    (gh : Hx G6 H') (kp : ∀ (i : Nat) (m : Bool) (o : O), e5[i]? = some (Sl.own m o) → ∀ a ∈ fp i, H' a = H6 a) : ER K ⟨H', G6, mu, B6.pn⟩ G6 H' (wipe σ vs) (wipeE e5 vs) fp where
  exB := fun _ _ h _ => h
  dom := fun a o h => ⟨o, h⟩
  exG := gh
  g0 := Hx.rfl
  new := fun _ _ h => .inl h
  len := by rw [← hw, wipe_length, wipeE_len]; exact R.len
  val := fun i d h => by
    rcases wipeE_get h with ⟨z, _⟩ | ⟨h, hn⟩
    · cases z
    · rw [← hw, wipe_get hn]
      exact R.val i d h
  own := fun i m o h => by
    rcases wipeE_get h with ⟨z, _⟩ | ⟨h, hn⟩
    · cases z
    · rw [← hw, wipe_get hn]
      obtain ⟨p, h1, h2⟩ := R.own i m o h
      exact ⟨p, h1, h2.mono Hx.rfl fun a u ha e => by rw [kp i m o h a ha]; exact e⟩
  sep := fun i m o h a ha => by
    rcases wipeE_get h with ⟨z, _⟩ | ⟨h, hn⟩
    · cases z
    · exact ⟨(R.sep i m o h a ha).1, .inr ((hm i m o h).2 a ha)⟩
  loc := fun i o h a ha => by
    rcases wipeE_get h with ⟨z, _⟩ | ⟨h, hn⟩
    · cases z
    · cases (hm i true o h).1
  dis := fun i j m o m' o' h h' ne => by
    rcases wipeE_get h with ⟨z, _⟩ | ⟨h, _⟩
    · cases z
    · rcases wipeE_get h' with ⟨z, _⟩ | ⟨h', _⟩
      · cases z
      · exact R.dis i j m o m' o' h h' ne
  pin := fun i o h => by
    rcases wipeE_get h with ⟨z, _⟩ | ⟨h, hn⟩
    · cases z
    · rw [← hw, wipe_get hn]
      exact R.pin i o h
theorem soft_get {i : Nat} {x : Sl} (h : (softAs e1 e6)[i]? = some x) : ∃ y z, e1[i]? = some y ∧ e6[i]? = some z ∧ x = Sl.softAs y z := by
  unfold softAs at h
  rw [List.getElem?_zipWith] at h
  cases a : e1[i]? with
  | none => rw [a] at h; cases h
  | some y =>
    cases b : e6[i]? with
    | none => rw [a, b] at h; cases h
    | some z => rw [a, b] at h; cases h; exact ⟨y, z, rfl, rfl, rfl⟩
/-- out of a block -/
theorem ER.unblock (R1 : ER K B G H σ e1 fp) (R6 : ER K B6 G6 H6 (wipe σ vs) e6 fp) (g : Hx G G6) (nw : ∀ a o, G6 a = some o → G a = some o ∨ H a = none) (fr : ∀ a o, H a = some o → a ∉ muOf e1 fp → H6 a = some o)
    (dm : ∀ a o, H a = some o → ∃ o', H6 a = some o') (own6 : ∀ (i : Nat) (m : Bool) (o : O), e6[i]? = some (Sl.own m o) → ∃ m' o', e1[i]? = some (Sl.own m' o')) : Stp K B fp σ G H e1 G6 H6 (softAs e1 e6) := by
  have key : ∀ {i : Nat} {m : Bool} {o : O}, (softAs e1 e6)[i]? = some (Sl.own m o) → ∃ o' m2, e1[i]? = some (Sl.own m o') ∧ e6[i]? = some (Sl.own m2 o) := by
    intro i m o h
    obtain ⟨y, z, a, b, e⟩ := soft_get h
    cases z with
    | un => cases y <;> simp only [Sl.softAs, reduceCtorEq] at e
    | val d => cases y <;> simp only [Sl.softAs, reduceCtorEq] at e
    | own m2 o2 =>
      obtain ⟨m', o', q⟩ := own6 i m2 o2 b
      rw [a] at q
      cases q
      simp only [Sl.softAs, Sl.own.injEq] at e
      obtain ⟨rfl, rfl⟩ := e
      exact ⟨o', m2, a, b⟩
  have hl : e6.length = e1.length := by
    have := R6.len
    rw [wipe_length] at this
    rw [← this, R1.len]
  refine ⟨⟨fun a o h hm => fr a o (R1.exB a o h hm) fun z => ?_, fun a o h => ?_, R6.exG, R1.g0.trans g, fun a o h => ?_, ?_, fun i d h => ?_, fun i m o h => ?_, fun i m o h a ha => ?_, fun i o h a ha => ?_, fun i j m o m' o' h h' ne => ?_, fun i o h => ?_⟩, g, fun i m u h => ?_⟩
  · obtain ⟨i, m, o', e, ha⟩ := of_mu z
    rcases (R1.sep i m o' e a ha).2 with q | q
    · rw [q] at h; cases h
    · exact hm q
  · obtain ⟨o', h'⟩ := R1.dom a o h
    exact dm a o' h'
  · rcases nw a o h with z | z
    · exact R1.new a o z
    · exact .inr (R1.new0 z)
  · unfold softAs
    rw [List.length_zipWith, hl, R1.len]
    simp
  · obtain ⟨y, z, a, b, e⟩ := soft_get h
    have hz : z = .val d := by
      cases z with
      | un => cases y <;> simp only [Sl.softAs, reduceCtorEq] at e
      | val d' => cases y <;> simp only [Sl.softAs, Sl.val.injEq] at e <;> rw [e]
      | own m o => cases y <;> simp only [Sl.softAs, reduceCtorEq] at e
    subst hz
    obtain ⟨v, h1, h2⟩ := R6.val i d b
    exact ⟨v, (wipe_some h1).1, h2⟩
  · obtain ⟨o', m2, a, b⟩ := key h
    obtain ⟨p, h1, h2⟩ := R6.own i m2 o b
    exact ⟨p, (wipe_some h1).1, h2⟩
  · obtain ⟨o', m2, q, b⟩ := key h
    exact ⟨(R6.sep i m2 o b a ha).1, (R1.sep i m o' q a ha).2⟩
  · obtain ⟨o', m2, q, b⟩ := key h
    exact R1.loc i o' q a ha
  · obtain ⟨u, m2, q, b⟩ := key h
    obtain ⟨u', m2', q', b'⟩ := key h'
    exact R1.dis i j m u m' u' q q' ne
  · obtain ⟨o', m2, q, b⟩ := key h
    exact R1.pin i o' q
  · obtain ⟨o', m2, q, b⟩ := key h
    exact ⟨o', q⟩
end
end Pl

/-! Pl: list comprehensions -/
namespace Pl
open PySem PySem.Spec L2
section
variable {Γ : Gam} {k : Nat} {N : List Str} {X : Cx} {B : Bs} {Ep : Xn → En → Prop} {sc : Scope}
abbrev NoX : Xn → En → Prop := fun _ _ => False
theorem takesN {X : Cx} {K : PySem.W.Frag} {B : Bs} : Takes X (WXn K B NoX) := takes0.imp fun _ _ _ _ ⟨_, _, _, _, _, _, h⟩ => h
theorem SX.blk (S : SX Γ k N X) {s : Shared} {H : Hp} {scope : Scope} {ce : PySem.Env} {fp : List Addr} : SX Γ k N (X.blk s H scope ce fp) := ⟨S.calm, S.nd, S.n, S.rm, S.glb, S.bt, S.sub, S.cl, S.fn⟩
def tDx (K : PySem.W.Frag) (Γ : Gam) (p : Ex) : TE := fun σ H Q => ∃ B, tD K B Γ p NoX σ H Q
def tDTx (K : PySem.W.Frag) (Γ : Gam) (p : Ex) : TT := fun σ H Q => ∃ B, tDT K B Γ p NoX σ H Q
theorem ex_x {X : Cx} {e : Expr} {p : Ex} (h : ∀ B, PE X e (tD X.K B Γ p NoX)) : PE X e (tDx X.K Γ p) := ⟨fun pins s σ H Q I ⟨B, q⟩ => (h B).run pins s σ H Q I q⟩
theorem ex_t' {X : Cx} {e : Expr} {p : Ex} (h : ∀ B, PT X e (tDT X.K B Γ p NoX)) : PT X e (tDTx X.K Γ p) := ⟨fun pins s σ H Q I ⟨B, q⟩ => (h B).run pins s σ H Q I q⟩
/-- one turn's condition -/
abbrev stepC (Γ : Gam) (i : Nat) (elt c : Ex) : D → En → (List D → En → Prop) → Prop := fun x e2 Q' => wTg (.one i) x (wipeE e2 [i]) fun e3 =>
      wT Γ c e3 (fun t e4 => if t = true then wE Γ elt e4 (fun y e5 => Q' [y] (wipeE e5 [i])) (fun _ _ => False) else Q' [] (wipeE e4 [i])) (fun _ _ => False)
/-- the state between two turns -/
structure Mid (K : PySem.W.Frag) (B : Bs) (fp : Nat → List Addr) (σ : L2.St) (i : Nat) (G1 H1 : Hp) (e1 : En) (Dl : Addr) (G H : Hp) (env : En) (acc : List V) (ys : List D) : Prop where
  r : ER K ⟨H, G, muOf e1 fp, pinOf σ fp⟩ G H (wipe σ [i]) env fp
  w : wipeE env [i] = env
  own : ∀ (j : Nat) (m : Bool) (o : O), env[j]? = some (Sl.own m o) → m = false ∧ ∃ m' o', e1[j]? = some (Sl.own m' o')
  g : Hx G1 G
  nw : ∀ a o, G a = some o → G1 a = some o ∨ H1 a = none
  fr : ∀ a o, H1 a = some o → a ∉ muOf e1 fp → H a = some o
  dm : ∀ a o, H1 a = some o → ∃ o', H a = some o'
  d : H Dl = some (.lst acc)
  hd : H1 Dl = none
  gd : G Dl = none
  nd : ∀ (j : Nat) (m : Bool) (o : O), e1[j]? = some (Sl.own m o) → Dl ∉ fp j
  ac : Reps K G acc ys
theorem wipe_idem {env : En} {i : Nat} : wipeE (wipeE env [i]) [i] = wipeE env [i] := by
  show ((env.set i .un).set i .un) = env.set i .un
  rw [List.set_set]
theorem wipeE_own {env : En} {vs : List Nat} {j : Nat} {m : Bool} {o : O} (h : (wipeE env vs)[j]? = some (Sl.own m o)) : env[j]? = some (Sl.own m o) := by
  rcases wipeE_get h with ⟨z, _⟩ | ⟨h, _⟩
  · cases z
  · exact h
/-- a new cell that nobody owns is fixed -/
theorem ER.fix {K : PySem.W.Frag} {B : Bs} {G H : Hp} {σ : L2.St} {env : En} {fp : Nat → List Addr} (R : ER K B G H σ env fp) {p : Addr} {o : HO} (g : G p = none) (h : H p = some o) (b : B.H0 p = none)
    (nd : ∀ (j : Nat) (m : Bool) (u : O), env[j]? = some (Sl.own m u) → p ∉ fp j) : ER K B (upd G p o) H σ env fp where
  exB := R.exB
  dom := R.dom
  exG := fun a u e => by
    by_cases ha : a = p
    · subst ha; rw [upd_same] at e; rw [h]; exact e
    · rw [upd_ne ha] at e; exact R.exG a u e
  g0 := R.g0.trans (Hx.new g)
  new := fun a u e => by
    by_cases ha : a = p
    · subst ha; exact .inr b
    · rw [upd_ne ha] at e; exact R.new a u e
  len := R.len
  val := fun i d e => by obtain ⟨v, h1, h2⟩ := R.val i d e; exact ⟨v, h1, h2.mono (Hx.new g)⟩
  own := fun i m u e => by obtain ⟨q, h1, h2⟩ := R.own i m u e; exact ⟨q, h1, h2.mono (Hx.new g) fun _ _ _ z => z⟩
  sep := fun i m u e a ha => by
    have na : a ≠ p := fun z => nd i m u e (by rw [← z]; exact ha)
    rw [upd_ne na]
    exact R.sep i m u e a ha
  loc := R.loc
  dis := R.dis
  pin := R.pin
/-- more is fixed than before -/
theorem ER.take {K : PySem.W.Frag} {B6 : Bs} {G6 G' H6 : Hp} {σ : L2.St} {e : En} {fp : Nat → List Addr} {mu : List Addr} (R : ER K B6 G6 H6 σ e fp) (eG : Hx G6 G') (gh : Hx G' H6)
    (ap : ∀ (i : Nat) (m : Bool) (o : O), e[i]? = some (Sl.own m o) → m = false ∧ ∀ a ∈ fp i, a ∈ mu ∧ G' a = none) : ER K ⟨H6, G', mu, B6.pn⟩ G' H6 σ e fp where
  exB := fun _ _ h _ => h
  dom := fun a o h => ⟨o, h⟩
  exG := gh
  g0 := Hx.rfl
  new := fun _ _ h => .inl h
  len := R.len
  val := fun i d h => by obtain ⟨v, h1, h2⟩ := R.val i d h; exact ⟨v, h1, h2.mono eG⟩
  own := fun i m o h => by obtain ⟨p, h1, h2⟩ := R.own i m o h; exact ⟨p, h1, h2.mono eG fun _ _ _ z => z⟩
  sep := fun i m o h a ha => ⟨((ap i m o h).2 a ha).2, .inr ((ap i m o h).2 a ha).1⟩
  loc := fun i o h => by cases (ap i true o h).1
  dis := R.dis
  pin := R.pin
/-- a turn's end: from a state within the block, D has got ys' -/
theorem Mid.next {K : PySem.W.Frag} {fp : Nat → List Addr} {σ σ2 : L2.St} {i : Nat} {G1 H1 : Hp} {e1 : En} {Dl : Addr} {G H : Hp} {env : En} {acc : List V} {ys : List D} (M : Mid K B fp σ i G1 H1 e1 Dl G H env acc ys)
    {G5 H5 : Hp} {e5 : En} (hw : wipe σ2 [i] = wipe σ [i]) (R5 : ER K ⟨H, G, muOf e1 fp, pinOf σ fp⟩ G5 H5 σ2 e5 fp) (g5 : Hx G G5) (o5 : ∀ (j : Nat) (m : Bool) (u : O), e5[j]? = some (Sl.own m u) → ∃ u', env[j]? = some (Sl.own m u'))
    {vs' : List V} {ds' : List D} (r : Reps K G5 vs' ds') : H5 Dl = some (.lst acc) ∧ Mid K B fp σ i G1 H1 e1 Dl G5 (upd H5 Dl (.lst (acc ++ vs'))) (wipeE e5 [i]) (acc ++ vs') (ys ++ ds') ∧ (vs' = [] → Mid K B fp σ i G1 H1 e1 Dl G5 H5 (wipeE e5 [i]) acc ys) := by
  have nmu : Dl ∉ muOf e1 fp := fun z => by
    obtain ⟨j, m, o, e, ha⟩ := of_mu z
    exact M.nd j m o e ha
  have h5 : H5 Dl = some (.lst acc) := R5.exB Dl _ M.d nmu
  have g5D : G5 Dl = none := by
    cases q : G5 Dl with
    | none => rfl
    | some u =>
      rcases R5.new Dl u q with z | z
      · have z : G Dl = some u := z
        rw [M.gd] at z; cases z
      · have z : H Dl = none := z
        rw [M.d] at z; cases z
  have mo : ∀ (j : Nat) (m : Bool) (o : O), e5[j]? = some (Sl.own m o) → m = false ∧ ∀ a ∈ fp j, a ∈ muOf e1 fp := fun j m o h => by
    obtain ⟨u, h1⟩ := o5 j m o h
    obtain ⟨hm, m', o', h2⟩ := M.own j m u h1
    exact ⟨hm, fun a ha => mem_mu h2 ha⟩
  have own' : ∀ (j : Nat) (m : Bool) (o : O), (wipeE e5 [i])[j]? = some (Sl.own m o) → m = false ∧ ∃ m' o', e1[j]? = some (Sl.own m' o') := fun j m o h => by
    obtain ⟨u, h1⟩ := o5 j m o (wipeE_own h)
    exact M.own j m u h1
  have nw : ∀ a o, G5 a = some o → G1 a = some o ∨ H1 a = none := fun a o h => by
    rcases R5.new a o h with z | z
    · exact M.nw a o z
    · right
      cases q : H1 a with
      | none => rfl
      | some u =>
        obtain ⟨o', h'⟩ := M.dm a u q
        have z : H a = none := z
        rw [z] at h'; cases h'
  have fr : ∀ a o, H1 a = some o → a ∉ muOf e1 fp → H5 a = some o := fun a o h hm => R5.exB a o (M.fr a o h hm) hm
  have dm : ∀ a o, H1 a = some o → ∃ o', H5 a = some o' := fun a o h => by
    obtain ⟨o', h'⟩ := M.dm a o h
    exact R5.dom a o' h'
  refine ⟨h5, ⟨?_, wipe_idem, own', M.g.trans g5, nw, fun a o h hm => ?_, fun a o h => ?_, upd_same, M.hd, g5D, M.nd, (M.ac.mono g5).append r⟩, fun _ => ⟨?_, wipe_idem, own', M.g.trans g5, nw, fr, dm, h5, M.hd, g5D, M.nd, M.ac.mono g5⟩⟩
  · refine R5.rebase hw mo (fun a u e => ?_) fun j m o h a ha => upd_ne fun z => ?_
    · by_cases ha : a = Dl
      · subst ha; rw [g5D] at e; cases e
      · rw [upd_ne ha]; exact R5.exG a u e
    · subst z; exact nmu ((mo j m o h).2 a ha)
  · by_cases ha : a = Dl
    · subst ha
      rw [M.hd] at h; cases h
    · rw [upd_ne ha]; exact fr a o h hm
  · by_cases ha : a = Dl
    · subst ha; exact ⟨_, upd_same⟩
    · rw [upd_ne ha]; exact dm a o h
  · exact R5.rebase hw mo R5.exG fun j m o h a ha => rfl

theorem lc_turn {K : PySem.W.Frag} {tg : Expr} {i : Nat} {elt c : Ex} {J : It} {xs : List D} {fp : Nat → List Addr} {σ : L2.St} {G1 H1 : Hp} {e1 : En} {Dl : Addr} {Q : VK} {Qend : List D → En → Prop} (wk : Wk K G1 J xs)
    (hd : H1 Dl = none) (fin : ∀ ys e G H acc, Mid K B fp σ i G1 H1 e1 Dl G H e acc ys → Qend ys e → Q (.ref Dl) H)
    (M0 : Mid K B fp σ i G1 H1 e1 Dl G1 (upd H1 Dl (.lst [])) (wipeE (hards e1) [i]) [] []) (w : wEach (stepC Γ i elt c) xs [] (wipeE (hards e1) [i]) Qend) (nr : elt.isRd = false) :
    ∃ W : Nat → Nat → Hp → Prop, (∃ m, W 0 m (upd H1 Dl (.lst []))) ∧ ∀ n m H, W n m H →
      (J.stop n H ∧ Q (.ref Dl) H) ∨ (J.go n H ∧ ∃ Nx : Hp → Prop, (∀ H', Nx H' → ∃ m', m' < m ∧ W (n + 1) m' H') ∧ ∀ x H', J.yld n H x H' → gName i x (wipe σ [i]) H' fun σ2 H2 => wipe σ2 [i] = wipe σ [i] ∧ tDTx K Γ c σ2 H2 fun b H3 =>
        if b = true then tDx K Γ elt σ2 H3 fun y H4 => ∃ acc, H4 Dl = some (.lst acc) ∧ acc.length < sizeLine ∧ Nx (upd H4 Dl (.lst (acc ++ [y]))) else Nx H3) := by
  refine ⟨fun n m H => m = xs.length - n ∧ n ≤ xs.length ∧ ∃ G e acc ys, Mid K B fp σ i G1 H1 e1 Dl G H e acc ys ∧ wEach (stepC Γ i elt c) (xs.drop n) ys e Qend, ⟨xs.length, by simp, Nat.zero_le _, G1, _, [], [], M0, by simpa using w⟩, ?_⟩
  rintro n m H ⟨rfl, hn, G, e, acc, ys, M, w⟩
  obtain ⟨wk1, wk2⟩ := wk H (M.g.trans M.r.exG) n
  by_cases hlt : n < xs.length
  · right
    have ex : xs[n]? = some xs[n] := by simp [hlt]
    obtain ⟨go, yl⟩ := wk1 _ ex
    have w' := w
    rw [List.drop_eq_getElem_cons hlt] at w'
    refine ⟨go, fun H' => ∃ G e acc ys, Mid K B fp σ i G1 H1 e1 Dl G H' e acc ys ∧ wEach (stepC Γ i elt c) (xs.drop (n + 1)) ys e Qend, fun H' h => ⟨xs.length - (n + 1), by omega, rfl, hlt, h⟩, ?_⟩
    intro x H' y
    obtain ⟨hx, lift⟩ := yl x H' y
    obtain ⟨G2, g2, gh2, nw2, rx⟩ := lift G M.g M.r.exG
    simp only [wEach, stepC, wTg] at w'
    rw [M.w] at w'
    have R2 := (M.r.grow hx g2 gh2 nw2).setV (i := i) rx
    have hw : wipe ((wipe σ [i]).set i (some x)) [i] = wipe σ [i] := by
      show ((σ.set i none).set i (some x)).set i none = σ.set i none
      rw [List.set_set, List.set_set]
    have o2 : ∀ (j : Nat) (m : Bool) (u : O), (e.set i (.val xs[n]))[j]? = some (Sl.own m u) → ∃ u', e[j]? = some (Sl.own m u') := fun j m u h => by
      by_cases z : i = j
      · subst z
        obtain ⟨z, _⟩ := get_set_eq h
        cases z
      · rw [get_set_ne z] at h
        exact ⟨u, h⟩
    refine ⟨hw, ⟨H, G, muOf e1 fp, pinOf σ fp⟩, G2, _, fp, _, R2, w', ?_⟩
    intro t e4 G4 H4 st4 s4 w4
    cases t with
    | false =>
      rw [if_neg Bool.false_ne_true] at w4 ⊢
      simp only [List.length_nil, Nat.add_zero, List.append_nil] at w4
      obtain ⟨_, _, h3⟩ := M.next hw st4.r (g2.trans st4.g) (fun j m u h => by obtain ⟨u1, h1⟩ := st4.o j m u h; exact o2 j m u1 h1) (vs' := []) (ds' := []) .nil
      exact ⟨G4, _, acc, ys, h3 rfl, w4.2⟩
    | true =>
      rw [if_pos rfl] at w4 ⊢
      refine ⟨⟨H, G, muOf e1 fp, pinOf σ fp⟩, G4, e4, fp, _, st4.r, w4, ?_⟩
      intro y e5 v G5 H5 st5 t5 n5 s5 w5
      have r5 := n5 nr
      obtain ⟨h1, h2, _⟩ := M.next hw st5.r (g2.trans (st4.g.trans st5.g)) (fun j m u h => by
        obtain ⟨u1, q1⟩ := st5.o j m u h
        obtain ⟨u2, q2⟩ := st4.o j m u1 q1
        exact o2 j m u2 q2) (vs' := [v]) (ds' := [y]) (.cons r5 .nil)
      refine ⟨acc, h1, ?_, G5, _, _, _, h2, w5.2⟩
      have := w5.1
      rw [M.ac.length]
      simp at this
      omega
  · left
    have en : n = xs.length := by omega
    subst en
    rw [List.drop_length] at w
    simp only [wEach] at w
    exact ⟨wk2 (Nat.le_refl _), fin _ _ _ _ _ M w⟩
/-- the reading of a comprehension; what Q asks of the new list -/
theorem lc_read {i : Nat} {elt c : Ex} {it : Itr} {tg : Expr} (nr : elt.isRd = false) {σ : L2.St} {H : Hp} {Q : VK} {G : Hp} {env : En} {fp : Nat → List Addr} {Qp : D → En → Prop} (R : ER X.K B G H σ env fp) (w : wE Γ (.lc (.one i) elt it c) env Qp Ep)
    (po : ∀ ys env' Dl acc G' H', Stp X.K B fp σ G H env G' H' env' → G' Dl = none → H' Dl = some (.lst acc) → Reps X.K G' acc ys → B.H0 Dl = none → (∀ (j : Nat) (m : Bool) (o : O), env'[j]? = some (Sl.own m o) → Dl ∉ fp j) → Qp (.lst ys) env' → Q (.ref Dl) H') :
    tLc (tDI X.K B Γ it Ep) (gName i) (tDTx X.K Γ c) (tDx X.K Γ elt) [i] σ H Q := by
  simp only [wE, Tg.ix] at w
  refine ⟨G, env, fp, _, R, w, ?_⟩
  intro xs e1 J G1 H1 st wk w1
  show ∀ Dl, H1 Dl = none → _
  intro Dl hd
  have R1 := st.r
  have gd := R1.gnone hd
  have ndl : ∀ (j : Nat) (m : Bool) (o : O), e1[j]? = some (Sl.own m o) → Dl ∉ fp j := fun j m o h z => by
    obtain ⟨p, _, h2⟩ := R1.own j m o h
    obtain ⟨u, hu⟩ := h2.there Dl z
    rw [hd] at hu; cases hu
  have M0 : Mid X.K B fp σ i G1 H1 e1 Dl G1 (upd H1 Dl (.lst [])) (wipeE (hards e1) [i]) [] [] := by
    have Rb := ER.block (vs := [i]) (R1.more (Hx.new (o := .lst []) hd))
    refine ⟨Rb, wipe_idem, fun j m o h => ?_, Hx.rfl, fun a o h => .inl h, fun a o h _ => Hx.new hd a o h, fun a o h => ⟨o, Hx.new hd a o h⟩, upd_same, hd, gd, ndl, .nil⟩
    obtain ⟨y, h1, h2⟩ := hards_get (wipeE_own h)
    obtain ⟨z, m', e'⟩ := hard_own h2
    exact ⟨z, m', o, by rw [← e']; exact h1⟩
  refine lc_turn (B := B) (tg := tg) wk hd (fun ys e6 G6 H6 acc M q => ?_) M0 w1 nr
  have stu := R1.unblock M.r M.g M.nw (fun a o h hm => M.fr a o h hm) M.dm (fun j m o h => (M.own j m o h).2)
  refine po ys _ Dl acc G6 H6 (st.trans stu) M.gd M.d M.ac (R1.new0 hd) (fun j m o h => ?_) q
  obtain ⟨y, z, a, b, e⟩ := soft_get h
  obtain ⟨u', hu⟩ := stu.o j m o h
  exact ndl j m u' hu
structure LcOk (Γ : Gam) (k : Nat) (N : List Str) (X : Cx) (B : Bs) (Ep : Xn → En → Prop) (sc : Scope) (i : Nat) (elt c : Ex) (it : Itr) (e t x : Expr) (ifs : List Expr) (scope : Scope) : Prop where
  hi : PI X t x (tDI X.K B Γ it Ep)
  ok : BlkOk X.N X.env.scope scope [(X.N.getD i Str.empty, i)]
  hg : ∀ (s : Shared) (H : Hp) (C : Addr) (cl : List (Str × Addr)) (fp : List Addr), PG (X.blk s H scope (compEnvC scope cl C X.env) fp) t (gName i)
  ht : ∀ (s : Shared) (H : Hp) (C : Addr) (cl : List (Str × Addr)) (fp : List Addr), PTs (X.blk s H scope (compEnvC scope cl C X.env) fp) ifs (tDTx X.K Γ c)
  he : ∀ (s : Shared) (H : Hp) (C : Addr) (cl : List (Str × Addr)) (fp : List Addr), PE (X.blk s H scope (compEnvC scope cl C X.env) fp) e (tDx X.K Γ elt)
  hs : ∀ y, foldedSetIterable x X.env y = pure y
  nr : elt.isRd = false
theorem lc_ok {i : Nat} {elt c : Ex} {it : Itr} {e t x : Expr} {ifs : List Expr} {scope : Scope} {tx : Str} {tp : Pos} (S : SX Γ k N X) (es : X.env.scope = sc) (hx : ∀ y, foldedSetIterable x X.env y = pure y) (ht : t = .Name tx tp) (hN : N[i]? = some tx)
    (hk : (relS scope sc).names.lookup tx = some .local ∨ (scope.names.lookup tx = some .cell ∧ (relS scope sc).names.lookup tx = some .cell)) (hb : blkC N sc scope [(tx, i)] = true) (nr : elt.isRd = false)
    (hi : PI X t x (tDI X.K B Γ it Ep)) (hc : ∀ X' : Cx, SX Γ k N X' → X'.env.scope = relS scope sc → ∀ B, PTs X' ifs (tDT X'.K B Γ c NoX)) (he : ∀ X' : Cx, SX Γ k N X' → X'.env.scope = relS scope sc → ∀ B, PE X' e (tD X'.K B Γ elt NoX)) :
    LcOk Γ k N X B Ep sc i elt c it e t x ifs scope := by
  have scp : ∀ (s : Shared) (H : Hp) (C : Addr) (cl : List (Str × Addr)) (fp : List Addr), (X.blk s H scope (compEnvC scope cl C X.env) fp).env.scope = relS scope sc := fun s H C cl fp => by
    rw [← es]
    rfl
  have eN : X.N.getD i Str.empty = tx := by
    rw [S.n, List.getD_eq_getElem?_getD, hN]
    rfl
  refine ⟨hi, by rw [eN]; exact blkOk_by (by rw [S.n, es]; exact hb), fun s H C cl fp => ?_, fun s H C cl fp => ?_, fun s H C cl fp => ex_x fun B' => he _ S.blk (scp s H C cl fp) B', hx, nr⟩
  · rw [ht]
    refine pg_name S.nd (by show X.N[i]? = some tx; rw [S.n]; exact hN) ?_ ?_
    · unfold L2.Loc
      rw [scp s H C cl fp]
      rcases hk with z | ⟨_, z⟩
      · exact .inl z
      · exact .inr z
    · rcases hk with z | ⟨z, _⟩
      · right; rw [scp s H C cl fp]; exact z
      · left
        show (scope.names.lookup tx == some NameKind.cell) = true
        rw [z]
        rfl
  · exact ⟨fun pins s' σ' H' Q' I' ⟨B', q⟩ => (hc _ S.blk (scp s H C cl fp) B').run pins s' σ' H' Q' I' q⟩
theorem sE_lc {i : Nat} {elt c : Ex} {it : Itr} {e t x : Expr} {ifs : List Expr} {scope : Scope} {pos : Pos} (S : SX Γ k N X) (L : LcOk Γ k N X B Ep sc i elt c it e t x ifs scope) :
    PE X (.ListComp e [⟨t, x, ifs, 0⟩] scope pos) (tD X.K B Γ (.lc (.one i) elt it c) Ep) := by
  refine wkE (pe_lc S.calm S.nd L.hi L.ok L.hg L.ht L.he L.hs) fun σ H Q ⟨G, env, fp, Qp, R, w, po⟩ => lc_read (tg := t) L.nr R w ?_
  intro ys env' Dl acc G' H' st g h r b nd q
  have hn : Hx G' (upd G' Dl (.lst acc)) := Hx.new g
  have rr : Rep X.K (upd G' Dl (.lst acc)) (.ref Dl) (.lst ys) := .lst upd_same (r.mono hn)
  refine po _ _ _ _ _ ⟨st.r.fix g h b nd, st.g.trans hn, st.o⟩ (.inl rr) (fun _ => rr) (fun z => by simp only [Ex.simp] at z; cases z) q
end
end Pl

/-! Pl: every expression that passes the look does what its condition says -/
namespace Pl
open PySem PySem.Spec L2
section
variable {Γ : Gam} {k : Nat} {N : List Str}
def TP (X : Cx) (e : Expr) (t : TT) : Prop := PT X e t ∧ ∀ op vs pos, e = .BoolOp op vs pos → PW X e t
theorem and_two {a b c : Bool} (h : (a && b) = true) : a = true ∧ b = true := by simpa using h
theorem fold_plain {x : Expr} (hx : noSetE x = true) (env : PySem.Env) : ∀ y, foldedSetIterable x env y = pure y := fun y => by
  unfold foldedSetIterable
  split
  · cases hx
  · rfl
theorem nf {a : Ex} (h : (!a.isRd) = true) : a.isRd = false := by simpa using h
mutual
theorem SEx : ∀ (p : Ex) (sc : Scope) (X : Cx) (B : Bs) (Ep : Xn → En → Prop) (e : Expr), SX Γ k N X → X.env.scope = sc → Takes X (WXn X.K B Ep) → ckE N sc p e = true → PE X e (tD X.K B Γ p Ep)
  | .abs, sc, X, B, Ep, e, S, es, tk, h => by simp [ckE] at h
  | .con d, sc, X, B, Ep, e, S, es, tk, h => by
    cases e <;> simp only [ckE, Bool.false_eq_true] at h
    exact sE_con h
  | .var i, sc, X, B, Ep, e, S, es, tk, h => by
    cases e <;> simp only [ckE, Bool.false_eq_true] at h
    exact sE_var S es h
  | .rd i, sc, X, B, Ep, e, S, es, tk, h => by
    cases e <;> simp only [ckE, Bool.false_eq_true] at h
    exact sE_rd S es h
  | .mu i, sc, X, B, Ep, e, S, es, tk, h => ⟨fun pins s σ H Q I ⟨G, env, fp, Qp, R, w, po⟩ => by simp only [wE] at w⟩
  | .glb y, sc, X, B, Ep, e, S, es, tk, h => by
    cases e <;> simp only [ckE, Bool.false_eq_true, Bool.and_eq_true, decide_eq_true_eq] at h
    rw [h.1]
    exact sE_glb S es (by rw [← h.1]; exact h.2)
  | .bin op a b, sc, X, B, Ep, e, S, es, tk, h => by
    cases e <;> simp only [ckE, Bool.false_eq_true, Bool.and_eq_true, decide_eq_true_eq] at h
    obtain ⟨⟨⟨rfl, h1⟩, h2⟩, h3⟩ := h
    exact sE_bin h3 (SEx a _ X B Ep _ S es tk h1) (SEx b _ X B Ep _ S es tk h2)
  | .neg a, sc, X, B, Ep, e, S, es, tk, h => by
    unfold ckE at h
    split at h <;> try contradiction
    rename_i hh
    cases hh
    simp only [Bool.and_eq_true] at h
    exact sE_neg (nf h.2) (SEx a _ X B Ep _ S es tk h.1)
  | .not a, sc, X, B, Ep, e, S, es, tk, h => by
    unfold ckE at h
    split at h <;> try contradiction
    rename_i hh
    cases hh
    exact sE_not (SEx a _ X B Ep _ S es tk h)
  | .and a b, sc, X, B, Ep, e, S, es, tk, h => by
    unfold ckE at h
    split at h <;> try contradiction
    rename_i hh
    cases hh
    simp only [Bool.and_eq_true] at h
    obtain ⟨⟨⟨h1, h2⟩, h3⟩, h4⟩ := h
    refine sE_and (nf h2) (nf h3) (SEx a _ X B Ep _ S es tk h1) ?_
    split at h4
    · exact pe_one (SEx b _ X B Ep _ S es tk h4)
    · exact SEx b _ X B Ep _ S es tk h4
  | .or a b, sc, X, B, Ep, e, S, es, tk, h => by
    unfold ckE at h
    split at h <;> try contradiction
    rename_i hh
    cases hh
    simp only [Bool.and_eq_true] at h
    obtain ⟨⟨⟨h1, h2⟩, h3⟩, h4⟩ := h
    refine sE_or (nf h2) (nf h3) (SEx a _ X B Ep _ S es tk h1) ?_
    split at h4
    · exact pe_one (SEx b _ X B Ep _ S es tk h4)
    · exact SEx b _ X B Ep _ S es tk h4
  | .ite c a b, sc, X, B, Ep, e, S, es, tk, h => by
    cases e <;> simp only [ckE, Bool.false_eq_true, Bool.and_eq_true, decide_eq_true_eq] at h
    obtain ⟨⟨⟨⟨h1, h2⟩, h3⟩, h4⟩, h5⟩ := h
    exact sE_ite (nf h4) (nf h5) (STx c _ X B Ep _ S es tk h1).1 (SEx a _ X B Ep _ S es tk h2) (SEx b _ X B Ep _ S es tk h3)
  | .cmp op a b, sc, X, B, Ep, e, S, es, tk, h => by
    unfold ckE at h
    split at h <;> try contradiction
    rename_i hh
    cases hh
    simp only [Bool.and_eq_true, decide_eq_true_eq] at h
    obtain ⟨⟨⟨⟨rfl, h1⟩, h2⟩, h3⟩, h4⟩ := h
    exact sE_cmp S h4 h1 (SEx a _ X B Ep _ S es tk h2) (SEx b _ X B Ep _ S es tk h3)
  | .chn o1 o2 a b c, sc, X, B, Ep, e, S, es, tk, h => by
    unfold ckE at h
    split at h <;> try contradiction
    rename_i hh
    cases hh
    simp only [Bool.and_eq_true, decide_eq_true_eq] at h
    obtain ⟨⟨⟨⟨⟨⟨⟨⟨rfl, rfl⟩, h1⟩, h2⟩, h3⟩, h4⟩, h5⟩, h6⟩, h7⟩ := h
    exact sE_chn S h6 h7 h1 h2 (SEx a _ X B Ep _ S es tk h3) (SEx b _ X B Ep _ S es tk h4) (SEx c _ X B Ep _ S es tk h5)
  | .tup ps, sc, X, B, Ep, e, S, es, tk, h => by
    cases e <;> simp only [ckE, Bool.false_eq_true, Bool.and_eq_true] at h
    exact sE_tup (SAx ps _ X B Ep _ S es tk h.1 h.2)
  | .lst ps, sc, X, B, Ep, e, S, es, tk, h => by
    cases e <;> simp only [ckE, Bool.false_eq_true, Bool.and_eq_true] at h
    exact sE_lst (SAx ps _ X B Ep _ S es tk h.1 h.2)
  | .dct ks vs, sc, X, B, Ep, e, S, es, tk, h => by
    unfold ckE at h
    split at h <;> try contradiction
    rename_i hh
    cases hh
    exact sE_dct0
  | .bty n, sc, X, B, Ep, e, S, es, tk, h => by
    cases e <;> simp only [ckE, Bool.false_eq_true, Bool.and_eq_true, decide_eq_true_eq] at h
    obtain ⟨⟨h1, h2⟩, h3⟩ := h
    rw [h2]
    exact sE_bty S es h1 (by rw [← h2]; exact h3)
  | .idx a b, sc, X, B, Ep, e, S, es, tk, h => by
    cases e <;> simp only [ckE, Bool.false_eq_true, Bool.and_eq_true] at h
    obtain ⟨⟨⟨h1, h2⟩, h3⟩, h4⟩ := h
    exact sE_idx h4 h3 (SEx a _ X B Ep _ S es tk h1) (SEx b _ X B Ep _ S es tk h2)
  | .slc _ _ _, sc, X, B, Ep, e, S, es, tk, h => by simp [ckE] at h
  | .rev _, sc, X, B, Ep, e, S, es, tk, h => by simp [ckE] at h
  | .call f ps, sc, X, B, Ep, e, S, es, tk, h => by
    unfold ckE at h
    split at h <;> try contradiction
    rename_i hh
    cases hh
    simp only [Bool.and_eq_true, decide_eq_true_eq] at h
    obtain ⟨⟨⟨rfl, h1⟩, h2⟩, h3⟩ := h
    exact sE_call S es tk h1 (ckA_star h2) (fun z => by subst z; cases ps <;> simp [ckA] at h2; rfl) (SAx ps _ X B Ep _ S es tk h2 h3)
  | .b1 f a, sc, X, B, Ep, e, S, es, tk, h => by
    unfold ckE at h
    split at h <;> try contradiction
    rename_i hh
    cases hh
    simp only [Bool.and_eq_true, decide_eq_true_eq] at h
    obtain ⟨⟨⟨rfl, h1⟩, h2⟩, h3⟩ := h
    exact sE_b1 S es h1 h2 (SEx a _ X B Ep _ S es tk h3)
  | .b2 f a b, sc, X, B, Ep, e, S, es, tk, h => by
    unfold ckE at h
    split at h <;> try contradiction
    rename_i hh
    cases hh
    simp only [Bool.and_eq_true, decide_eq_true_eq] at h
    obtain ⟨⟨⟨⟨⟨⟨rfl, h1⟩, h2⟩, h3⟩, h4⟩, h5⟩, h6⟩ := h
    exact sE_b2 S es h1 h2 h3 h6 (SEx a _ X B Ep _ S es tk h4) (SEx b _ X B Ep _ S es tk h5)
  | .m0 _ _, sc, X, B, Ep, e, S, es, tk, h => by simp [ckE] at h
  | .m1 m o a, sc, X, B, Ep, e, S, es, tk, h => by
    unfold ckE at h
    split at h <;> try contradiction
    rename_i hh
    cases hh
    simp only [Bool.and_eq_true, decide_eq_true_eq] at h
    obtain ⟨⟨⟨⟨⟨⟨rfl, h1⟩, h2⟩, h3⟩, h4⟩, h5⟩, h6⟩ := h
    exact sE_m1 h1 h2 h3 h6 (SEx o _ X B Ep _ S es tk h4) (SEx a _ X B Ep _ S es tk h5)
  | .pop i a, sc, X, B, Ep, e, S, es, tk, h => by
    unfold ckE at h
    split at h <;> try contradiction
    rename_i hh
    cases hh
    simp only [Bool.and_eq_true, decide_eq_true_eq] at h
    obtain ⟨⟨⟨rfl, h1⟩, h2⟩, h3⟩ := h
    split at h3
    · split at h3 <;> try contradiction
      exact sE_pop0 S es h1 h2
    · simp only [Bool.and_eq_true] at h3
      obtain ⟨⟨h4, h5⟩, h6⟩ := h3
      exact sE_pop1 S es h1 h2 h4 (nf h6) (fun z => by subst z; simp [ckE] at h5) (fun _ _ _ => trivial) (SEx a _ X B Ep _ S es tk h5)
    · contradiction
  | .lc tg elt it c, sc, X, B, Ep, e, S, es, tk, h => by
    unfold ckE at h
    split at h <;> try contradiction
    rename_i hh
    cases hh
    simp only [Bool.and_eq_true, decide_eq_true_eq] at h
    obtain ⟨⟨⟨⟨⟨h1, h2⟩, h3⟩, h4⟩, h5⟩, h6⟩ := h
    unfold tgOk at h3
    split at h3 <;> try contradiction
    simp only [Bool.and_eq_true, decide_eq_true_eq] at h3
    obtain ⟨h7, h8⟩ := h3
    rename_i i tx tp
    simp only [Tg.ix, ownOf] at h2
    rw [List.getD_eq_getElem?_getD, h7] at h2
    have hb := h2
    have hi := SIx it _ X B Ep _ (.Name tx tp) S es tk h1
    refine sE_lc S (lc_ok S es hi.2 rfl h7 h8 hb (nf h5) hi.1 (fun X' S' es' B' => ?_) fun X' S' es' B' => SEx elt _ X' B' NoX _ S' es' takesN h4)
    split at h6
    · split at h6 <;> try contradiction
      refine ⟨fun pins s σ H Q I ⟨G, env, fp, Qp, R, w, po⟩ => pts_nil.run pins s σ H Q I ?_⟩
      simp only [wT] at w
      exact po true env G H (.rfl R) (fun _ => Hx.rfl) w
    · exact pts_one (STx c _ X' B' NoX _ S' es' takesN h6).1
    · contradiction
  | .fld _ _, sc, X, B, Ep, e, S, es, tk, h => by simp [ckE] at h
  | .fst _, sc, X, B, Ep, e, S, es, tk, h => by simp [ckE] at h
theorem STx : ∀ (p : Ex) (sc : Scope) (X : Cx) (B : Bs) (Ep : Xn → En → Prop) (e : Expr), SX Γ k N X → X.env.scope = sc → Takes X (WXn X.K B Ep) → ckT N sc p e = true → TP X e (tDT X.K B Γ p Ep)
  | .not a, sc, X, B, Ep, e, S, es, tk, h => by
    unfold ckT at h
    split at h <;> try contradiction
    rename_i hh
    cases hh
    exact ⟨sT_not (STx a _ X B Ep _ S es tk h).1, fun _ _ _ z => by cases z⟩
  | .and a b, sc, X, B, Ep, e, S, es, tk, h => by
    unfold ckT at h
    split at h <;> try contradiction
    rename_i hh
    cases hh
    simp only [Bool.and_eq_true] at h
    obtain ⟨h1, h4⟩ := h
    refine (fun (this : PW X _ _) => (⟨this.pt, fun _ _ _ _ => this⟩ : TP X _ _)) (sT_and (STx a _ X B Ep _ S es tk h1).1 ?_)
    split at h4
    · exact pw_and1 (STx b _ X B Ep _ S es tk h4).1
    · exact (STx b _ X B Ep _ S es tk h4).2 _ _ _ rfl
  | .or a b, sc, X, B, Ep, e, S, es, tk, h => by
    unfold ckT at h
    split at h <;> try contradiction
    rename_i hh
    cases hh
    simp only [Bool.and_eq_true] at h
    obtain ⟨h1, h4⟩ := h
    refine (fun (this : PW X _ _) => (⟨this.pt, fun _ _ _ _ => this⟩ : TP X _ _)) (sT_or (STx a _ X B Ep _ S es tk h1).1 ?_)
    split at h4
    · exact pw_or1 (STx b _ X B Ep _ S es tk h4).1
    · exact (STx b _ X B Ep _ S es tk h4).2 _ _ _ rfl
  | .cmp op a b, sc, X, B, Ep, e, S, es, tk, h => by
    unfold ckT at h
    split at h <;> try contradiction
    rename_i hh
    cases hh
    simp only [Bool.and_eq_true, decide_eq_true_eq] at h
    obtain ⟨⟨⟨⟨rfl, h1⟩, h2⟩, h3⟩, h4⟩ := h
    exact ⟨sT_cmp S h4 h1 (SEx a _ X B Ep _ S es tk h2) (SEx b _ X B Ep _ S es tk h3), fun _ _ _ z => by cases z⟩
  | .chn o1 o2 a b c, sc, X, B, Ep, e, S, es, tk, h => by
    unfold ckT at h
    split at h <;> try contradiction
    rename_i hh
    cases hh
    simp only [Bool.and_eq_true, decide_eq_true_eq] at h
    obtain ⟨⟨⟨⟨⟨⟨⟨⟨rfl, rfl⟩, h1⟩, h2⟩, h3⟩, h4⟩, h5⟩, h6⟩, h7⟩ := h
    exact ⟨sT_chn S h6 h7 h1 h2 (SEx a _ X B Ep _ S es tk h3) (SEx b _ X B Ep _ S es tk h4) (SEx c _ X B Ep _ S es tk h5), fun _ _ _ z => by cases z⟩
  | .var i, sc, X, B, Ep, e, S, es, tk, h => by
    unfold ckT at h
    split at h <;> try contradiction
    rename_i hh
    cases hh
    exact ⟨sT_var S es h, fun _ _ _ z => by cases z⟩
  | .call f ps, sc, X, B, Ep, e, S, es, tk, h => by
    unfold ckT at h
    split at h <;> try contradiction
    rename_i hh
    cases hh
    simp only [Bool.and_eq_true, decide_eq_true_eq] at h
    obtain ⟨⟨⟨rfl, h1⟩, h2⟩, h3⟩ := h
    exact ⟨sT_val rfl (fun env Q E w => by simpa only [wT] using w) (sE_call S es tk h1 (ckA_star h2) (fun z => by subst z; cases ps <;> simp [ckA] at h2; rfl) (SAx ps _ X B Ep _ S es tk h2 h3)), fun _ _ _ z => by cases z⟩
  | .b1 f a, sc, X, B, Ep, e, S, es, tk, h => by
    unfold ckT at h
    split at h <;> try contradiction
    rename_i hh
    cases hh
    simp only [Bool.and_eq_true, decide_eq_true_eq] at h
    obtain ⟨⟨⟨rfl, h1⟩, h2⟩, h3⟩ := h
    exact ⟨sT_val rfl (fun env Q E w => by simpa only [wT] using w) (sE_b1 S es h1 h2 (SEx a _ X B Ep _ S es tk h3)), fun _ _ _ z => by cases z⟩
  | .b2 f a b, sc, X, B, Ep, e, S, es, tk, h => by
    unfold ckT at h
    split at h <;> try contradiction
    rename_i hh
    cases hh
    simp only [Bool.and_eq_true, decide_eq_true_eq] at h
    obtain ⟨⟨⟨⟨⟨⟨rfl, h1⟩, h2⟩, h3⟩, h4⟩, h5⟩, h6⟩ := h
    exact ⟨sT_val rfl (fun env Q E w => by simpa only [wT] using w) (sE_b2 S es h1 h2 h3 h6 (SEx a _ X B Ep _ S es tk h4) (SEx b _ X B Ep _ S es tk h5)), fun _ _ _ z => by cases z⟩
  | .idx a b, sc, X, B, Ep, e, S, es, tk, h => by
    unfold ckT at h
    split at h <;> try contradiction
    rename_i hh
    cases hh
    simp only [Bool.and_eq_true, decide_eq_true_eq] at h
    obtain ⟨⟨⟨h1, h2⟩, h3⟩, h4⟩ := h
    exact ⟨sT_val rfl (fun env Q E w => by simpa only [wT] using w) (sE_idx h4 h3 (SEx a _ X B Ep _ S es tk h1) (SEx b _ X B Ep _ S es tk h2)), fun _ _ _ z => by cases z⟩
  | .abs, _, _, _, _, _, _, _, _, h | .con _, _, _, _, _, _, _, _, _, h | .rd _, _, _, _, _, _, _, _, _, h | .mu _, _, _, _, _, _, _, _, _, h | .glb _, _, _, _, _, _, _, _, _, h | .bty _, _, _, _, _, _, _, _, _, h | .bin _ _ _, _, _, _, _, _, _, _, _, h | .neg _, _, _, _, _, _, _, _, _, h
  | .ite _ _ _, _, _, _, _, _, _, _, _, h | .tup _, _, _, _, _, _, _, _, _, h | .lst _, _, _, _, _, _, _, _, _, h | .dct _ _, _, _, _, _, _, _, _, _, h | .slc _ _ _, _, _, _, _, _, _, _, _, h | .rev _, _, _, _, _, _, _, _, _, h
  | .m0 _ _, _, _, _, _, _, _, _, _, h | .m1 _ _ _, _, _, _, _, _, _, _, _, h | .pop _ _, _, _, _, _, _, _, _, _, h | .lc _ _ _ _, _, _, _, _, _, _, _, _, h | .fld _ _, _, _, _, _, _, _, _, _, h | .fst _, _, _, _, _, _, _, _, _, h => by simp [ckT] at h
theorem SAx : ∀ (p : Exs) (sc : Scope) (X : Cx) (B : Bs) (Ep : Xn → En → Prop) (e : List Expr), SX Γ k N X → X.env.scope = sc → Takes X (WXn X.K B Ep) → ckA N sc p e = true → p.noRd = true → PA X e (tDA X.K B Γ p Ep)
  | .nil, sc, X, B, Ep, e, S, es, tk, h, hr => by
    cases e <;> simp only [ckA, Bool.false_eq_true] at h
    exact sA_nil
  | .cons a r, sc, X, B, Ep, e, S, es, tk, h, hr => by
    cases e <;> simp only [ckA, Bool.false_eq_true, Bool.and_eq_true] at h
    simp only [Exs.noRd, Bool.and_eq_true] at hr
    by_cases hm : ∃ i, a = .mu i
    · obtain ⟨i, rfl⟩ := hm
      rename_i x xs
      have h2 := h.1.2
      cases x <;> simp only [ckE, Bool.false_eq_true] at h2
      exact sA_mu S es h2 (SAx r _ X B Ep _ S es tk h.2 hr.2)
    · exact sA_cons (fun i z => hm ⟨i, z⟩) (nf hr.1) h.1.1 (SEx a _ X B Ep _ S es tk h.1.2) (SAx r _ X B Ep _ S es tk h.2 hr.2)
theorem SIx : ∀ (p : Itr) (sc : Scope) (X : Cx) (B : Bs) (Ep : Xn → En → Prop) (e tg : Expr), SX Γ k N X → X.env.scope = sc → Takes X (WXn X.K B Ep) → ckI N sc p e = true → PI X tg e (tDI X.K B Γ p Ep) ∧ ∀ y, foldedSetIterable e X.env y = pure y
  | .seq a, sc, X, B, Ep, e, tg, S, es, tk, h => by
    simp only [ckI, Bool.and_eq_true] at h
    exact ⟨sI_seq (nf h.2) (SEx a _ X B Ep _ S es tk h.1.2), fold_plain h.1.1 _⟩
  | .rng1 a, sc, X, B, Ep, e, tg, S, es, tk, h => by
    unfold ckI at h
    split at h <;> try contradiction
    rename_i hh
    cases hh
    simp only [Bool.and_eq_true, decide_eq_true_eq] at h
    obtain ⟨⟨⟨⟨rfl, h1⟩, h2⟩, h3⟩, h4⟩ := h
    exact ⟨sI_rng1 S es h1 h2 (nf h4) (SEx a _ X B Ep _ S es tk h3), fold_plain rfl _⟩
  | .rng2 a b, sc, X, B, Ep, e, tg, S, es, tk, h => by
    unfold ckI at h
    split at h <;> try contradiction
    rename_i hh
    cases hh
    simp only [Bool.and_eq_true, decide_eq_true_eq] at h
    obtain ⟨⟨⟨⟨⟨⟨⟨rfl, h1⟩, h2⟩, h3⟩, h4⟩, h5⟩, h6⟩, h7⟩ := h
    exact ⟨sI_rng2 S es h1 h2 h3 (nf h6) (nf h7) (SEx a _ X B Ep _ S es tk h4) (SEx b _ X B Ep _ S es tk h5), fold_plain rfl _⟩
  | .rng3 _ _ _, sc, X, B, Ep, e, tg, S, es, tk, h => by simp [ckI] at h
  | .enm _, sc, X, B, Ep, e, tg, S, es, tk, h => by simp [ckI] at h
  | .zip _ _, sc, X, B, Ep, e, tg, S, es, tk, h => by simp [ckI] at h
  | .items _, sc, X, B, Ep, e, tg, S, es, tk, h => by simp [ckI] at h
end
end
end Pl

/-! Pl: statements -/
namespace Pl
open PySem PySem.Spec L2
structure Ends' where
  nx : En → Prop
  rt : AV → En → Prop
  bk : En → Prop
  ct : En → Prop
/-- what makes a new list of one's own -/
def freshE : Ex → Bool
  | .lst _ => true
  | .lc _ _ _ _ => true
  | .b1 .list _ => true
  | .bin .Add _ _ => true
  | .bin .Mult _ _ => true
  | _ => false
def wWh (c : En → (Bool → En → Prop) → Prop) (b : En → (En → Prop) → Prop) (nx : En → Prop) : Nat → En → Prop
  | 0, _ => False
  | n + 1, env => c env fun t e1 => if t = true then b e1 (wWh c b nx n) else nx e1
def wFr (g : D → En → (En → Prop) → Prop) (b : En → (En → Prop) → Prop) (nx : En → Prop) : List D → En → Prop
  | [], env => nx env
  | x :: r, env => g x env fun e1 => b e1 (wFr g b nx r)
def wSet (i : Nat) (k d : D) (env : En) (Q : En → Prop) : Prop := match env[i]?, k with
  | some (Sl.own m (.lst ds)), .int j => ∃ n, ixN ds.length j = some n ∧ Q (env.set i (.own m (.lst (ds.set n d))))
  | _, _ => False
def wApp (i : Nat) (d : D) (env : En) (Q : En → Prop) : Prop := match env[i]? with
  | some (Sl.own m (.lst ds)) => ds.length < sizeLine ∧ Q (env.set i (.own m (.lst (ds ++ [d]))))
  | _ => False
def wAug (op : Operator) (a b : D) (Q : D → Prop) : Prop := match op, a, b with
  | .Add, .int i, .int j => Q (.int (i + j))
  | .Sub, .int i, .int j => Q (.int (i - j))
  | _, _, _ => False
/-- the clauses, from the first; each gives back a constant -/
def wHd (Γ : Gam) : List (String × D) → Xn → En → Ends' → (Xn → En → Prop) → Prop
  | [], x, e, _, E => E x e
  | (c, d) :: r, x, e, De, E => ∃ t, Γ.ex.sub x.cls c = some t ∧ if t = true then De.rt (.val d) e else wHd Γ r x e De E
mutual
def wS (Γ : Gam) : Stm → En → Ends' → (Xn → En → Prop) → Prop
  | .asg i e, env, D, E => wE Γ e env (fun d e1 => D.nx (e1.set i (.val d))) E
  | .asgF i e, env, D, E => wE Γ e env (fun d e1 => ∃ ds, d = .lst ds ∧ D.nx (e1.set i (.own true (.lst ds)))) E
  | .asgC i f es, env, D, E => ∃ c, Γ.fn f = some c ∧ wA Γ es env (fun as e1 => wCallF c as e1 (fun ds e2 => D.nx (e2.set i (.own true (.lst ds)))) E) E
  | .asgT is e, env, D, E => wE Γ e env (fun d e1 => ∃ ds e2, d = .tup ds ∧ setNs e1 is ds = some e2 ∧ D.nx e2) E
  | .asgP is es, env, D, E => wA Γ es env (fun as e1 => ∃ ds e2, apds as = some ds ∧ setNs e1 is ds = some e2 ∧ D.nx e2) E
  | .setI i ix e, env, D, E => wE Γ e env (fun d e1 => (∃ m ds, e1[i]? = some (Sl.own m (.lst ds))) ∧ wE Γ ix e1 (fun k e2 => wSet i k d e2 D.nx) E) E
  | .exp e, env, D, E => wE Γ e env (fun _ e1 => D.nx e1) E
  | .app i e, env, D, E => (∃ m ds, env[i]? = some (Sl.own m (.lst ds))) ∧ wE Γ e env (fun d e1 => wApp i d e1 D.nx) E
  | .ext _ _, _, _, _ => False
  | .aug i op e, env, D, E => ∃ a, env[i]? = some (Sl.val a) ∧ wE Γ e env (fun d e1 => wAug op a d fun z => D.nx (e1.set i (.val z))) E
  | .ret e, env, D, E => wE Γ e env (fun d e1 => D.rt (.val d) e1) E
  | .retF e, env, D, E => wE Γ e env (fun d e1 => ∃ ds, d = .lst ds ∧ D.rt (.own (.lst ds)) e1) E
  | .retN, env, D, _ => D.rt (.val .non) env
  | .ifS c a b, env, D, E => wT Γ c env (fun t e1 => if t = true then wSs Γ a e1 D E else wSs Γ b e1 D E) E
  | .whl c b, env, D, E => ∃ n, wWh (fun e Q => wT Γ c e Q E) (fun e nx => wSs Γ b e { D with nx := nx, ct := nx, bk := D.nx } E) D.nx n env
  | .forS tg it b, env, D, E => wI Γ it env (fun xs e1 => wFr (wTg tg) (fun e nx => wSs Γ b e { D with nx := nx, ct := nx, bk := D.nx } E) D.nx xs e1) E
  | .rse c .abs, env, _, E => Γ.ex.cls c = some none ∧ E ⟨c, [], []⟩ env
  | .rse _ _, _, _, _ => False
  | .trC b hs, env, D, E => (hs.all fun c => (Γ.ex.sub c.1 c.1).isSome) = true ∧ wSs Γ b env D (fun x e => wHd Γ hs x e D E)
  | .pass, env, D, _ => D.nx env
  | .brk, env, D, _ => D.bk env
  | .cnt, env, D, _ => D.ct env
def wSs (Γ : Gam) : Stms → En → Ends' → (Xn → En → Prop) → Prop
  | .nil, env, D, _ => D.nx env
  | .cons s r, env, D, E => wS Γ s env { D with nx := fun e => wSs Γ r e D E } E
end
/-! ### the look -/
def noComp : Expr → Bool
  | .ListComp _ _ _ _ => false
  | .SetComp _ _ _ _ => false
  | .DictComp _ _ _ _ _ => false
  | _ => true
def noTup : Expr → Bool
  | .Tuple _ _ _ => false
  | _ => true
/-- a comprehension's list goes to a name by a road of its own -/
def swapL (sc scope : Scope) (x : Str) (p pos : Pos) : Bool := decide (sc.names.lookup x = some .local) && (p.line == pos.line) && !(scope.names.any fun (n, k) => n == x && (k == .local || k == .cell))
def locOk (N : List Str) (sc : Scope) (i : Nat) (x : Str) : Bool := decide (N[i]? = some x) && decide (sc.names.lookup x = some .local ∨ sc.names.lookup x = some .cell)
def tgsOk (N : List Str) (sc : Scope) : List Nat → List Expr → Bool
  | [], [] => true
  | i :: is, .Name x _ :: xs => locOk N sc i x && tgsOk N sc is xs
  | _, _ => false
def parOk (sc : Scope) (xs : List Expr) (vs : List Expr) : Bool := match xs, vs with
  | [.Name x px, .Name y py], [a, b] => decide (sc.names.lookup x = some .local) && decide (sc.names.lookup y = some .local) && (py.line == px.line) && (x != y) && noStar a && noStar b &&
      !([a, b].all (foldedForSure 8)) && !([a, b].all (constantsAlone 8))
  | _, _ => false
/-- the clauses' look -/
def ckH (sc : Scope) : List (String × D) → List ExceptHandler → Bool
  | [], [] => true
  | (c, d) :: r, .ExceptHandler (some (.Name x _)) none [.Return (some (.Constant v _ _)) _] _ :: t => decide (x = (c : Str)) && glOk sc x && cst d v && ckH sc r t
  | _, _ => false
def ckAsg (sc : Scope) (x : Str) (p : Pos) : Expr → Bool
  | .ListComp _ _ scope pos => true
  | e => noComp e
mutual
def ckS (N : List Str) (sc : Scope) : Stm → Stmt → Bool
  | .asg i e, .Assign [.Name x p] v _ => locOk N sc i x && ckE N sc e v && !e.isRd && ckAsg sc x p v
  | .asgF i e, .Assign [.Name x p] v _ => locOk N sc i x && ckE N sc e v && freshE e && ckAsg sc x p v
  | .asgC i f es, .Assign [.Name x p] (.Call (.Name y _) xs [] _) _ => locOk N sc i x && decide (y = (f : Str)) && glOk sc y && ckA N sc es xs && es.noRd
  | .asgT is e, .Assign [.Tuple xs _ _] v _ => tgsOk N sc is xs && ckE N sc e v && !e.isRd && noComp v && noTup v
  | .setI i ix e, .Assign [.Subscript (.Name x _) y _] v _ => nameOk N sc i x && ckE N sc e v && !e.isRd && noComp v && ckE N sc ix y && noSlice y && !ix.isRd
  | .exp e, .Expr v _ => ckE N sc e v && noComp v
  | .app i e, .Expr (.Call (.Attribute (.Name x _) m apos) [y] [] pos) _ => decide (m = ("append" : Str)) && nameOk N sc i x && oneLine apos pos && noStar y && ckE N sc e y && !e.isRd
  | .aug i op e, .AugAssign (.Name x _) o v _ => decide (op = o) && locOk N sc i x && ckE N sc e v && !e.isRd && (op == .Add || op == .Sub)
  | .ret e, .Return (some v) _ => ckE N sc e v && !e.isRd
  | .retF e, .Return (some v) _ => ckE N sc e v && freshE e
  | .retN, .Return none _ => true
  | .ifS c a b, .If t x y _ => ckT N sc c t && ckSs N sc a x && ckSs N sc b y
  | .whl c b, .While t x [] _ => ckT N sc c t && ckSs N sc b x
  | .forS (.one i) it b, .For (.Name x _) v y [] _ => locOk N sc i x && ckI N sc it v && ckSs N sc b y
  | .forS (.row is) it b, .For (.Tuple xs _ _) v y [] _ => tgsOk N sc is xs && ckI N sc it v && ckSs N sc b y
  | .asgP is es, .Assign [.Tuple xs _ _] (.Tuple vs _ _) _ => tgsOk N sc is xs && parOk sc xs vs && ckA N sc es vs && es.noRd
  | .rse c .abs, .Raise (some (.Call (.Name x _) [.Constant (.str _) _ _] [] _)) none _ => decide (x = (c : Str)) && glOk sc x
  | .trC b hs, .Try x (h :: t) [] [] _ => ckSs N sc b x && ckH sc hs (h :: t)
  | .pass, .Pass _ => true
  | .brk, .Break _ => true
  | .cnt, .Continue _ => true
  | _, _ => false
def ckSs (N : List Str) (sc : Scope) : Stms → List Stmt → Bool
  | .nil, [] => true
  | .cons s r, x :: xs => ckS N sc s x && ckSs N sc r xs
  | _, _ => false
end
end Pl

/-! Pl: statements do what their condition says -/
namespace Pl
open PySem PySem.Spec L2
structure Lk (K : PySem.W.Frag) (B : Bs) (G : Hp) (De : Ends') (D : Ends) : Prop where
  nx : ∀ env' σ' G' H' fp', ER K B G' H' σ' env' fp' → Hx G G' → De.nx env' → D.nx σ' H'
  rt : ∀ d env' σ' G' H' v fp', ER K B G' H' σ' env' fp' → Hx G G' → Rep K G' v d → De.rt (.val d) env' → D.rt v H'
  ro : ∀ o env' σ' G' H' p l fp', ER K B G' H' σ' env' fp' → Hx G G' → ORep K G' H' p l o → (∀ a ∈ l, G' a = none ∧ B.H0 a = none) → De.rt (.own o) env' → D.rt (.ref p) H'
  bk : ∀ env' σ' G' H' fp', ER K B G' H' σ' env' fp' → Hx G G' → De.bk env' → D.bk σ' H'
  ct : ∀ env' σ' G' H' fp', ER K B G' H' σ' env' fp' → Hx G G' → De.ct env' → D.ct σ' H'
theorem Lk.from {K : PySem.W.Frag} {B : Bs} {G G1 : Hp} {De : Ends'} {D : Ends} (l : Lk K B G De D) (g : Hx G G1) : Lk K B G1 De D :=
  ⟨fun e σ G' H' fp R h => l.nx e σ G' H' fp R (g.trans h), fun d e σ G' H' v fp R h => l.rt d e σ G' H' v fp R (g.trans h), fun o e σ G' H' p q fp R h => l.ro o e σ G' H' p q fp R (g.trans h), fun e σ G' H' fp R h => l.bk e σ G' H' fp R (g.trans h), fun e σ G' H' fp R h => l.ct e σ G' H' fp R (g.trans h)⟩
def tDS (K : PySem.W.Frag) (B : Bs) (Γ : Gam) (p : Stm) (Ep : Xn → En → Prop) : TS := fun D σ H => ∃ G env fp De, ER K B G H σ env fp ∧ wS Γ p env De Ep ∧ Lk K B G De D
def tDSs (K : PySem.W.Frag) (B : Bs) (Γ : Gam) (p : Stms) (Ep : Xn → En → Prop) : TS := fun D σ H => ∃ G env fp De, ER K B G H σ env fp ∧ wSs Γ p env De Ep ∧ Lk K B G De D
theorem wkS {X : Cx} {e : Stmt} {t t' : TS} (h : PS X e t) (i : ∀ D σ H, t' D σ H → t D σ H) : PS X e t' := ⟨fun pins s σ H D I q => h.run pins s σ H D I (i _ _ _ q)⟩
theorem wkSs {X : Cx} {e : List Stmt} {t t' : TS} (h : PSs X e t) (i : ∀ D σ H, t' D σ H → t D σ H) : PSs X e t' := ⟨fun pins s σ H D I q => h.run pins s σ H D I (i _ _ _ q)⟩
structure SB (Γ : Gam) (k : Nat) (N : List Str) (sc : Scope) (B : Bs) (Ep : Xn → En → Prop) (X : Cx) : Prop where
  s : SX Γ k N X
  es : X.env.scope = sc
  fnt : ∀ x, X.fn x = true
  kd : sc.kind = .function
  po : PassesOwn (model X.prog X.w) X.A X.env X.xe
  tk : Takes X (WXn X.K B Ep)
  st : X.stack = X.env :: X.outer
  fr : X.env.frame = some X.env.locals
section
variable {Γ : Gam} {k : Nat} {N : List Str} {X : Cx} {B : Bs} {Ep : Xn → En → Prop} {sc : Scope}
theorem SB.ex (S : SB Γ k N sc B Ep X) {p : Ex} {e : Expr} (h : ckE N sc p e = true) : PE X e (tD X.K B Γ p Ep) := SEx p sc X B Ep e S.s S.es S.tk h
theorem SB.tx (S : SB Γ k N sc B Ep X) {p : Ex} {e : Expr} (h : ckT N sc p e = true) : PT X e (tDT X.K B Γ p Ep) := (STx p sc X B Ep e S.s S.es S.tk h).1
theorem sw_no {e : Expr} (h : noComp e = true) (t : Option Expr) (l : Nat) (env : PySem.Env) : swapsWith e t l env = pure false := by
  cases e <;> first | rfl | cases h
theorem loc_of {i : Nat} {x : Str} (h : locOk N sc i x = true) : N[i]? = some x ∧ L2.Loc sc x := by
  unfold locOk at h
  simp only [Bool.and_eq_true, decide_eq_true_eq] at h
  exact h
/-- e is stored at the name x -/
theorem set_any (S : SB Γ k N sc B Ep X) {i : Nat} {x : Str} {p pos : Pos} {e : Expr} {te : TE} (hl : locOk N sc i x = true) (hc : noComp e = true) (he : PE X e te) : PS X (.Assign [.Name x p] e pos) (tAsg te (gName i)) := by
  obtain ⟨h1, h2⟩ := loc_of hl
  exact ps_set S.s.nd (by rw [S.s.n]; exact h1) (by rw [S.es]; exact h2) he (sw_no hc _ _ _) (.inl (S.fnt x))
theorem sw_lc (S : SB Γ k N sc B Ep X) {e : Expr} {gs : List Comprehension} {scope : Scope} {pos p : Pos} {x : Str} {l : Nat} : swapsWith (.ListComp e gs scope pos) (some (.Name x p)) l X.env = pure (swapL sc scope x p pos) := by
  have hk : X.env.scope.kind = .function := by rw [S.es]; exact S.kd
  have hb : X.env.blockKind = .function := by unfold Env.blockKind; rw [hk]; rfl
  unfold swapsWith swapL
  dsimp only
  rw [hb]
  show (pure _ : Sem Bool) = _
  congr 1
  rw [show X.env.kindOf x = sc.names.lookup x by rw [← S.es]; rfl]
  show ((_ && (List.lookup x sc.names == some NameKind.local)) && _ && _) = _
  congr 2
  rw [show (ScopeKind.function == ScopeKind.function) = true from by decide, Bool.true_and, Bool.beq_eq_decide_eq]
theorem set_lc (S : SB Γ k N sc B Ep X) {i j : Nat} {elt c : Ex} {it : Itr} {e t y : Expr} {ifs : List Expr} {scope : Scope} {pos p pos2 : Pos} {x : Str} (hl : locOk N sc i x = true) (L : LcOk Γ k N X B Ep sc j elt c it e t y ifs scope) :
    PS X (.Assign [.Name x p] (.ListComp e [⟨t, y, ifs, 0⟩] scope pos) pos2) (tAsg (tLc (tDI X.K B Γ it Ep) (gName j) (tDTx X.K Γ c) (tDx X.K Γ elt) [j]) (gName i)) := by
  obtain ⟨h1, h2⟩ := loc_of hl
  have hw := sw_lc S (e := e) (gs := [⟨t, y, ifs, 0⟩]) (scope := scope) (pos := pos) (p := p) (x := x) (l := pos2.line)
  cases hb : swapL sc scope x p pos with
  | true =>
    rw [hb] at hw
    have hx : sc.names.lookup x = some .local := by
      unfold swapL at hb
      simp only [Bool.and_eq_true, decide_eq_true_eq] at hb
      exact hb.1.1
    exact ps_setLc S.s.calm S.s.nd (by rw [S.s.n]; exact h1) (by rw [S.es]; exact hx) hw L.hi L.ok L.hg L.ht L.he L.hs
  | false =>
    rw [hb] at hw
    exact ps_set S.s.nd (by rw [S.s.n]; exact h1) (by rw [S.es]; exact h2) (pe_lc S.s.calm S.s.nd L.hi L.ok L.hg L.ht L.he L.hs) hw (.inl (S.fnt x))
/-- the parts of a comprehension that passes the look -/
theorem lc_parts (S : SB Γ k N sc B Ep X) {tg : Tg} {elt c : Ex} {it : Itr} {v : Expr} (h : ckE N sc (.lc tg elt it c) v = true) : ∃ j e t y ifs scope pos, tg = .one j ∧ v = .ListComp e [⟨t, y, ifs, 0⟩] scope pos ∧ LcOk Γ k N X B Ep sc j elt c it e t y ifs scope := by
  unfold ckE at h
  split at h <;> try contradiction
  rename_i hh
  cases hh
  simp only [Bool.and_eq_true, decide_eq_true_eq] at h
  obtain ⟨⟨⟨⟨⟨h1, h2⟩, h3⟩, h4⟩, h5⟩, h6⟩ := h
  unfold tgOk at h3
  split at h3 <;> try contradiction
  simp only [Bool.and_eq_true, decide_eq_true_eq] at h3
  obtain ⟨h7, h8⟩ := h3
  rename_i i tx tp
  simp only [Tg.ix, ownOf] at h2
  rw [List.getD_eq_getElem?_getD, h7] at h2
  have hb := h2
  have hi := SIx it _ X B Ep _ (.Name tx tp) S.s S.es S.tk h1
  refine ⟨_, _, _, _, _, _, _, rfl, rfl, lc_ok S.s S.es hi.2 rfl h7 h8 hb (nf h5) hi.1 (fun X' S' es' B' => ?_) fun X' S' es' B' => SEx elt _ X' B' NoX _ S' es' takesN h4⟩
  split at h6
  · split at h6 <;> try contradiction
    refine ⟨fun pins s σ H Q I ⟨G, env, fp, Qp, R, w, po⟩ => pts_nil.run pins s σ H Q I ?_⟩
    simp only [wT] at w
    exact po true env G H (.rfl R) (fun _ => Hx.rfl) w
  · exact pts_one (STx c _ X' B' NoX _ S' es' takesN h6).1
  · contradiction
/-- x = e, e data -/
theorem sS_asg (S : SB Γ k N sc B Ep X) {i : Nat} {e : Ex} {x : Str} {p pos : Pos} {v : Expr} (hl : locOk N sc i x = true) (h : ckE N sc e v = true) (nr : e.isRd = false) (ha : ckAsg sc x p v = true) : PS X (.Assign [.Name x p] v pos) (tDS X.K B Γ (.asg i e) Ep) := by
  by_cases hv : ∃ tg elt it c, e = .lc tg elt it c
  · obtain ⟨tg, elt, it, c, rfl⟩ := hv
    obtain ⟨j, e', t, y, ifs, scope, pos', rfl, rfl, L⟩ := lc_parts S h
    refine wkS (set_lc S hl L) fun D σ H ⟨G, env, fp, De, R, w, lk⟩ => ?_
    simp only [wS] at w
    refine lc_read (tg := t) L.nr R w ?_
    intro ys env' Dl acc G' H' st g h r b nd q
    have hn : Hx G' (upd G' Dl (.lst acc)) := Hx.new g
    exact lk.nx _ _ _ _ _ ((st.r.fix g h b nd).setV (.lst upd_same (r.mono hn))) (st.g.trans hn) q
  · have hc : noComp v = true := by
      cases v <;> first | rfl | skip
      · exfalso
        cases e <;> first | exact hv ⟨_, _, _, _, rfl⟩ | (simp [ckE] at h)
      · exact ha
      · exact ha
    refine wkS (set_any S hl hc (S.ex h)) fun D σ H ⟨G, env, fp, De, R, w, lk⟩ => ?_
    simp only [wS] at w
    refine ⟨G, env, fp, _, R, w, ?_⟩
    intro d e1 v1 G1 H1 st t n s q
    exact lk.nx _ _ _ _ _ (st.r.setV (n nr)) st.g q
/-- what a new list's maker leaves: the cell q, fixed nowhere, owned by nobody -/
def PoF (K : PySem.W.Frag) (B : Bs) (fp : Nat → List Addr) (G H : Hp) (σ : L2.St) (env : En) (Q : VK) (Qp : D → En → Prop) : Prop := ∀ ds env' q acc G' H', Stp K B fp σ G H env G' H' env' → G' q = none → H' q = some (.lst acc) → Reps K G' acc ds → B.H0 q = none →
  (∀ (j : Nat) (m : Bool) (o : O), env'[j]? = some (Sl.own m o) → q ∉ fp j) → Qp (.lst ds) env' → Q (.ref q) H'
def tDF (K : PySem.W.Frag) (B : Bs) (Γ : Gam) (p : Ex) (Ep : Xn → En → Prop) : TE := fun σ H Q => ∃ G env fp Qp, ER K B G H σ env fp ∧ wE Γ p env Qp Ep ∧ (∀ d e, Qp d e → ∃ ds, d = .lst ds) ∧ PoF K B fp G H σ env Q Qp
theorem fresh_nd {K : PySem.W.Frag} {G H : Hp} {σ : L2.St} {env : En} {fp : Nat → List Addr} (R : ER K B G H σ env fp) {p : Addr} (hp : H p = none) : ∀ (j : Nat) (m : Bool) (o : O), env[j]? = some (Sl.own m o) → p ∉ fp j := fun j m o hj hm => by
  obtain ⟨p', _, h3⟩ := R.own j m o hj
  obtain ⟨u, hu⟩ := h3.there p hm
  rw [hp] at hu; cases hu
theorem sF_lst {es : Exs} {xs : List Expr} {pos : Pos} (h : PA X xs (tDA X.K B Γ es Ep)) : PE X (.List xs pos) (tDF X.K B Γ (.lst es) Ep) := by
  refine wkE (pe_lst h) fun σ H Q ⟨G, env, fp, Qp, R, w, _, po⟩ => ?_
  simp only [wE] at w
  refine ⟨G, env, fp, _, R, w, ?_⟩
  intro as e2 vs G2 H2 st2 a2 s2 ⟨ds, e, hz, q⟩
  have r := a2.data e
  refine ⟨by rw [r.length]; exact hz, fun p hp => ?_⟩
  exact po ds e2 p vs G2 _ ⟨st2.r.more (Hx.new hp), st2.g, st2.o⟩ (st2.r.gnone hp) upd_same r (st2.r.new0 hp) (fresh_nd st2.r hp) q
theorem sF_list (S : SX Γ k N X) (es : X.env.scope = sc) {a : Ex} {y : Expr} {p pos : Pos} (hg : glOk sc B1.list.nm = true) (hs : noStar y = true) (ha : PE X y (tD X.K B Γ a Ep)) : PE X (.Call (.Name B1.list.nm p) [y] [] pos) (tDF X.K B Γ (.b1 .list a) Ep) := by
  obtain ⟨g1, g2⟩ := gl_of (X := X) hg es
  have pa : PA X [y] (tCons (tD X.K B Γ a Ep) tNil) := pa_cons ha pa_nil (star_of hs _ _)
  have cr : CallR X (.type "list") (fun xs H Q => (∃ p ys, xs = [.ref p] ∧ (SqL X.K H p ys ∨ SqT X.K H p ys) ∧ ∀ l, H l = none → Q (.ref l) (upd H l (.lst ys))) ∨
      ∃ z : Str, xs = [.str z] ∧ z.length ≤ sizeLine ∧ ∀ l, H l = none → Q (.ref l) (upd H l (.lst (z.cps.toList.map fun c => V.str ⟨#[c]⟩)))) := by
    intro pins s σ H xs us Q I r h
    rcases h with h | h
    · exact call_list_of pins s σ H xs us Q I r h
    · exact cr_listS S.calm pins s σ H xs us Q I r h
  refine wkE (pe_callTy (x := B1.list.nm) cr g1 (S.bt _ (nm_in1 _)) (B1.boot .list) pa (B1.nn .list) g2 (star_of hs _ _) rfl) fun σ H Q ⟨G, env, fp, Qp, R, w, _, po⟩ => ?_
  simp only [wE] at w
  refine ⟨G, env, fp, _, R, w, ?_⟩
  intro d1 e1 v1 G1 H1 st1 t1 n1 s1 w1
  show (_ ∨ _)
  have fresh : ∀ p, H1 p = none → ∀ vs : List V, ∀ ds : List Pl.D, Reps X.K G1 vs ds → Qp (.lst ds) e1 → Q (.ref p) (upd H1 p (.lst vs)) := fun p hp vs ds r q =>
    po ds e1 p vs G1 _ ⟨st1.r.more (Hx.new hp), st1.g, st1.o⟩ (st1.r.gnone hp) upd_same r (st1.r.new0 hp) (fresh_nd st1.r hp) q
  unfold wB1 at w1
  cases d1 <;> simp only at w1
  · obtain ⟨hz, q⟩ := w1
    refine .inr ⟨_, by rw [t1.str], hz, fun l hl' => fresh l hl' _ _ ?_ q⟩
    have reps : ∀ l : List Nat, Reps X.K G1 (l.map fun c => V.str ⟨#[c]⟩) (l.map fun c => Pl.D.str ⟨#[c]⟩) := by
      intro l
      induction l with
      | nil => exact .nil
      | cons c l ih => exact .cons (.str _) ih
    exact reps _
  · obtain ⟨a', vs, rfl, h4, _, q4⟩ := t1.tup st1.r.exG
    exact .inl ⟨_, _, rfl, .inr h4, fun l hl' => fresh l hl' _ _ q4 w1⟩
  · obtain ⟨a', vs, rfl, h4, q4⟩ := t1.lst st1.r.exG
    exact .inl ⟨_, _, rfl, .inl (.inl (.inl h4)), fun l hl' => fresh l hl' _ _ q4 w1⟩
theorem sF_lc {i : Nat} {elt c : Ex} {it : Itr} {e t x : Expr} {ifs : List Expr} {scope : Scope} {pos : Pos} (S : SX Γ k N X) (L : LcOk Γ k N X B Ep sc i elt c it e t x ifs scope) :
    PE X (.ListComp e [⟨t, x, ifs, 0⟩] scope pos) (tDF X.K B Γ (.lc (.one i) elt it c) Ep) := by
  refine wkE (pe_lc S.calm S.nd L.hi L.ok L.hg L.ht L.he L.hs) fun σ H Q ⟨G, env, fp, Qp, R, w, _, po⟩ => lc_read (tg := t) L.nr R w ?_
  intro ys env' Dl acc G' H' st g h r b nd q
  exact po ys env' Dl acc G' H' st g h r b nd q
/-- lists put together are a new one -/
def rNewL (K : PySem.W.Frag) (op : Operator) : R2 := fun x y H Q => ∃ G dx dy Qz, Hx G H ∧ RepT K G H x dx ∧ RepT K G H y dy ∧ wBin op dx dy Qz ∧ (∀ d, Qz d → ∃ ds, d = .lst ds) ∧ ∀ p vs ds, H p = none → Reps K G vs ds → Qz (.lst ds) → Q (.ref p) (upd H p (.lst vs))
theorem op_newL {X : Cx} {op : Operator} (ho : op = .Add ∨ op = .Mult) : OpR X (binaryOp op) (rNewL X.K op) := by
  intro pins s σ H x y v u Q I rx ry h
  obtain ⟨G, dx, dy, Qz, g, r1, r2, w, li, f⟩ := h
  rcases ho with rfl | rfl
  · cases dx <;> cases dy <;> simp only [wBin] at w
    · obtain ⟨ds, e⟩ := li _ w; cases e
    · obtain ⟨ds, e⟩ := li _ w.2; cases e
    · obtain ⟨ds, e⟩ := li _ w.2.2; cases e
    · obtain ⟨a, vs, rfl, h1, q1⟩ := r1.lst g
      obtain ⟨b, ws, rfl, h2, q2⟩ := r2.lst g
      exact op_cat pins s σ H _ _ v u Q I rx ry ⟨_, _, _, _, rfl, rfl, h1, h2, by rw [q1.length, q2.length]; exact w.1, fun p hp => f p _ _ hp (q1.append q2) w.2⟩
  · cases dx <;> cases dy <;> simp only [wBin] at w
    · obtain ⟨ds, e⟩ := li _ w.2; cases e
    · obtain ⟨ds, e⟩ := li _ w.2.2.2.2; cases e
    · obtain ⟨w1, w2, w3, w4⟩ := w
      obtain ⟨a, vs, rfl, h1, q1⟩ := r1.lst g
      exact op_rep pins s σ H _ _ v u Q I rx ry ⟨_, _, _, rfl, r2.int, h1, w1, w2, by rw [q1.length]; exact w3, fun p hp => f p _ _ hp (flatten_reps q1 _) w4⟩
theorem sF_bin {op : Operator} {a b : Ex} {l r : Expr} {pos : Pos} (ho : op = .Add ∨ op = .Mult) (ra : rdOk a b = true) (ha : PE X l (tD X.K B Γ a Ep)) (hb : PE X r (tD X.K B Γ b Ep)) : PE X (.BinOp l op r pos) (tDF X.K B Γ (.bin op a b) Ep) := by
  refine wkE (pe_op (op_newL ho) ha hb) ?_
  rintro σ H Q ⟨G, env, fp, Qp, R, w, li, po⟩
  simp only [wE] at w
  refine ⟨G, env, fp, _, R, w, ?_⟩
  intro d1 e1 v1 G1 H1 st1 t1 n1 s1 w1
  refine ⟨G1, e1, fp, _, st1.r, w1, ?_⟩
  intro d2 e2 v2 G2 H2 st2 t2 n2 s2 w2
  have g2 := st2.g
  have t1' : RepT X.K G2 H2 v1 d1 := by
    unfold rdOk at ra
    cases ha : a.isRd with
    | false => exact .inl ((n1 ha).mono g2)
    | true =>
      rw [ha] at ra
      exact t1.mono g2 (s2 (by simpa using ra))
  have st := st1.trans st2
  exact ⟨G2, d1, d2, _, st2.r.exG, t1', t2, w2, fun d q => li d e2 q, fun p vs ds hp r q => po ds e2 p vs G2 _ ⟨st.r.more (Hx.new hp), st.g, st.o⟩ (st.r.gnone hp) upd_same r (st.r.new0 hp) (fresh_nd st.r hp) q⟩
/-- whatever makes a new list -/
theorem SB.fresh (S : SB Γ k N sc B Ep X) {e : Ex} {v : Expr} (h : ckE N sc e v = true) (fr : freshE e = true) : PE X v (tDF X.K B Γ e Ep) := by
  cases e <;> simp only [freshE, Bool.false_eq_true] at fr
  · rename_i op a b
    have ho : op = .Add ∨ op = .Mult := by
      cases op <;> first | exact .inl rfl | exact .inr rfl | cases fr
    unfold ckE at h
    split at h <;> try contradiction
    rename_i hh
    cases hh
    simp only [Bool.and_eq_true, decide_eq_true_eq] at h
    obtain ⟨⟨⟨rfl, h1⟩, h2⟩, h3⟩ := h
    exact sF_bin ho h3 (S.ex h1) (S.ex h2)
  · cases v <;> simp only [ckE, Bool.false_eq_true, Bool.and_eq_true] at h
    exact sF_lst (SAx _ sc X B Ep _ S.s S.es S.tk h.1 h.2)
  · rename_i f a
    cases f <;> simp only [freshE, Bool.false_eq_true] at fr
    unfold ckE at h
    split at h <;> try contradiction
    rename_i hh
    cases hh
    simp only [Bool.and_eq_true, decide_eq_true_eq] at h
    obtain ⟨⟨⟨rfl, h1⟩, h2⟩, h3⟩ := h
    exact sF_list S.s S.es h1 h2 (S.ex h3)
  · obtain ⟨j, e', t, y, ifs, scope, pos', rfl, rfl, L⟩ := lc_parts S h
    exact sF_lc S.s L
/-- x = e, a new list of one's own -/
theorem sS_asgF (S : SB Γ k N sc B Ep X) {i : Nat} {e : Ex} {x : Str} {p pos : Pos} {v : Expr} (hl : locOk N sc i x = true) (h : ckE N sc e v = true) (fr : freshE e = true) (ha : ckAsg sc x p v = true) : PS X (.Assign [.Name x p] v pos) (tDS X.K B Γ (.asgF i e) Ep) := by
  have key : ∀ {De : Ends'} {D : Ends} {fp : Nat → List Addr} {σ : L2.St} {G G' H' : Hp} {env' : En} {q : Addr} {acc : List V} {ds : List Pl.D}, Lk X.K B G De D → Hx G G' → ER X.K B G' H' σ env' fp → G' q = none → H' q = some (.lst acc) → Reps X.K G' acc ds → B.H0 q = none →
      (∀ (j : Nat) (m : Bool) (o : O), env'[j]? = some (Sl.own m o) → q ∉ fp j) → De.nx (env'.set i (.own true (.lst ds))) → D.nx (σ.set i (some (.ref q))) H' := by
    intro De D fp σ G G' H' env' q acc ds lk hg R g h r b nd qq
    exact lk.nx _ _ _ _ _ (R.setO (o := .lst ds) ⟨rfl, acc, h, r⟩ g b nd) hg qq
  by_cases hv : ∃ tg elt it c, e = .lc tg elt it c
  · obtain ⟨tg, elt, it, c, rfl⟩ := hv
    obtain ⟨j, e', t, y, ifs, scope, pos', rfl, rfl, L⟩ := lc_parts S h
    refine wkS (set_lc S hl L) fun D σ H ⟨G, env, fp, De, R, w, lk⟩ => ?_
    simp only [wS] at w
    refine lc_read (tg := t) L.nr R w ?_
    intro ys env' Dl acc G' H' st g h r b nd ⟨ds, ed, q⟩
    cases ed
    exact key lk st.g st.r g h r b nd q
  · have hc : noComp v = true := by
      cases v <;> first | rfl | skip
      · exfalso
        cases e <;> first | exact hv ⟨_, _, _, _, rfl⟩ | (simp [ckE] at h)
      · exact ha
      · exact ha
    refine wkS (set_any S hl hc (S.fresh h fr)) fun D σ H ⟨G, env, fp, De, R, w, lk⟩ => ?_
    simp only [wS] at w
    refine ⟨G, env, fp, _, R, w, fun d e ⟨ds, h, _⟩ => ⟨ds, h⟩, ?_⟩
    intro ds env' q acc G' H' st g h r b nd ⟨ds', ed, qq⟩
    cases ed
    exact key lk st.g st.r g h r b nd qq
/-- x = f(..), f gives a new list -/
theorem sS_asgC (S : SB Γ k N sc B Ep X) {i : Nat} {f : String} {es : Exs} {x : Str} {p p2 pos2 pos : Pos} {xs : List Expr} (hl : locOk N sc i x = true) (hg : glOk sc (f : Str) = true) (h : ckA N sc es xs = true) (nr : es.noRd = true) :
    PS X (.Assign [.Name x p] (.Call (.Name (f : Str) p2) xs [] pos2) pos) (tDS X.K B Γ (.asgC i f es) Ep) := by
  obtain ⟨h1, h2⟩ := gl_of (X := X) hg S.es
  have pa := SAx es sc X B Ep _ S.s S.es S.tk h nr
  have hst := ckA_star h
  cases hc : Γ.fn f with
  | none =>
    refine ⟨fun pins s σ H D I ⟨G, env, fp, De, R, w, po⟩ => ?_⟩
    simp only [wS, hc, reduceCtorEq, false_and, exists_false] at w
  | some c =>
    obtain ⟨fa, fd, ps, j, hj, m1, m2, m3, m4⟩ := S.s.fn f c hc
    have post : ∀ {as : List AP} {e2 : En} {vs : List V} {G G2 H2 : Hp} {fp : Nat → List Addr} {σ : L2.St} {H : Hp} {env : En} {De : Ends'} {D : Ends}, Lk X.K B G De D → Stp X.K B fp σ G H env G2 H2 e2 → APs X.K G2 σ vs as →
        wCallF c as e2 (fun ds e2 => De.nx (e2.set i (.own true (.lst ds)))) Ep → lift X.K c vs H2 (fun v H' => D.nx (σ.set i (some v)) H') (WE (WXn X.K B Ep) σ) := by
      intro as e2 vs G G2 H2 fp σ H env De D lk st a2 ⟨nd, avs, rd, w⟩
      refine ⟨G2, avs, fps fp as, _, _, st.r.exG, args_of st.r a2 rd nd, w, ?_, ?_, ?_⟩
      · intro d os v G' H' A r ⟨e, ds, pt, z, q⟩
        cases z
      · intro o os q l G' H' A r hl ⟨e, ds, pt, z, qq⟩
        cases z
        have R' := st.r.after a2 rd nd A pt
        obtain ⟨el, vs', hq, rr⟩ := id r
        subst el
        have hn := (hl q (by simp)).2
        refine lk.nx _ _ _ _ _ (R'.setO r (hl q (by simp)).1 (st.r.new0 hn) fun j m u hj hm => ?_) (st.g.trans A.gg) qq
        obtain ⟨u1, h1⟩ := puts_own pt nd j m u hj
        exact fresh_nd st.r hn j m u1 h1 hm
      · intro x os cls dd G' H' A xr ⟨e, pt, q⟩
        exact ⟨G', e, fp, x, st.r.after a2 rd nd A pt, xr, q⟩
    cases xs with
    | nil =>
      have he : es = .nil := by cases es <;> first | rfl | simp [ckA] at h
      subst he
      refine wkS (set_any S hl rfl (pe_callG0 (E := WE (WXn X.K B Ep)) m4 (S.s.rm.mono hj) h1 m1 m2 m3 (passAt S.tk) h2)) fun D σ H ⟨G, env, fp, De, R, w, lk⟩ => ?_
      simp only [wS, wA, hc, Option.some.injEq, exists_eq_left'] at w
      exact post lk (.rfl R) .nil w
    | cons y ys =>
      refine wkS (set_any S hl rfl (pe_callG (E := WE (WXn X.K B Ep)) m4 (S.s.rm.mono hj) h1 m1 m2 m3 (passAt S.tk) pa h2 (star_of (hst y List.mem_cons_self) _ _) (anyF fun z hz => hst z (List.mem_cons_of_mem _ hz)))) fun D σ H ⟨G, env, fp, De, R, w, lk⟩ => ?_
      simp only [wS, hc, Option.some.injEq, exists_eq_left'] at w
      refine ⟨G, env, fp, _, R, w, ?_⟩
      intro as e2 vs G2 H2 st2 a2 s2 w2
      exact post lk st2 a2 w2
end
end Pl

namespace Pl
open PySem PySem.Spec L2
section
variable {Γ : Gam} {k : Nat} {N : List Str} {X : Cx} {B : Bs} {Ep : Xn → En → Prop} {sc : Scope}
theorem sS_exp (S : SB Γ k N sc B Ep X) {e : Ex} {v : Expr} {pos : Pos} (h : ckE N sc e v = true) (hc : noComp v = true) : PS X (.Expr v pos) (tDS X.K B Γ (.exp e) Ep) := by
  refine wkS (ps_expr (S.ex h) (sw_no hc _ _ _)) fun D σ H ⟨G, env, fp, De, R, w, lk⟩ => ?_
  simp only [wS] at w
  exact ⟨G, env, fp, _, R, w, fun d e1 v1 G1 H1 st t n s q => lk.nx _ _ _ _ _ st.r st.g q⟩
theorem sS_ret (S : SB Γ k N sc B Ep X) {e : Ex} {v : Expr} {pos : Pos} (h : ckE N sc e v = true) (nr : e.isRd = false) : PS X (.Return (some v) pos) (tDS X.K B Γ (.ret e) Ep) := by
  refine wkS (ps_ret (S.ex h)) fun D σ H ⟨G, env, fp, De, R, w, lk⟩ => ?_
  simp only [wS] at w
  exact ⟨G, env, fp, _, R, w, fun d e1 v1 G1 H1 st t n s q => lk.rt _ _ _ _ _ _ _ st.r st.g (n nr) q⟩
theorem sS_retF (S : SB Γ k N sc B Ep X) {e : Ex} {v : Expr} {pos : Pos} (h : ckE N sc e v = true) (fr : freshE e = true) : PS X (.Return (some v) pos) (tDS X.K B Γ (.retF e) Ep) := by
  refine wkS (ps_ret (S.fresh h fr)) fun D σ H ⟨G, env, fp, De, R, w, lk⟩ => ?_
  simp only [wS] at w
  refine ⟨G, env, fp, _, R, w, fun d e ⟨ds, h, _⟩ => ⟨ds, h⟩, ?_⟩
  intro ds env' q acc G' H' st g hh r b nd ⟨ds', ed, qq⟩
  cases ed
  refine lk.ro (.lst ds) env' σ G' H' q [q] fp st.r st.g ⟨rfl, acc, hh, r⟩ (fun a ha => ?_) qq
  simp at ha
  subst ha
  exact ⟨g, b⟩
theorem sS_retN {pos : Pos} : PS X (.Return none pos) (tDS X.K B Γ .retN Ep) := by
  refine wkS ps_retN fun D σ H ⟨G, env, fp, De, R, w, lk⟩ => ?_
  simp only [wS] at w
  exact lk.rt _ _ _ _ _ _ _ R Hx.rfl .non w
theorem sS_pass {pos : Pos} : PS X (.Pass pos) (tDS X.K B Γ .pass Ep) := by
  refine wkS ps_pass fun D σ H ⟨G, env, fp, De, R, w, lk⟩ => ?_
  simp only [wS] at w
  exact lk.nx _ _ _ _ _ R Hx.rfl w
theorem sS_brk {pos : Pos} : PS X (.Break pos) (tDS X.K B Γ .brk Ep) := by
  refine wkS ps_break fun D σ H ⟨G, env, fp, De, R, w, lk⟩ => ?_
  simp only [wS] at w
  exact lk.bk _ _ _ _ _ R Hx.rfl w
theorem sS_cnt {pos : Pos} : PS X (.Continue pos) (tDS X.K B Γ .cnt Ep) := by
  refine wkS ps_continue fun D σ H ⟨G, env, fp, De, R, w, lk⟩ => ?_
  simp only [wS] at w
  exact lk.ct _ _ _ _ _ R Hx.rfl w
theorem sS_if (S : SB Γ k N sc B Ep X) {c : Ex} {a b : Stms} {t : Expr} {x y : List Stmt} {pos : Pos} (h : ckT N sc c t = true) (ha : PSs X x (tDSs X.K B Γ a Ep)) (hb : PSs X y (tDSs X.K B Γ b Ep)) : PS X (.If t x y pos) (tDS X.K B Γ (.ifS c a b) Ep) := by
  refine wkS (ps_if (S.tx h) ha hb) fun D σ H ⟨G, env, fp, De, R, w, lk⟩ => ?_
  simp only [wS] at w
  refine ⟨G, env, fp, _, R, w, ?_⟩
  intro t e1 G1 H1 st s q
  cases t with
  | true => rw [if_pos rfl] at q ⊢; exact ⟨G1, e1, fp, De, st.r, q, lk.from st.g⟩
  | false => rw [if_neg Bool.false_ne_true] at q ⊢; exact ⟨G1, e1, fp, De, st.r, q, lk.from st.g⟩
theorem sSs_nil : PSs X [] (tDSs X.K B Γ .nil Ep) := by
  refine wkSs pss_nil fun D σ H ⟨G, env, fp, De, R, w, lk⟩ => ?_
  simp only [wSs] at w
  exact lk.nx _ _ _ _ _ R Hx.rfl w
theorem sSs_cons {s : Stm} {r : Stms} {x : Stmt} {xs : List Stmt} (hs : PS X x (tDS X.K B Γ s Ep)) (hr : PSs X xs (tDSs X.K B Γ r Ep)) : PSs X (x :: xs) (tDSs X.K B Γ (.cons s r) Ep) := by
  refine wkSs (pss_cons hs hr) fun D σ H ⟨G, env, fp, De, R, w, lk⟩ => ?_
  simp only [wSs] at w
  exact ⟨G, env, fp, _, R, w, ⟨fun env' σ' G' H' fp' R' hg q => ⟨G', env', fp', De, R', q, lk.from hg⟩, lk.rt, lk.ro, lk.bk, lk.ct⟩⟩
theorem sS_whl (S : SB Γ k N sc B Ep X) {c : Ex} {b : Stms} {t : Expr} {x : List Stmt} {pos : Pos} (h : ckT N sc c t = true) (hb : PSs X x (tDSs X.K B Γ b Ep)) : PS X (.While t x [] pos) (tDS X.K B Γ (.whl c b) Ep) := by
  refine wkS (ps_while S.po (S.tx h) hb) fun D σ H ⟨G, env, fp, De, R, w, lk⟩ => ?_
  simp only [wS] at w
  obtain ⟨n, w⟩ := w
  refine ⟨fun m σ H => ∃ G2 env fp, ER X.K B G2 H σ env fp ∧ Hx G G2 ∧ wWh (fun e Q => wT Γ c e Q Ep) (fun e nx => wSs Γ b e { De with nx := nx, ct := nx, bk := De.nx } Ep) De.nx m env, ⟨n, G, env, fp, R, Hx.rfl, w⟩, ?_⟩
  rintro m σ H ⟨G2, env, fp, R, hg, w⟩
  cases m with
  | zero => exact w.elim
  | succ m =>
    refine ⟨G2, env, fp, _, R, w, ?_⟩
    intro t e1 G1 H1 st s q
    cases t with
    | false => rw [if_neg Bool.false_ne_true] at q ⊢; exact lk.nx _ _ _ _ _ st.r (hg.trans st.g) q
    | true =>
      rw [if_pos rfl] at q ⊢
      refine ⟨fun σ H => ∃ G2 env fp, ER X.K B G2 H σ env fp ∧ Hx G G2 ∧ wWh (fun e Q => wT Γ c e Q Ep) (fun e nx => wSs Γ b e { De with nx := nx, ct := nx, bk := De.nx } Ep) De.nx m env, fun σ' H' z => ⟨m, Nat.lt_succ_self _, z⟩, G1, e1, fp, _, st.r, q, ?_⟩
      have lk' := lk.from (hg.trans st.g)
      exact ⟨fun env' σ' G' H' fp' R' h q => ⟨G', env', fp', R', (hg.trans st.g).trans h, q⟩, lk'.rt, lk'.ro, fun env' σ' G' H' fp' R' h q => lk'.nx _ _ _ _ _ R' h q, fun env' σ' G' H' fp' R' h q => ⟨G', env', fp', R', (hg.trans st.g).trans h, q⟩⟩
/-- what a loop stores -/
def TgOk (X : Cx) (B : Bs) (tg : Tg) (g : TG) : Prop := ∀ (x : D) (v : V) (env : En) (Q : En → Prop) (G H : Hp) (σ : L2.St) (fp : Nat → List Addr) (R : L2.St → Hp → Prop), ER X.K B G H σ env fp → Rep X.K G v x → wTg tg x env Q →
  (∀ e σ' fp', ER X.K B G H σ' e fp' → Q e → R σ' H) → g v σ H R
theorem tg_one {i : Nat} : TgOk X B (.one i) (gName i) := fun x v env Q G H σ fp R E r w k => k _ _ _ (E.setV r) w
theorem for_sound {tg : Tg} {g : TG} {b : Stms} {it : Itr} (hg : TgOk X B tg g) {D : Ends} {σ : L2.St} {H : Hp} {G : Hp} {env : En} {fp : Nat → List Addr} {De : Ends'} (R : ER X.K B G H σ env fp) (w : wS Γ (.forS tg it b) env De Ep) (lk : Lk X.K B G De D) :
    tFor (tDI X.K B Γ it Ep) g (tDSs X.K B Γ b Ep) D σ H := by
  simp only [wS] at w
  refine ⟨G, env, fp, _, R, w, ?_⟩
  intro xs e1 J G1 H1 st wk w1
  let bd : En → (En → Prop) → Prop := fun e nx => wSs Γ b e { De with nx := nx, ct := nx, bk := De.nx } Ep
  refine ⟨fun n m σ H => m = xs.length - n ∧ n ≤ xs.length ∧ ∃ G env fp, ER X.K B G H σ env fp ∧ Hx G1 G ∧ wFr (wTg tg) bd De.nx (xs.drop n) env, ⟨xs.length, by simp, Nat.zero_le _, G1, e1, fp, st.r, Hx.rfl, by simpa using w1⟩, ?_⟩
  rintro n m σ H ⟨rfl, hn, G, env, fp, R, hg1, w⟩
  obtain ⟨wk1, wk2⟩ := wk H (hg1.trans R.exG) n
  by_cases hlt : n < xs.length
  · right
    have ex : xs[n]? = some xs[n] := by simp [hlt]
    obtain ⟨go, yl⟩ := wk1 _ ex
    rw [List.drop_eq_getElem_cons hlt] at w
    simp only [wFr] at w
    refine ⟨go, fun σ H => ∃ G env fp, ER X.K B G H σ env fp ∧ Hx G1 G ∧ wFr (wTg tg) bd De.nx (xs.drop (n + 1)) env, fun σ' H' z => ⟨xs.length - (n + 1), by omega, rfl, hlt, z⟩, ?_⟩
    intro v H' y
    obtain ⟨hx, lift⟩ := yl v H' y
    obtain ⟨G2, g2, gh2, nw2, rx⟩ := lift G hg1 R.exG
    refine hg _ v env _ G2 H' σ fp _ (R.grow hx g2 gh2 nw2) rx w fun e σ' fp' R' q => ?_
    refine ⟨G2, e, fp', _, R', q, ?_⟩
    have gg := g2
    have lk' := lk.from ((st.g.trans hg1).trans g2)
    exact ⟨fun env' σ' G' H' fp' R' h q => ⟨G', env', fp', R', (hg1.trans g2).trans h, q⟩, lk'.rt, lk'.ro, fun env' σ' G' H' fp' R' h q => lk'.nx _ _ _ _ _ R' h q, fun env' σ' G' H' fp' R' h q => ⟨G', env', fp', R', (hg1.trans g2).trans h, q⟩⟩
  · left
    have en : n = xs.length := by omega
    subst en
    rw [List.drop_length] at w
    simp only [wFr] at w
    exact ⟨wk2 (Nat.le_refl _), lk.nx _ _ _ _ _ R (st.g.trans hg1) w⟩

theorem sS_for1 (S : SB Γ k N sc B Ep X) {i : Nat} {it : Itr} {b : Stms} {x : Str} {p pos : Pos} {v : Expr} {y : List Stmt} (hl : locOk N sc i x = true) (hi : ckI N sc it v = true) (hb : PSs X y (tDSs X.K B Γ b Ep)) :
    PS X (.For (.Name x p) v y [] pos) (tDS X.K B Γ (.forS (.one i) it b) Ep) := by
  obtain ⟨h1, h2⟩ := loc_of hl
  have si := SIx it sc X B Ep v (.Name x p) S.s S.es S.tk hi
  have pg : PG X (.Name x p) (gName i) := pg_name S.s.nd (by rw [S.s.n]; exact h1) (by rw [S.es]; exact h2) (.inl (S.fnt x))
  exact wkS (ps_for S.po S.s.calm si.1 pg hb si.2) fun D σ H ⟨G, env, fp, De, R, w, lk⟩ => for_sound tg_one R w lk
/-! ### rows of names -/
def gRow : List Nat → TGs
  | [] => gNil
  | i :: is => gCons (gName i) (gRow is)
theorem pgs_row (S : SB Γ k N sc B Ep X) : ∀ {is : List Nat} {xs : List Expr}, tgsOk N sc is xs = true → PGs X xs (gRow is) ∧ (assignEach xs X.env).length = is.length ∧ (assignEach xs X.env).findIdx? (·.1) = none
  | [], [], _ => ⟨pgs_nil, rfl, rfl⟩
  | [], _ :: _, h => by simp [tgsOk] at h
  | i :: is, [], h => by simp [tgsOk] at h
  | i :: is, x :: xs, h => by
    cases x <;> simp only [tgsOk, Bool.false_eq_true, Bool.and_eq_true] at h
    obtain ⟨h1, h2⟩ := loc_of h.1
    obtain ⟨q1, q2, q3⟩ := pgs_row S h.2
    rename_i x p
    have pg : PG X (.Name x p) (gName i) := pg_name S.s.nd (by rw [S.s.n]; exact h1) (by rw [S.es]; exact h2) (.inl (S.fnt x))
    refine ⟨pgs_cons pg q1 rfl, by show (_ :: assignEach xs X.env).length = _; simp [q2], ?_⟩
    show ((false, assign (.Name x p) X.env) :: assignEach xs X.env).findIdx? (·.1) = none
    rw [List.findIdx?_cons]
    simp [q3]
theorem row_sound {K : PySem.W.Frag} : ∀ {is : List Nat} {ds : List D} {vs : List V} {env e2 : En} {G H : Hp} {σ : L2.St} {fp : Nat → List Addr} {R : L2.St → Hp → Prop}, ER K B G H σ env fp → Reps K G vs ds → setNs env is ds = some e2 → (∀ σ', ER K B G H σ' e2 fp → R σ' H) → gRow is vs σ H R
  | [], [], _, env, e2, G, H, σ, fp, R, E, r, h, k => by
    cases r
    simp only [setNs, Option.some.injEq] at h
    subst h
    exact ⟨rfl, k σ E⟩
  | i :: is, d :: ds, _, env, e2, G, H, σ, fp, R, E, r, h, k => by
    cases r with
    | cons a b =>
      simp only [setNs] at h
      exact ⟨_, _, rfl, row_sound (E.setV a) b h k⟩
  | [], _ :: _, _, _, _, _, _, _, _, _, _, _, h, _ => by simp [setNs] at h
  | _ :: _, [], _, _, _, _, _, _, _, _, _, _, h, _ => by simp [setNs] at h
theorem setNs_len : ∀ {is : List Nat} {ds : List D} {env e2 : En}, setNs env is ds = some e2 → is.length = ds.length
  | [], [], _, _, _ => rfl
  | _ :: is, _ :: ds, _, _, h => by
    simp only [setNs] at h
    simp [setNs_len h]
  | [], _ :: _, _, _, h => by simp [setNs] at h
  | _ :: _, [], _, _, h => by simp [setNs] at h
theorem tup_sound {is : List Nat} {ds : List D} {v : V} {env e2 : En} {G H : Hp} {σ : L2.St} {fp : Nat → List Addr} {R : L2.St → Hp → Prop} (E : ER X.K B G H σ env fp) (r : Rep X.K G v (.tup ds)) (h : setNs env is ds = some e2)
    (k : ∀ σ', ER X.K B G H σ' e2 fp → R σ' H) : gTup X.K is.length (gRow is) v σ H R := by
  cases r with
  | tup h1 r => exact ⟨_, _, rfl, ex_t E.exG h1, by rw [r.length, setNs_len h], row_sound E r h k⟩
theorem sS_asgT (S : SB Γ k N sc B Ep X) {is : List Nat} {e : Ex} {xs : List Expr} {n : Nat} {p pos : Pos} {v : Expr} (hl : tgsOk N sc is xs = true) (h : ckE N sc e v = true) (nr : e.isRd = false) (hc : noComp v = true) (ht : noTup v = true) :
    PS X (.Assign [.Tuple xs n p] v pos) (tDS X.K B Γ (.asgT is e) Ep) := by
  obtain ⟨q1, q2, q3⟩ := pgs_row S hl
  have hw : swappedStores [.Tuple xs n p] v X.env = pure none := by
    cases v <;> first | rfl | cases ht
  have hs : swapsWithSole [.Tuple xs n p] v pos.line X.env = pure false := by unfold swapsWithSole; exact sw_no hc _ _ _
  refine wkS (ps_asg (S.ex h) (pg_tup S.s.calm q1 q2 q3) hs hw rfl) fun D σ H ⟨G, env, fp, De, R, w, lk⟩ => ?_
  simp only [wS] at w
  refine ⟨G, env, fp, _, R, w, ?_⟩
  rintro d e1 v1 G1 H1 st t n' s ⟨ds, e2, rfl, hs2, q⟩
  exact tup_sound st.r (n' nr) hs2 fun σ' E => lk.nx _ _ _ _ _ E st.g q
theorem tg_row {is : List Nat} : TgOk X B (.row is) (gTup X.K is.length (gRow is)) := fun x v env Q G H σ fp R E r w k => by
  obtain ⟨ds, e, rfl, hs, q⟩ := w
  exact tup_sound E r hs fun σ' E' => k _ _ _ E' q
theorem sS_forR (S : SB Γ k N sc B Ep X) {is : List Nat} {it : Itr} {b : Stms} {xs : List Expr} {n : Nat} {p pos : Pos} {v : Expr} {y : List Stmt} (hl : tgsOk N sc is xs = true) (hi : ckI N sc it v = true) (hb : PSs X y (tDSs X.K B Γ b Ep)) :
    PS X (.For (.Tuple xs n p) v y [] pos) (tDS X.K B Γ (.forS (.row is) it b) Ep) := by
  obtain ⟨q1, q2, q3⟩ := pgs_row S hl
  have si := SIx it sc X B Ep v (.Tuple xs n p) S.s S.es S.tk hi
  exact wkS (ps_for S.po S.s.calm si.1 (pg_tup S.s.calm q1 q2 q3) hb si.2) fun D σ H ⟨G, env, fp, De, R, w, lk⟩ => for_sound tg_row R w lk
/-- a, b = e1, e2 -/
theorem kind_of {sc : Scope} {x : Str} (es : X.env.scope = sc) (h : sc.names.lookup x = some .local) : X.env.kindOf x = some .local := by
  unfold Env.kindOf
  rw [es]
  exact h
theorem sS_par (S : SB Γ k N sc B Ep X) {is : List Nat} {es : Exs} {xs vs : List Expr} {n n2 : Nat} {p p2 pos : Pos} (hl : tgsOk N sc is xs = true) (hp : parOk sc xs vs = true) (h : ckA N sc es vs = true) (nr : es.noRd = true) :
    PS X (.Assign [.Tuple xs n p] (.Tuple vs n2 p2) pos) (tDS X.K B Γ (.asgP is es) Ep) := by
  have pa := SAx es sc X B Ep _ S.s S.es S.tk h nr
  unfold parOk at hp
  split at hp <;> try contradiction
  rename_i x px y py a b
  simp only [Bool.and_eq_true, decide_eq_true_eq, Bool.not_eq_true'] at hp
  obtain ⟨⟨⟨⟨⟨⟨⟨hx, hy⟩, hln⟩, hne⟩, sa⟩, sb⟩, f1⟩, f2⟩ := hp
  cases is with
  | nil => simp [tgsOk] at hl
  | cons i is =>
    cases is with
    | nil => simp [tgsOk] at hl
    | cons j is =>
      cases is with
      | cons _ _ => simp [tgsOk] at hl
      | nil =>
        simp only [tgsOk, Bool.and_eq_true] at hl
        obtain ⟨l1, l2, _⟩ := hl
        obtain ⟨i1, _⟩ := loc_of l1
        obtain ⟨j1, _⟩ := loc_of l2
        have nxy : x ≠ y := by simpa using hne
        have hij : i ≠ j := fun e => by subst e; rw [i1] at j1; cases j1; exact nxy rfl
        have hw : swappedStores [.Tuple [.Name x px, .Name y py] n p] (.Tuple [a, b] n2 p2) X.env = pure (some [x, y]) := by
          have k1 := kind_of S.es hx
          have k2 := kind_of S.es hy
          have bk : (X.env.blockKind != ScopeKind.function) = false := by
            unfold Env.blockKind
            rw [S.es, S.kd]
            rfl
          have na : ∀ f : Expr → Bool, (∀ e, noStar e = true → f e = false) → [a, b].any f = false := fun f hf => by simp [hf a sa, hf b sb]
          have ed : [x, y].eraseDups.length = 2 := by
            have : (y == x) = false := beq_eq_false_iff_ne.mpr (Ne.symm nxy)
            simp [List.eraseDups_cons, this]
          have e1 : (py.line == px.line) = true := hln
          unfold swappedStores
          simp only [pure_bind]
          rw [na _ (fun e he => by cases e <;> first | rfl | (simp [noStar] at he))]
          simp only [List.filterMap_cons, List.filterMap_nil, List.head?_cons, Option.map_some, Option.getD_some, k1, k2, Expr.pos, e1, beq_self_eq_true, Bool.and_self, if_true, List.length_cons, List.length_nil, bk, f1, f2, ed]
          rfl
        refine wkS (ps_par S.s.calm S.s.nd (by rw [S.s.n]; exact i1) (by rw [S.s.n]; exact j1) hij (by rw [S.es]; exact hx) (by rw [S.es]; exact hy) pa hw rfl) fun D σ H ⟨G, env, fp, De, R, w, lk⟩ => ?_
        simp only [wS] at w
        refine ⟨G, env, fp, _, R, w, ?_⟩
        rintro as e1 us G1 H1 st a1 s1 ⟨ds, e2, hd, hs, q⟩
        have r := a1.data hd
        cases r with
        | nil => simp [setNs] at hs
        | cons r1 r2 =>
          cases r2 with
          | nil => simp [setNs] at hs
          | cons r2 r3 =>
            cases r3 with
            | cons _ _ => simp [setNs] at hs
            | nil =>
              simp only [setNs, Option.some.injEq] at hs
              subst hs
              exact ⟨_, _, rfl, lk.nx _ _ _ _ _ ((st.r.setV r1).setV r2) st.g q⟩
/-- raise C('..') -/
theorem sS_rse (S : SB Γ k N sc B Ep X) {c : String} {p p2 pos2 pos : Pos} {m : Str} {j : Nat} (hg : glOk sc (c : Str) = true) :
    PS X (.Raise (some (.Call (.Name (c : Str) p) [.Constant (.str m) j p2] [] pos2)) none pos) (tDS X.K B Γ (.rse c .abs) Ep) := by
  obtain ⟨h1, h2⟩ := gl_of (X := X) hg S.es
  by_cases hc : Γ.ex.cls c = some none
  · obtain ⟨C, bmB, Bn, newId, initId, gC, nC, kC, F, q, b1, t1⟩ := S.s.cl c hc
    refine wkS (ps_raise S.s.calm S.tk (pmk_own F q gC kC (raises_own b1 t1) h1 h2)) fun D σ H ⟨G, env, fp, De, R, w, lk⟩ => ?_
    simp only [wS] at w
    exact ⟨G, env, fp, ⟨c, [], []⟩, R, ⟨nC, rfl, rfl⟩, w.2⟩
  · refine ⟨fun pins s σ H D I ⟨G, env, fp, De, R, w, lk⟩ => ?_⟩
    simp only [wS] at w
    exact (hc w.1).elim
/-- the constant as a value -/
def cstV : D → V
  | .bl b => .bl b
  | .int i => .int i
  | .str z => .str z
  | _ => .non
theorem cst_rep {K : PySem.W.Frag} {G : Hp} {d : D} {c : Const} (h : cst d c = true) : Rep K G (cstV d) d := by
  cases d <;> cases c <;> simp only [cst, decide_eq_true_eq, reduceCtorEq, Bool.false_eq_true] at h
  · exact .non
  · exact .bl _
  · exact .int _
  · exact .str _
theorem pe_cst {X : Cx} {d : D} {c : Const} {n : Nat} {pos : Pos} (h : cst d c = true) : PE X (.Constant c n pos) (tC (cstV d)) := by
  cases d <;> cases c <;> simp only [cst, decide_eq_true_eq, reduceCtorEq, Bool.false_eq_true] at h
  · exact pe_non
  · subst h; exact pe_bl
  · subst h; exact pe_int
  · subst h; exact pe_str
/-- what the clauses are -/
def hdL (cs : List (Value × D)) : List (Value × (Addr → Value → Option Addr → TS)) := cs.map fun c => (c.1, fun _ _ _ => tRet (tC (cstV c.2)))
theorem hds_ok {X : Cx} (S : SX Γ k N X) (es : X.env.scope = sc) : ∀ {hs : List (String × D)} {hds : List ExceptHandler}, ckH sc hs hds = true → (∀ c ∈ hs, ∃ v, X.mg (c.1 : Str) = some v) →
    ∃ cs : List (Value × D), HdsOk X hds (hdL cs) ∧ cs.map (·.2) = hs.map (·.2) ∧ ∀ (i : Nat) (c : String × D), hs[i]? = some c → ∃ v, cs[i]? = some (v, c.2) ∧ X.mg (c.1 : Str) = some v
  | [], [], _, _ => ⟨[], .nil, rfl, fun i c h => by simp at h⟩
  | (c, d) :: r, h :: t, hk, hm => by
    unfold ckH at hk
    split at hk <;> try contradiction
    rename_i e1 e2
    cases e1
    cases e2
    simp only [Bool.and_eq_true, decide_eq_true_eq] at hk
    obtain ⟨⟨⟨rfl, h1⟩, h2⟩, h3⟩ := hk
    obtain ⟨g1, g2⟩ := gl_of (X := X) h1 es
    obtain ⟨v, hv⟩ := hm _ (List.mem_cons_self ..)
    obtain ⟨cs, a1, a2, a3⟩ := hds_ok S es h3 fun c hc => hm c (List.mem_cons_of_mem _ hc)
    refine ⟨(v, d) :: cs, .cons ⟨g1, g2, .inl hv⟩ (fun _ _ _ _ _ _ _ => pss_one (ps_ret (pe_cst h2))) a1, by simp [a2], fun i c h => ?_⟩
    cases i with
    | zero => simp at h; subst h; exact ⟨v, by simp, hv⟩
    | succ i => obtain ⟨u, b1, b2⟩ := a3 i c (by simpa using h); exact ⟨u, by simpa using b1, b2⟩
  | [], _ :: _, hk, _ => by simp [ckH] at hk
  | _ :: _, [], hk, _ => by
    unfold ckH at hk
    cases hk
theorem hds_cst : ∀ {hs : List (String × D)} {hds : List ExceptHandler}, ckH sc hs hds = true → ∀ c ∈ hs, ∃ v, cst c.2 v = true
  | [], _, _, c, hc => by simp at hc
  | (c, d) :: r, h :: t, hk, c', hc => by
    unfold ckH at hk
    split at hk <;> try contradiction
    rename_i e1 e2
    cases e1
    cases e2
    simp only [Bool.and_eq_true, decide_eq_true_eq] at hk
    rcases List.mem_cons.mp hc with rfl | hc
    · exact ⟨_, hk.1.2⟩
    · exact hds_cst hk.2 c' hc
  | _ :: _, [], hk, _, _ => by
    unfold ckH at hk
    cases hk
/-- from a later ground -/
theorem ER.ground {K : PySem.W.Frag} {G H G' H' : Hp} {σ σ' : L2.St} {env env' : En} {fp fp' : Nat → List Addr} (R : ER K B G H σ env fp) (R' : ER K { B with G0 := G } G' H' σ' env' fp') : ER K B G' H' σ' env' fp' :=
  ⟨R'.exB, R'.dom, R'.exG, R.g0.trans R'.g0, fun a o h => (R'.new a o h).elim (fun z => R.new a o z) .inr, R'.len, R'.val, R'.own, R'.sep, R'.loc, R'.dis, R'.pin⟩
theorem ER.grounded {K : PySem.W.Frag} {G H : Hp} {σ : L2.St} {env : En} {fp : Nat → List Addr} (R : ER K B G H σ env fp) : ER K { B with G0 := G } G H σ env fp :=
  ⟨R.exB, R.dom, R.exG, Hx.rfl, fun a o h => .inl h, R.len, R.val, R.own, R.sep, R.loc, R.dis, R.pin⟩
/-- try: .. except C: return constant -/
theorem wMany_of {K : PySem.W.Frag} {Wout : WX} {Dn : Ends} {P : D → Prop} {De : Ends'} {x : Xn} {e : En} {cls : Value} {d : Option Addr} {σ : L2.St} {H : Hp} {mg : Str → Option Value} (sub : ∀ (a b : String) t, Γ.ex.sub a b = some t → SubF K mg a b t)
    (hx : PySem.W.nsIn K mainGlobals (x.cls : Str) = some (some cls)) (go : ∀ c : D, P c → De.rt (.val c) e → tRet (tC (cstV c)) Dn σ H) (out : Ep x e → Wout cls d σ H) :
    ∀ (hs : List (String × D)) (cs : List (Value × D)), cs.length = hs.length → (∀ c ∈ hs, P c.2) → (∀ (i : Nat) (c : String × D), hs[i]? = some c → ∃ v, cs[i]? = some (v, c.2) ∧ mg (c.1 : Str) = some v) → wHd Γ hs x e De Ep → wMany K Wout Dn (hdL cs) cls d σ H
  | [], [], _, _, _, w => out w
  | (c, dd) :: r, cs, hl, hp, hc, w => by
    cases cs with
    | nil => simp at hl
    | cons z cs =>
      obtain ⟨v, h1, h2⟩ := hc 0 (c, dd) (by simp)
      simp at h1
      subst h1
      simp only [wHd] at w
      obtain ⟨t, h3, w⟩ := w
      obtain ⟨cb, h4, h5⟩ := sub _ _ _ h3
      rw [h2] at h4
      cases h4
      refine ⟨t, h5 _ hx, fun ht => ?_, fun ht => ?_⟩
      · rw [if_pos ht] at w
        exact fun a _ => go dd (hp (c, dd) (List.mem_cons_self ..)) w
      · rw [if_neg (by simp [ht])] at w
        exact wMany_of sub hx go out r cs (by simpa using hl) (fun c hc => hp c (List.mem_cons_of_mem _ hc)) (fun i c h => by simpa using hc (i + 1) c (by simpa using h)) w
  | [], _ :: _, h, _, _, _ => by simp at h
theorem sS_try (S : SB Γ k N sc B Ep X) {b : Stms} {hs : List (String × D)} {x : List Stmt} {h0 : ExceptHandler} {t : List ExceptHandler} {pos : Pos} (hk : ckH sc hs (h0 :: t) = true)
    (hb : ∀ (B2 : Bs) (Ep2 : Xn → En → Prop) (pn : List (Addr × Obj)) (xe : Value → Shared → Prop), PassesOwn (model X.prog X.w) X.A X.env xe → Takes (X.tr pn xe) (WXn X.K B2 Ep2) → PSs (X.tr pn xe) x (tDSs X.K B2 Γ b Ep2)) :
    PS X (.Try x (h0 :: t) [] [] pos) (tDS X.K B Γ (.trC b hs) Ep) := by
  by_cases hall : (hs.all fun c => (Γ.ex.sub c.1 c.1).isSome) = true
  · have hm : ∀ c ∈ hs, ∃ v, X.mg (c.1 : Str) = some v := fun c hc => by
      obtain ⟨t, ht⟩ := Option.isSome_iff_exists.mp (List.all_eq_true.mp hall c hc)
      obtain ⟨v, hv, _⟩ := S.s.sub _ _ _ ht
      exact ⟨v, hv⟩
    obtain ⟨cs, a1, a2, a3⟩ := hds_ok S.s S.es hk hm
    have hlen : cs.length = hs.length := by simpa using congrArg List.length a2
    refine wkS (ps_try_many (Wout := WXn X.K B Ep) (tb := fun W D σ H => ∃ B2 Ep2, (∀ cls dd σ H, WXn X.K B2 Ep2 cls dd σ H → W cls dd σ H) ∧ tDSs X.K B2 Γ b Ep2 D σ H) S.st S.fr S.tk ?_ a1) ?_
    · intro W pn xe tk po
      refine ⟨fun pins s σ H D I ⟨B2, Ep2, hW, q⟩ => ?_⟩
      exact (hb B2 Ep2 pn xe po (tk.imp hW)).run pins s σ H D I q
    · rintro D σ H ⟨G, env, fp, De, R, w, lk⟩
      simp only [wS] at w
      obtain ⟨_, w⟩ := w
      refine ⟨{ B with G0 := G }, fun x e => wHd Γ hs x e De Ep, ?_, G, env, fp, De, R.grounded, w, ?_⟩
      · rintro cls dd σ' H' ⟨G', env', fp', x, R', xr, w'⟩
        have R2 := R.ground R'
        refine wMany_of (P := fun c => ∃ v, cst c v = true) S.s.sub xr.1 (fun c ⟨v, hv⟩ hc => ?_) (fun he => ⟨G', env', fp', x, R2, xr, he⟩) hs cs hlen (hds_cst hk) a3 w'
        exact lk.rt c env' σ' G' H' _ fp' R2 R'.g0 (cst_rep hv) hc
      · exact ⟨fun e σ G' H' fp R' h => lk.nx e σ G' H' fp (R.ground R') h, fun d e σ G' H' v fp R' h => lk.rt d e σ G' H' v fp (R.ground R') h, fun o e σ G' H' p q fp R' h => lk.ro o e σ G' H' p q fp (R.ground R') h, fun e σ G' H' fp R' h => lk.bk e σ G' H' fp (R.ground R') h, fun e σ G' H' fp R' h => lk.ct e σ G' H' fp (R.ground R') h⟩
  · refine ⟨fun pins s σ H D I ⟨G, env, fp, De, R, w, lk⟩ => ?_⟩
    simp only [wS] at w
    exact (hall w.1).elim
/-- x[k] = e -/
theorem sS_setI (S : SB Γ k N sc B Ep X) {i : Nat} {ix e : Ex} {x : Str} {p p2 pos : Pos} {y v : Expr} (hn : nameOk N sc i x = true) (h : ckE N sc e v = true) (nr : e.isRd = false) (hc : noComp v = true) (hy : ckE N sc ix y = true) (ns : noSlice y = true) (nx : ix.isRd = false) :
    PS X (.Assign [.Subscript (.Name x p) y p2] v pos) (tDS X.K B Γ (.setI i ix e) Ep) := by
  have ha : ∀ v, assign (.Subscript (.Name x p) y p2) X.env v = (do
      let ov ← holding [v] (eval (.Name x p) X.env)
      let iv ← holding [v, ov] (eval y X.env)
      standAt p2
      holding [v, ov, iv] (setItem ov iv v)
      release [v, ov, iv] []) := fun v => by
    cases y <;> first | rfl | cases ns
  have hw : swappedStores [.Subscript (.Name x p) y p2] v X.env = pure none := by cases v <;> rfl
  have hs : swapsWithSole [.Subscript (.Name x p) y p2] v pos.line X.env = pure false := by unfold swapsWithSole; exact sw_no hc _ _ _
  refine wkS (ps_asg (S.ex h) (pg_sub (se_var S.s S.es hn) (S.ex hy) set_list ha) hs hw rfl) fun D σ H ⟨G, env, fp, De, R, w, lk⟩ => ?_
  simp only [wS] at w
  refine ⟨G, env, fp, _, R, w, ?_⟩
  rintro d e1 v1 G1 H1 st t n' s ⟨⟨m0, ds0, e0⟩, w1⟩
  obtain ⟨p0, hp0, _⟩ := st.r.own i m0 _ e0
  refine ⟨_, hp0, G1, e1, fp, _, st.r, w1, ?_⟩
  intro d2 e2 v2 G2 H2 st2 t2 n2 s2 w2
  unfold wSet at w2
  split at w2
  · rename_i m ds j eo
    obtain ⟨n, hx, q⟩ := w2
    obtain ⟨q0, h1, ef, vs, h3, h4⟩ := st2.r.own i m _ eo
    rw [hp0] at h1
    cases h1
    refine ⟨_, vs, j, n, rfl, by rw [t2.int], h3, by rw [h4.length]; exact hx, ?_⟩
    have R' := st2.r.change (H' := upd H2 p0 (.lst (vs.set n v1))) (o' := .lst (ds.set n d)) eo hp0 (fun a ha => upd_ne (fun z => ha (by rw [ef]; simp [z]))) ⟨ef, _, upd_same, h4.set ((n' nr).mono st2.g) n⟩
    exact lk.nx _ _ _ _ _ R' (st.g.trans st2.g) q
  · exact w2.elim
/-- x.append(e) -/
theorem sS_app (S : SB Γ k N sc B Ep X) {i : Nat} {e : Ex} {x : Str} {p apos pos pos2 : Pos} {y : Expr} (hn : nameOk N sc i x = true) (hl : oneLine apos pos = true) (hs : noStar y = true) (h : ckE N sc e y = true) (nr : e.isRd = false) :
    PS X (.Expr (.Call (.Attribute (.Name x p) ("append" : Str) apos) [y] [] pos) pos2) (tDS X.K B Γ (.app i e) Ep) := by
  have pa : PA X [y] (tCons (tD X.K B Γ e Ep) tNil) := pa_cons (S.ex h) pa_nil (star_of hs _ _)
  refine wkS (ps_expr (pe_bm PySem.F.plainAttrs_list PySem.F.slot_list_append PySem.F.type_list_append mt_append (se_var S.s S.es hn) pa (base_of (o := .Name x p) rfl _ _) (few_of hs) hl (star_of hs _ _) rfl) (sw_no rfl _ _ _)) fun D σ H ⟨G, env, fp, De, R, w, lk⟩ => ?_
  simp only [wS] at w
  obtain ⟨⟨m0, ds0, e0⟩, w⟩ := w
  obtain ⟨p0, hp0, _, vs0, h30, _⟩ := R.own i m0 _ e0
  refine ⟨_, hp0, .inl ⟨rfl, vs0, .inl (.inl h30)⟩, G, env, fp, _, R, w, ?_⟩
  intro d1 e1 v1 G1 H1 st t n s w1
  show ∃ l xs y, _
  unfold wApp at w1
  split at w1
  · rename_i m ds eo
    obtain ⟨hz, q⟩ := w1
    obtain ⟨q0, h1, ef, vs, h3, h4⟩ := st.r.own i m _ eo
    rw [hp0] at h1
    cases h1
    refine ⟨p0, vs, v1, rfl, rfl, h3, by rw [h4.length]; exact hz, ?_⟩
    have R' := st.r.change (H' := upd H1 p0 (.lst (vs ++ [v1]))) (o' := .lst (ds ++ [d1])) eo hp0 (fun a ha => upd_ne (fun z => ha (by rw [ef]; simp [z]))) ⟨ef, _, upd_same, h4.append (.cons (n nr) .nil)⟩
    exact lk.nx _ _ _ _ _ R' st.g q
  · exact w1.elim
/-- x += e -/
theorem sS_aug (S : SB Γ k N sc B Ep X) {i : Nat} {e : Ex} {op : Operator} {x : Str} {p pos : Pos} {v : Expr} (hl : locOk N sc i x = true) (h : ckE N sc e v = true) (nr : e.isRd = false) (ho : op = .Add ∨ op = .Sub) : PS X (.AugAssign (.Name x p) op v pos) (tDS X.K B Γ (.aug i op e) Ep) := by
  obtain ⟨h1, h2⟩ := loc_of hl
  have go : ∀ (f : Int → Int → Int), PIp X op (ipI f) → (∀ a b Q, wAug op a b Q → ∃ i j, a = .int i ∧ b = .int j ∧ Q (.int (f i j))) → PS X (.AugAssign (.Name x p) op v pos) (tDS X.K B Γ (.aug i op e) Ep) := by
    intro f hp hw
    refine wkS (ps_aug S.s.nd (by rw [S.s.n]; exact h1) (by rw [S.es]; exact h2) (S.ex h) hp (.inl (S.fnt x))) fun D σ H ⟨G, env, fp, De, R, w, lk⟩ => ?_
    simp only [wS] at w
    obtain ⟨a, ea, w⟩ := w
    obtain ⟨va, hv, ra⟩ := R.val i a ea
    refine ⟨va, hv, G, env, fp, _, R, w, ?_⟩
    intro d1 e1 v1 G1 H1 st t n s w1
    obtain ⟨i1, j1, rfl, rfl, q⟩ := hw _ _ _ w1
    have eva : va = .int i1 := RepT.int (H := H) (.inl ra)
    exact ⟨i1, j1, eva, t.int, lk.nx _ _ _ _ _ (st.r.setV (.int _)) st.g q⟩
  rcases ho with rfl | rfl
  · exact go (fun i j => i + j) ip_add fun a b Q w => by
      unfold wAug at w
      split at w
      · exact ⟨_, _, rfl, rfl, w⟩
      · rename_i hh; cases hh
      · exact w.elim
  · exact go (fun i j => i - j) ip_sub fun a b Q w => by
      unfold wAug at w
      split at w
      · rename_i hh; cases hh
      · exact ⟨_, _, rfl, rfl, w⟩
      · exact w.elim
mutual
theorem SSx : ∀ (p : Stm) (sc : Scope) (X : Cx) (B : Bs) (Ep : Xn → En → Prop) (e : Stmt), SB Γ k N sc B Ep X → ckS N sc p e = true → PS X e (tDS X.K B Γ p Ep)
  | .asg i e, sc, X, B, Ep, st, S, h => by
    unfold ckS at h
    split at h <;> try contradiction
    rename_i hh
    cases hh
    simp only [Bool.and_eq_true] at h
    obtain ⟨⟨⟨h1, h2⟩, h3⟩, h4⟩ := h
    exact sS_asg S h1 h2 (nf h3) h4
  | .asgF i e, sc, X, B, Ep, st, S, h => by
    unfold ckS at h
    split at h <;> try contradiction
    rename_i hh
    cases hh
    simp only [Bool.and_eq_true] at h
    obtain ⟨⟨⟨h1, h2⟩, h3⟩, h4⟩ := h
    exact sS_asgF S h1 h2 h3 h4
  | .asgC i f es, sc, X, B, Ep, st, S, h => by
    unfold ckS at h
    split at h <;> try contradiction
    rename_i hh
    cases hh
    simp only [Bool.and_eq_true, decide_eq_true_eq] at h
    obtain ⟨⟨⟨⟨h1, rfl⟩, h3⟩, h4⟩, h5⟩ := h
    exact sS_asgC S h1 h3 h4 h5
  | .asgT is e, sc, X, B, Ep, st, S, h => by
    unfold ckS at h
    split at h <;> try contradiction
    rename_i hh
    cases hh
    simp only [Bool.and_eq_true] at h
    obtain ⟨⟨⟨⟨h1, h2⟩, h3⟩, h4⟩, h5⟩ := h
    exact sS_asgT S h1 h2 (nf h3) h4 h5
  | .asgP is e, sc, X, B, Ep, st, S, h => by
    unfold ckS at h
    split at h <;> try contradiction
    rename_i hh
    cases hh
    simp only [Bool.and_eq_true] at h
    obtain ⟨⟨⟨h1, h2⟩, h3⟩, h4⟩ := h
    exact sS_par S h1 h2 h3 h4
  | .setI i ix e, sc, X, B, Ep, st, S, h => by
    unfold ckS at h
    split at h <;> try contradiction
    rename_i hh
    cases hh
    simp only [Bool.and_eq_true] at h
    obtain ⟨⟨⟨⟨⟨⟨h1, h2⟩, h3⟩, h4⟩, h5⟩, h6⟩, h7⟩ := h
    exact sS_setI S h1 h2 (nf h3) h4 h5 h6 (nf h7)
  | .exp e, sc, X, B, Ep, st, S, h => by
    unfold ckS at h
    split at h <;> try contradiction
    rename_i hh
    cases hh
    simp only [Bool.and_eq_true] at h
    exact sS_exp S h.1 h.2
  | .app i e, sc, X, B, Ep, st, S, h => by
    unfold ckS at h
    split at h <;> try contradiction
    rename_i hh
    cases hh
    simp only [Bool.and_eq_true, decide_eq_true_eq] at h
    obtain ⟨⟨⟨⟨⟨rfl, h1⟩, h2⟩, h3⟩, h4⟩, h5⟩ := h
    exact sS_app S h1 h2 h3 h4 (nf h5)
  | .ext _ _, sc, X, B, Ep, st, S, h => by simp [ckS] at h
  | .aug i op e, sc, X, B, Ep, st, S, h => by
    unfold ckS at h
    split at h <;> try contradiction
    rename_i hh
    cases hh
    simp only [Bool.and_eq_true, decide_eq_true_eq, Bool.or_eq_true, beq_iff_eq] at h
    obtain ⟨⟨⟨⟨rfl, h1⟩, h2⟩, h3⟩, h4⟩ := h
    exact sS_aug S h1 h2 (nf h3) h4
  | .ret e, sc, X, B, Ep, st, S, h => by
    unfold ckS at h
    split at h <;> try contradiction
    rename_i hh
    cases hh
    simp only [Bool.and_eq_true] at h
    exact sS_ret S h.1 (nf h.2)
  | .retF e, sc, X, B, Ep, st, S, h => by
    unfold ckS at h
    split at h <;> try contradiction
    rename_i hh
    cases hh
    simp only [Bool.and_eq_true] at h
    exact sS_retF S h.1 h.2
  | .retN, sc, X, B, Ep, st, S, h => by
    unfold ckS at h
    split at h <;> try contradiction
    exact sS_retN
  | .ifS c a b, sc, X, B, Ep, st, S, h => by
    unfold ckS at h
    split at h <;> try contradiction
    rename_i hh
    cases hh
    simp only [Bool.and_eq_true] at h
    obtain ⟨⟨h1, h2⟩, h3⟩ := h
    exact sS_if S h1 (SSsx a sc X B Ep _ S h2) (SSsx b sc X B Ep _ S h3)
  | .whl c b, sc, X, B, Ep, st, S, h => by
    unfold ckS at h
    split at h <;> try contradiction
    rename_i hh
    cases hh
    simp only [Bool.and_eq_true] at h
    exact sS_whl S h.1 (SSsx b sc X B Ep _ S h.2)
  | .forS (.one i) it b, sc, X, B, Ep, st, S, h => by
    unfold ckS at h
    split at h <;> try contradiction
    · rename_i hh
      cases hh
      simp only [Bool.and_eq_true] at h
      obtain ⟨⟨h1, h2⟩, h3⟩ := h
      exact sS_for1 S h1 h2 (SSsx b sc X B Ep _ S h3)
    · rename_i hh
      cases hh
  | .forS (.row is) it b, sc, X, B, Ep, st, S, h => by
    unfold ckS at h
    split at h <;> try contradiction
    · rename_i hh
      cases hh
    · rename_i hh
      cases hh
      simp only [Bool.and_eq_true] at h
      obtain ⟨⟨h1, h2⟩, h3⟩ := h
      exact sS_forR S h1 h2 (SSsx b sc X B Ep _ S h3)
  | .rse c a, sc, X, B, Ep, st, S, h => by
    unfold ckS at h
    split at h <;> try contradiction
    rename_i hh
    cases hh
    simp only [Bool.and_eq_true, decide_eq_true_eq] at h
    obtain ⟨rfl, h1⟩ := h
    exact sS_rse S h1
  | .trC b hs, sc, X, B, Ep, st, S, h => by
    unfold ckS at h
    split at h <;> try contradiction
    rename_i hh
    cases hh
    simp only [Bool.and_eq_true] at h
    obtain ⟨h1, h2⟩ := h
    refine sS_try S h2 ?_
    intro B2 Ep2 pn xe po tk
    exact SSsx b sc (X.tr pn xe) B2 Ep2 _ ⟨⟨S.s.calm, S.s.nd, S.s.n, S.s.rm, S.s.glb, S.s.bt, S.s.sub, S.s.cl, S.s.fn⟩, S.es, S.fnt, S.kd, po, tk, S.st, S.fr⟩ h1
  | .pass, sc, X, B, Ep, st, S, h => by
    unfold ckS at h
    split at h <;> try contradiction
    exact sS_pass
  | .brk, sc, X, B, Ep, st, S, h => by
    unfold ckS at h
    split at h <;> try contradiction
    exact sS_brk
  | .cnt, sc, X, B, Ep, st, S, h => by
    unfold ckS at h
    split at h <;> try contradiction
    exact sS_cnt
theorem SSsx : ∀ (p : Stms) (sc : Scope) (X : Cx) (B : Bs) (Ep : Xn → En → Prop) (e : List Stmt), SB Γ k N sc B Ep X → ckSs N sc p e = true → PSs X e (tDSs X.K B Γ p Ep)
  | .nil, sc, X, B, Ep, e, S, h => by
    cases e <;> simp only [ckSs, Bool.false_eq_true] at h
    exact sSs_nil
  | .cons s r, sc, X, B, Ep, e, S, h => by
    cases e <;> simp only [ckSs, Bool.false_eq_true, Bool.and_eq_true] at h
    exact sSs_cons (SSx s sc X B Ep _ S h.1) (SSsx r sc X B Ep _ S h.2)
end
end
end Pl

/-! Pl: a def keeps its promise, by its plain program -/
namespace Pl
open PySem PySem.Spec L2
/-- what stands around every def -/
structure Glo (Γ : Gam) (k : Nat) (P : Program) (w : World) (K : PySem.W.Frag) (mg : Str → Option Value) (base : Heap) : Prop where
  glb : ∀ (x : String) d, Γ.glb x = some d → ∃ u v, mg (x : Str) = some u ∧ RelV v u ∧ Rep K (fun _ => none) v d
  bt : ∀ x ∈ blts, mg x = none
  sub : ∀ (a b : String) t, Γ.ex.sub a b = some t → SubF K mg a b t
  cl : ∀ x : String, Γ.ex.cls x = some none → ClP K mg x
  fn : ∀ (x : String) c, Γ.fn x = some c → ∃ f fd ps j, j ≤ k ∧ mg (x : Str) = some (.ref f) ∧ PySem.W.keepIn K (.ref f) = true ∧ Binds K fd ps [] ∧ FnG P w K mg base j f fd ps (lift K c)
def slotA : AV → Sl
  | .val d => .val d
  | .own o => .own false o
def initE (N : List Str) (as : List AV) : En := as.map slotA ++ List.replicate (N.length - as.length) .un
def outsA : Nat → List AV → En → Option (List O)
  | _, [], _ => some []
  | i, .val _ :: r, env => outsA (i + 1) r env
  | i, .own _ :: r, env => match env[i]? with
    | some (Sl.own false o) => (outsA (i + 1) r env).map (o :: ·)
    | _ => none
section
variable {K : PySem.W.Frag} {G H G' H' : Hp} {B : Bs}
theorem argsR_len : ∀ {vs : List V} {as : List AV} {fs : List (List Addr)}, ArgsR K G H vs as fs → vs.length = as.length ∧ fs.length = as.length
  | _, _, _, .nil => ⟨rfl, rfl⟩
  | _, _, _, .val _ r => by obtain ⟨a, b⟩ := argsR_len r; simp [a, b]
  | _, _, _, .own _ _ _ r => by obtain ⟨a, b⟩ := argsR_len r; simp [a, b]
theorem argsR_val : ∀ {vs : List V} {as : List AV} {fs : List (List Addr)} {i : Nat} {d : D}, ArgsR K G H vs as fs → as[i]? = some (AV.val d) → ∃ v, vs[i]? = some v ∧ Rep K G v d
  | _, _, _, i, d, .nil, h => by simp at h
  | _, _, _, 0, d, .val a r, h => by simp at h; subst h; exact ⟨_, by simp, a⟩
  | _, _, _, 0, d, .own _ _ _ r, h => by simp at h
  | _, _, _, i + 1, d, .val a r, h => by
    obtain ⟨v, h1, h2⟩ := argsR_val (i := i) r (by simpa using h)
    exact ⟨v, by simpa using h1, h2⟩
  | _, _, _, i + 1, d, .own _ _ _ r, h => by
    obtain ⟨v, h1, h2⟩ := argsR_val (i := i) r (by simpa using h)
    exact ⟨v, by simpa using h1, h2⟩
theorem argsR_own : ∀ {vs : List V} {as : List AV} {fs : List (List Addr)} {i : Nat} {o : O}, ArgsR K G H vs as fs → as[i]? = some (AV.own o) → ∃ p l, vs[i]? = some (.ref p) ∧ fs[i]? = some l ∧ ORep K G H p l o ∧ (∀ a ∈ l, G a = none) ∧
    ∀ (j : Nat) (l' : List Addr), j ≠ i → fs[j]? = some l' → ∀ a ∈ l, a ∉ l'
  | _, _, _, i, d, .nil, h => by simp at h
  | _, _, _, 0, d, .val a r, h => by simp at h
  | _, _, _, 0, d, .own a b c r, h => by
    simp at h
    subst h
    refine ⟨_, _, by simp, by simp, a, b, fun j l' hj hl x hx => ?_⟩
    cases j with
    | zero => exact absurd rfl hj
    | succ j => exact c x hx l' (List.mem_of_getElem? (by simpa using hl))
  | _, _, _, i + 1, d, .val a r, h => by
    obtain ⟨p, l, h1, h2, h3, h4, h5⟩ := argsR_own (i := i) r (by simpa using h)
    refine ⟨p, l, by simpa using h1, by simpa using h2, h3, h4, fun j l' hj hl x hx => ?_⟩
    cases j with
    | zero => simp at hl; subst hl; simp
    | succ j => exact h5 j l' (fun z => hj (by omega)) (by simpa using hl) x hx
  | _, _, _, i + 1, d, .own a b c r, h => by
    obtain ⟨p, l, h1, h2, h3, h4, h5⟩ := argsR_own (i := i) r (by simpa using h)
    refine ⟨p, l, by simpa using h1, by simpa using h2, h3, h4, fun j l' hj hl x hx => ?_⟩
    cases j with
    | zero =>
      simp at hl
      subst hl
      intro hm
      exact c x hm l (List.mem_of_getElem? (by simpa using h2)) hx
    | succ j => exact h5 j l' (fun z => hj (by omega)) (by simpa using hl) x hx
def pnOf (vs : List V) (fs : List (List Addr)) : Nat → Option (Addr × List Addr) := fun i => match vs[i]?, fs[i]? with
  | some (.ref p), some l => some (p, l)
  | _, _ => none
theorem init_get {N : List Str} {as : List AV} {i : Nat} {x : Sl} (h : (initE N as)[i]? = some x) : (∃ a, as[i]? = some a ∧ x = slotA a) ∨ x = .un := by
  unfold initE at h
  by_cases hi : i < as.length
  · rw [List.getElem?_append_left (by simpa using hi), List.getElem?_map] at h
    cases e : as[i]? with
    | none => rw [e] at h; cases h
    | some a => rw [e] at h; cases h; exact .inl ⟨a, rfl, rfl⟩
  · rw [List.getElem?_append_right (by simpa using Nat.le_of_not_lt hi), List.getElem?_replicate] at h
    split at h
    · cases h; exact .inr rfl
    · cases h
theorem start_get {N : List Str} {vs : List V} {i : Nat} {v : V} (h : vs[i]? = some v) : (L2.start N vs)[i]? = some (some v) := by
  unfold L2.start
  rw [List.getElem?_append_left (by simpa using (List.getElem?_eq_some_iff.mp h).1), List.getElem?_map, h]
  rfl
theorem er_init {N : List Str} {vs : List V} {as : List AV} {fs : List (List Addr)} (g : Hx G H) (A : ArgsR K G H vs as fs) : ER K ⟨H, G, fs.flatten, pnOf vs fs⟩ G H (L2.start N vs) (initE N as) (fun i => fs.getD i []) := by
  obtain ⟨l1, l2⟩ := argsR_len A
  have own : ∀ (i : Nat) (m : Bool) (o : O), (initE N as)[i]? = some (Sl.own m o) → m = false ∧ as[i]? = some (AV.own o) := fun i m o h => by
    rcases init_get h with ⟨a, h1, h2⟩ | h
    · cases a with
      | val d => cases h2
      | own o' => cases h2; exact ⟨rfl, h1⟩
    · cases h
  have gd : ∀ {i : Nat} {l : List Addr}, fs[i]? = some l → fs.getD i [] = l := fun h => by rw [List.getD_eq_getElem?_getD, h]; rfl
  refine ⟨fun _ _ h _ => h, fun a o h => ⟨o, h⟩, g, Hx.rfl, fun _ _ h => .inl h, ?_, fun i d h => ?_, fun i m o h => ?_, fun i m o h a ha => ?_, fun i o h => ?_, fun i j m o m' o' h h' ne a ha => ?_, fun i o h => ?_⟩
  · unfold L2.start initE
    rw [List.length_append, List.length_append, List.length_map, List.length_map, List.length_replicate, List.length_replicate, l1]
  · rcases init_get h with ⟨a, h1, h2⟩ | h
    · cases a with
      | val d' =>
        cases h2
        obtain ⟨v, e1, e2⟩ := argsR_val A h1
        exact ⟨v, start_get e1, e2⟩
      | own o' => cases h2
    · cases h
  · obtain ⟨_, h1⟩ := own i m o h
    obtain ⟨p, l, e1, e2, e3, e4, e5⟩ := argsR_own A h1
    exact ⟨p, start_get e1, by rw [gd e2]; exact e3⟩
  · obtain ⟨_, h1⟩ := own i m o h
    obtain ⟨p, l, e1, e2, e3, e4, e5⟩ := argsR_own A h1
    rw [gd e2] at ha
    exact ⟨e4 a ha, .inr (List.mem_flatten.mpr ⟨l, List.mem_of_getElem? e2, ha⟩)⟩
  · cases (own i true o h).1
  · obtain ⟨_, h1⟩ := own i m o h
    obtain ⟨_, h2⟩ := own j m' o' h'
    obtain ⟨p, l, e1, e2, e3, e4, e5⟩ := argsR_own A h1
    obtain ⟨p', l', f1, f2, f3, f4, f5⟩ := argsR_own A h2
    rw [gd e2] at ha
    rw [gd f2]
    exact e5 j l' (Ne.symm ne) f2 a ha
  · obtain ⟨_, h1⟩ := own i false o h
    obtain ⟨p, l, e1, e2, e3, e4, e5⟩ := argsR_own A h1
    refine ⟨p, ?_, start_get e1⟩
    show pnOf vs fs i = _
    unfold pnOf
    rw [e1, e2, gd e2]
theorem back_of {env : En} {σ : L2.St} {fp : Nat → List Addr} (R : ER K B G' H' σ env fp) : ∀ {vs : List V} {as : List AV} {fs : List (List Addr)} {os : List O} (n : Nat), ArgsR K G H vs as fs → (∀ (i : Nat) (p : Addr) (l : List Addr), vs[i]? = some (V.ref p) → fs[i]? = some l → B.pn (n + i) = some (p, l)) →
    outsA n as env = some os → BackR K G' H' vs as fs os
  | _, _, _, os, n, .nil, _, h => by simp [outsA] at h; subst h; exact .nil
  | _, _, _, os, n, .val a r, hp, h => by
    simp only [outsA] at h
    exact .val (back_of R (n + 1) r (fun i p l h1 h2 => by have := hp (i + 1) p l (by simpa using h1) (by simpa using h2); rw [← this]; congr 1; omega) h)
  | _, _, _, os, n, .own a b c r, hp, h => by
    rename_i p o l vs as fs
    simp only [outsA] at h
    split at h
    · rename_i o' e
      cases e2 : outsA (n + 1) as env with
      | none => rw [e2] at h; cases h
      | some os' =>
        rw [e2] at h
        cases h
        obtain ⟨p', h1, h2⟩ := R.pin n o' e
        have h3 := hp 0 p l (by simp) (by simp)
        rw [Nat.add_zero, h1] at h3
        cases h3
        obtain ⟨p2, h4, h5⟩ := R.own n false o' e
        rw [h2] at h4
        cases h4
        refine .own h5 (fun a ha => (R.sep n false o' e a ha).1) (back_of R (n + 1) r (fun i p l h1 h2 => by have := hp (i + 1) p l (by simpa using h1) (by simpa using h2); rw [← this]; congr 1; omega) e2)
    · cases h
theorem aft_of {env : En} {σ : L2.St} {fp : Nat → List Addr} {vs : List V} {as : List AV} {fs : List (List Addr)} {os : List O} (A : ArgsR K G H vs as fs) (R : ER K ⟨H, G, fs.flatten, pnOf vs fs⟩ G' H' σ env fp) (h : outsA 0 as env = some os) : Aft K G H vs as fs G' H' os where
  gg := R.g0
  gh := R.exG
  nw := R.new
  fr := fun a o e hn => R.exB a o e fun z => by
    obtain ⟨l, hl, ha⟩ := List.mem_flatten.mp z
    exact hn l hl ha
  dom := R.dom
  bk := back_of R 0 A (fun i p l h1 h2 => by
    show pnOf vs fs (0 + i) = _
    unfold pnOf
    rw [Nat.zero_add, h1, h2]) h
end
/-- a def's condition, by its plain program -/
def bodyC (Γ : Gam) (N : List Str) (p : Stms) : Ctr := fun as Q E => wSs Γ p (initE N as)
  { nx := fun e => ∃ os, outsA 0 as e = some os ∧ Q (.val .non) os, rt := fun d e => ∃ os, outsA 0 as e = some os ∧ Q d os, bk := fun _ => False, ct := fun _ => False } (fun x e => ∃ os, outsA 0 as e = some os ∧ E x os)
/-- THE RULE: a def of the text, its plain program p, its condition c -/
theorem fn_pl {Γ : Gam} {k : Nat} {P : Program} {w : World} {K : PySem.W.Frag} {mg : Str → Option Value} {base : Heap} {f : Addr} {fd : FuncData} {x qual : Str} {st : Stmt} {N ps : List Str} {c : Ctr} (F : Fun K x qual st f fd) (S : FnScope N ps (defScope st)) (g : Glo Γ k P w K mg base) (p : Stms)
    (ck : ckSs N (defScope st) p (defBody st) = true) (len : ∀ as Q E, c as Q E → as.length = ps.length) (go : ∀ as Q E, c as Q E → bodyC Γ N p as Q E) : FnG P w K mg base (k + 1) f fd ps (lift K c) := by
  refine FnG.body F S (fun vs H Q E h => ?_) fun cdv A outer s H vs Q E rm h => ?_
  · obtain ⟨G, as, fs, Qp, Ep, _, ar, hc, _⟩ := h
    rw [(argsR_len ar).1]
    exact len _ _ _ hc
  · obtain ⟨G, as, fs, Qp, Ep, gh, ar, hc, hq, ho, he⟩ := h
    have wg := go _ _ _ hc
    have R0 := er_init (N := N) gh ar
    let X := cxOf (L2.CX P w) P w K mg base N qual (defScope st) f cdv A outer s H E
    have sx : SX Γ k N X := ⟨rfl, S.nd, rfl, rm, g.glb, g.bt, g.sub, g.cl, g.fn⟩
    have tk : Takes X (WXn X.K ⟨H, G, fs.flatten, pnOf vs fs⟩ fun x e => ∃ os, outsA 0 as e = some os ∧ Ep x os) := by
      refine (takes_of (X := X) (E := E) rfl rfl rfl rfl).imp ?_
      rintro cls dd σ H' ⟨G', env, fp, x, R, xr, os, e1, q⟩
      exact he x os cls dd G' H' (aft_of ar R e1) xr q
    have sb : SB Γ k N (defScope st) ⟨H, G, fs.flatten, pnOf vs fs⟩ (fun x e => ∃ os, outsA 0 as e = some os ∧ Ep x os) X := ⟨sx, rfl, fun _ => rfl, S.kind, passes_of (X := X) rfl, tk, rfl, rfl⟩
    refine ⟨_, SSsx p (defScope st) X _ _ _ sb ck, G, _, _, _, R0, wg, ?_⟩
    refine ⟨?_, ?_, ?_, ?_, ?_⟩
    · rintro env' σ' G' H' fp' R _ ⟨os, e1, q⟩
      exact hq _ os _ G' H' (aft_of ar R e1) .non q
    · rintro d env' σ' G' H' v fp' R _ r ⟨os, e1, q⟩
      exact hq d os v G' H' (aft_of ar R e1) r q
    · rintro o env' σ' G' H' p l fp' R _ r hl ⟨os, e1, q⟩
      exact ho o os p l G' H' (aft_of ar R e1) r hl q
    · intro _ _ _ _ _ _ _ z; exact z
    · intro _ _ _ _ _ _ _ z; exact z
end Pl

/-! Pl: the law's own end -/
namespace Pl
open PySem PySem.Spec L2
section
variable {P : Program} {w : World} {K : PySem.W.Frag} {mg mb : Str → Option Value} {k : Nat} {fa a : Addr} {fd : FuncData} {x : Str} {sp : Sp} {s1 : Shared} {us : List Value} {ns : List Int}
/-- the heap that knows nothing but the script -/
def onlyH (a : Addr) (o : Obj) (xs : List V) : Hp := fun b => if b = a then some (.frz o (.lst xs)) else none
/-- the law is called, while a heap H that knows at most the script stands -/
theorem law_at {H : Hp} (kin : K.In s1.heap) (hn : s1.heap.Ns mainGlobals mg) (hb : s1.heap.Ns builtinsNs mb) (hbb : ∀ z : Str, z ≠ "__name__" → mb z = bootBuiltins z) (lim : s1.heap.NoLimit) (hg : s1.gens = #[])
    (hok : HOk P w H s1.heap) (seen : ∀ b u, H b = some u → ∃ o xs n, u = HO.frz o (.lst xs) ∧ s1.heap.get? b = some o ∧ o.data = .seq n 0) (hk : ∀ b u, H b = some u → K.lookup b = none) (rm : Rm k callerA)
    (F : ∀ base : Heap, K.In base → base.Ns mainGlobals mg → FnG P w K mg base k fa fd [x] sp) (bd : ∀ (s : Shared) (u : Value), BindsTo s fd ⟨[u], []⟩ [(x, u)]) (hsp : sp [.ref a] H (fun v _ => v = .bl true) fun _ _ _ => False) :
    codeAny (model P w) callerA (.call (.ref fa) ⟨[.ref a], []⟩) (fun r s' => r = .ok (.ret (.bool true)) ∧ OldK s1.heap s'.heap ∧ s'.os = s1.os ∧ PyProof.Rows.AllBare s'.gens) s1 := by
  have hid : ∀ {b : Addr} {o : Obj}, s1.heap.get? b = some o → (∀ n, o.data ≠ .seq n 0) → (hidT s1.heap H).get? b = some o := fun {b o} e d => by
    refine hidT_get e ?_
    cases q : H b with
    | none => rfl
    | some u =>
      obtain ⟨o', xs, n, _, e', d'⟩ := seen b u q
      rw [e] at e'
      cases e'
      exact absurd d' (d n)
  have nsH : ∀ {b : Addr} {m : Str → Option Value}, s1.heap.Ns b m → (hidT s1.heap H).Ns b m := fun {b m} h => by
    obtain ⟨o, es, ep, e, d, r⟩ := h
    exact ⟨o, es, ep, hid e (fun n z => by rw [d] at z; cases z), d, r⟩
  have kinH : K.In (hidT s1.heap H) := fun b o e => by
    refine hidT_get (kin b o e) ?_
    cases q : H b with
    | none => rfl
    | some u => rw [hk b u q] at e; cases e
  have md : Mod K mg (hidT s1.heap H) := by
    obtain ⟨mc, c1, c2⟩ := lim
    exact ⟨kinH, nsH hn, ⟨mb, nsH hb, hbb⟩, ⟨mc, nsH c1, c2⟩⟩
  have env0 : Env0 P w K mg (hidT s1.heap H) callerA [] s1 H := by
    refine ⟨rfl, md, fun b o e => of_hidT e, Nat.le_of_eq (hidT_size _ _), trivial, fun b hb => ?_, hok, .of_eq hg⟩
    cases hb
  have run := (F _ kinH (nsH hn)).run callerA [] s1 H ⟨[.ref a], []⟩ [.ref a] [.ref a] _ _ rm env0 (bd s1 (.ref a)) (.cons rfl .nil) hsp
  apply codeAny_mono run
  intro r s' h
  match r, h with
  | .error e, h =>
    obtain ⟨_, _, _, _, _, _, _, _, _, _, _, _, z⟩ := h
    exact z.elim
  | .ok (.ret u), h =>
    obtain ⟨v, H', os, bare, un, hok', rv, ev⟩ := h
    have ev : v = .bl true := ev
    subst ev
    have eu : u = Value.bool true := rv
    subst eu
    refine ⟨rfl, OldK.of_keep fun b o e => ?_, os, bare⟩
    cases q : H b with
    | none =>
      refine un.keep b o e q (fun z => ?_) fun z => ?_
      · cases z
      · cases z
    | some u =>
      obtain ⟨o', xs, n, rfl, e', _⟩ := seen b u q
      rw [e] at e'
      cases e'
      exact (hok' b _ (un.frzs b o _ q)).1
theorem ints_vals : ∀ {vs : List Value} {ns : List Int}, PyProof.Rows.IntsAre vs ns → Vals (ns.map V.int) vs
  | _, _, .nil => .nil
  | _, _, .cons n t h => .cons ⟨t, rfl⟩ (ints_vals h)
theorem law_go (kin : K.In s1.heap) (hn : s1.heap.Ns mainGlobals mg) (hb : s1.heap.Ns builtinsNs mb) (hbb : ∀ z : Str, z ≠ "__name__" → mb z = bootBuiltins z) (lim : s1.heap.NoLimit) (hg : s1.gens = #[])
    (ha : s1.heap.get? a = some { cls := .type "list", data := .seq us.toArray }) (hi : PyProof.Rows.IntsAre us ns) (hl : ns.length ≤ sizeLine) (rm : Rm k callerA)
    (F : ∀ base : Heap, K.In base → base.Ns mainGlobals mg → FnG P w K mg base k fa fd [x] sp) (bd : ∀ (s : Shared) (u : Value), BindsTo s fd ⟨[u], []⟩ [(x, u)]) (hsp : ∀ H : Hp, SqL K H a (ns.map V.int) → sp [.ref a] H (fun v _ => v = .bl true) fun _ _ _ => False) :
    codeAny (model P w) callerA (.call (.ref fa) ⟨[.ref a], []⟩) (fun r s' => r = .ok (.ret (.bool true)) ∧ OldK s1.heap s'.heap ∧ s'.os = s1.os ∧ PyProof.Rows.AllBare s'.gens) s1 := by
  have rel := ints_vals hi
  have size : us.length ≤ sizeLine := by rw [← rel.length, List.length_map]; exact hl
  cases q : K.lookup a with
  | some o =>
    have e := kin a o q
    rw [ha] at e
    cases e
    refine law_at (H := fun _ => none) kin hn hb hbb lim hg ?_ ?_ ?_ rm F bd (hsp _ (.inr ⟨_, us.toArray, _, q, rfl, rfl, rfl, by simpa using size, by simpa using rel⟩))
    · intro b u z; cases z
    · intro b u z; cases z
    · intro b u z; cases z
  | none =>
    have at_ : ∀ b u, onlyH a { cls := .type "list", data := .seq us.toArray } (ns.map V.int) b = some u → b = a ∧ u = HO.frz { cls := .type "list", data := .seq us.toArray } (.lst (ns.map V.int)) := fun b u z => by
      unfold onlyH at z
      by_cases e : b = a
      · rw [if_pos e] at z; cases z; exact ⟨e, rfl⟩
      · rw [if_neg e] at z; cases z
    refine law_at (H := onlyH a { cls := .type "list", data := .seq us.toArray } (ns.map V.int)) kin hn hb hbb lim hg ?_ ?_ ?_ rm F bd (hsp _ (.inl (.inr ⟨_, if_pos rfl⟩)))
    · intro b u z
      obtain ⟨rfl, rfl⟩ := at_ b u z
      exact ⟨ha, by rw [List.length_map]; exact hl, us, 0, rel, ha⟩
    · intro b u z
      obtain ⟨rfl, rfl⟩ := at_ b u z
      exact ⟨_, _, _, rfl, ha, rfl⟩
    · intro b u z
      obtain ⟨rfl, rfl⟩ := at_ b u z
      exact q
end
/-- the goal that the head leaves, by the law's own condition -/
theorem walk_pl {l : PySem.W.OpenLaw} {n k : Nat} {q : Program} {loose : List Str} {XP : (Str → Option Value) → Heap → Prop} {YP : World → Heap → Prop} {d : DefRec} {K : Params → PySem.W.Frag} {c : Ctr} {x : Str}
    (hn : l.most = some n) (hn2 : n ≤ sizeLine) (hdf : d.params.defaults = []) (rm : Rm k callerA) (hY : ∀ (w : World) (h : Heap), YP w h → (K w.params).In h)
    (F : ∀ (w : World) (mg : Str → Option Value) (fa : Addr) (h : Heap), (K w.params).In h → h.Ns mainGlobals mg → mg d.name = some (.ref fa) →
      ∃ fd : FuncData, (∀ (s : Shared) (u : Value), BindsTo s fd ⟨[u], []⟩ [(x, u)]) ∧ ∀ base : Heap, (K w.params).In base → base.Ns mainGlobals mg → FnG l.prog w (K w.params) mg base k fa fd [x] (lift (K w.params) c))
    (hc : ∀ ns : List Int, ns.length ≤ n → c [.val (.scr ns)] (fun d _ => d = .val (.bl true)) fun _ _ => False) : PySem.W.WalkO q loose XP YP l.row.toRowW d [] (fun f vs => PySem.call f vs) := by
  refine Att.attach_call hn hdf fun w s0 s1 mg mb fa o pm cd doc a vs ns G Y ho hd hcd hmg hobj hints hlen hg => ?_
  have kin := hY w _ Y
  obtain ⟨fd, hb, hF⟩ := F w mg fa _ kin G.T.g hmg
  refine law_go kin G.T.g G.T.b G.T.builtins G.T.nolimit hg hobj hints (Nat.le_trans hlen hn2) rm hF hb fun H hS => ?_
  refine ⟨H, [.val (.scr ns)], [[]], _, _, Hx.rfl, .val (.scr hS) .nil, hc ns hlen, ?_, ?_, ?_⟩
  · intro d os v G' H' _ r e
    cases e
    cases r
    rfl
  · intro o os p l G' H' _ _ _ e
    cases e
  · intro x os cls dd G' H' _ _ z
    exact z
end Pl

/-! Pl: reading conditions: loops by what stays true -/
namespace Pl
open PySem PySem.Spec L2
theorem wFr_inv {g : D → En → (En → Prop) → Prop} {b : En → (En → Prop) → Prop} {nx : En → Prop} (J : En → Prop) (C : D → Prop) (go : ∀ x e (k : En → Prop), C x → J e → (∀ e', J e' → k e') → g x e fun e1 => b e1 k) (ex : ∀ e, J e → nx e) :
    ∀ (xs : List D) (e : En), (∀ x ∈ xs, C x) → J e → wFr g b nx xs e
  | [], e, _, j => ex e j
  | x :: r, e, h, j => go x e _ (h x (by simp)) j fun e' j' => wFr_inv J C go ex r e' (fun y hy => h y (by simp [hy])) j'
theorem rangeD_mem : ∀ {lo : Int} {n : Nat} {x : D}, x ∈ rangeD lo n → ∃ i : Int, x = .int i ∧ lo ≤ i ∧ i < lo + n
  | lo, 0, x, h => by simp [rangeD] at h
  | lo, n + 1, x, h => by
    simp only [rangeD, List.mem_cons] at h
    rcases h with rfl | h
    · exact ⟨lo, rfl, Int.le_refl _, by omega⟩
    · obtain ⟨i, h1, h2, h3⟩ := rangeD_mem h
      exact ⟨i, h1, by omega, by omega⟩
theorem rangeD_len : ∀ (lo : Int) (n : Nat), (rangeD lo n).length = n
  | _, 0 => rfl
  | lo, n + 1 => by simp [rangeD, rangeD_len (lo + 1) n]
/-- each item gives one, R; what stays true: J -/
theorem wEach_inv {f : D → En → (List D → En → Prop) → Prop} {Q : List D → En → Prop} (J : En → Prop) (C R : D → Prop) (xs0 : List D) (sz : xs0.length ≤ sizeLine) (go : ∀ x e (k : List D → En → Prop), C x → J e → (∀ y e', R y → J e' → k [y] e') → f x e k)
    (ex : ∀ ys e, ys.length = xs0.length → (∀ y ∈ ys, R y) → J e → Q ys e) :
    ∀ (xs acc : List D) (e : En), acc.length + xs.length = xs0.length → (∀ x ∈ xs, C x) → (∀ y ∈ acc, R y) → J e → wEach f xs acc e Q
  | [], acc, e, h, _, ha, j => ex acc e (by simpa using h) ha j
  | x :: r, acc, e, h, hc, ha, j => by
    refine go x e _ (hc x (by simp)) j fun y e' hy j' => ⟨?_, wEach_inv J C R xs0 sz go ex r (acc ++ [y]) e' ?_ (fun z hz => hc z (by simp [hz])) ?_ j'⟩
    · simp only [List.length_cons, List.length_nil] at h ⊢; omega
    · simp only [List.length_cons, List.length_append, List.length_nil] at h ⊢; omega
    · intro z hz
      rcases List.mem_append.mp hz with h1 | h1
      · exact ha z h1
      · simp at h1; subst h1; exact hy
/-- .. with a count -/
theorem wEach_cnt {f : D → En → (List D → En → Prop) → Prop} {Q : List D → En → Prop} (J : Nat → En → Prop) (C R : D → Prop) (xs0 : List D) (sz : xs0.length ≤ sizeLine) (go : ∀ i x e (k : List D → En → Prop), i < xs0.length → C x → J i e → (∀ y e', R y → J (i + 1) e' → k [y] e') → f x e k)
    (ex : ∀ ys e, ys.length = xs0.length → (∀ y ∈ ys, R y) → J xs0.length e → Q ys e) :
    ∀ (xs acc : List D) (e : En), acc.length + xs.length = xs0.length → (∀ x ∈ xs, C x) → (∀ y ∈ acc, R y) → J acc.length e → wEach f xs acc e Q
  | [], acc, e, h, _, ha, j => by
    have hl : acc.length = xs0.length := by simpa using h
    exact ex acc e hl ha (hl ▸ j)
  | x :: r, acc, e, h, hc, ha, j => by
    refine go acc.length x e _ (by simp only [List.length_cons] at h; omega) (hc x (by simp)) j fun y e' hy j' => ⟨?_, wEach_cnt J C R xs0 sz go ex r (acc ++ [y]) e' ?_ (fun z hz => hc z (by simp [hz])) ?_ (by simpa using j')⟩
    · simp only [List.length_cons, List.length_nil] at h ⊢; omega
    · simp only [List.length_cons, List.length_append, List.length_nil] at h ⊢; omega
    · intro z hz
      rcases List.mem_append.mp hz with h1 | h1
      · exact ha z h1
      · simp at h1; subst h1; exact hy
theorem wFr_cnt {g : D → En → (En → Prop) → Prop} {b : En → (En → Prop) → Prop} {nx : En → Prop} (J : Nat → En → Prop) (C : D → Prop) (n0 : Nat) (go : ∀ i x e (k : En → Prop), i < n0 → C x → J i e → (∀ e', J (i + 1) e' → k e') → g x e fun e1 => b e1 k) (ex : ∀ e, J n0 e → nx e) :
    ∀ (xs : List D) (i : Nat) (e : En), i + xs.length = n0 → (∀ x ∈ xs, C x) → J i e → wFr g b nx xs e
  | [], i, e, h, _, j => ex e (by simp at h; exact h ▸ j)
  | x :: r, i, e, hl, h, j => go i x e _ (by simp at hl; omega) (h x (by simp)) j fun e' j' => wFr_cnt J C n0 go ex r (i + 1) e' (by simp at hl; omega) (fun y hy => h y (by simp [hy])) j'
/-- .. at most one each -/
theorem wEach_some {f : D → En → (List D → En → Prop) → Prop} {Q : List D → En → Prop} (J : En → Prop) (C R : D → Prop) (xs0 : List D) (sz : xs0.length ≤ sizeLine) (go : ∀ x e (k : List D → En → Prop), C x → J e → (∀ ys e', ys.length ≤ 1 → (∀ y ∈ ys, R y) → J e' → k ys e') → f x e k)
    (ex : ∀ ys e, ys.length ≤ xs0.length → (∀ y ∈ ys, R y) → J e → Q ys e) :
    ∀ (xs acc : List D) (e : En), acc.length + xs.length ≤ xs0.length → (∀ x ∈ xs, C x) → (∀ y ∈ acc, R y) → J e → wEach f xs acc e Q
  | [], acc, e, h, _, ha, j => ex acc e (by simpa using h) ha j
  | x :: r, acc, e, h, hc, ha, j => by
    refine go x e _ (hc x (by simp)) j fun y e' hl hy j' => ⟨?_, wEach_some J C R xs0 sz go ex r (acc ++ y) e' ?_ (fun z hz => hc z (by simp [hz])) ?_ j'⟩
    · simp only [List.length_cons] at h ⊢; omega
    · simp only [List.length_cons, List.length_append] at h ⊢; omega
    · intro z hz
      rcases List.mem_append.mp hz with h1 | h1
      · exact ha z h1
      · exact hy z h1
/-- each item's own answer, nothing changes -/
theorem wEach_map {f : D → En → (List D → En → Prop) → Prop} {Q : List D → En → Prop} {e : En} (g : D → List D) (C : D → Prop) (go : ∀ x (k : List D → En → Prop), C x → k (g x) e → f x e k) :
    ∀ (xs acc : List D), (acc ++ xs.flatMap g).length ≤ sizeLine → (∀ x ∈ xs, C x) → Q (acc ++ xs.flatMap g) e → wEach f xs acc e Q
  | [], acc, _, _, h => by simpa [wEach] using h
  | x :: r, acc, sz, hc, h => by
    refine go x _ (hc x (by simp)) ⟨?_, wEach_map g C go r (acc ++ g x) ?_ (fun z hz => hc z (by simp [hz])) ?_⟩
    · simp only [List.flatMap_cons, List.length_append] at sz; omega
    · simpa [List.flatMap_cons] using sz
    · simpa [List.flatMap_cons] using h
end Pl

/-! Pl: reading conditions: one equation a form -/
namespace Pl
open PySem PySem.Spec L2
section
variable {Γ : Gam} {env : En} {E : Xn → En → Prop}
variable {Q : Bool → En → Prop}
theorem wT_cmp {op : CmpOp} {a b : Ex} : wT Γ (.cmp op a b) env Q E = wE Γ a env (fun x e1 => wE Γ b e1 (fun y e2 => wCmp op x y fun z => Q z e2) E) E := by
  simp only [wT, wE, D.tru, Option.some.injEq, exists_eq_left']
theorem wT_chn {o1 o2 : CmpOp} {a b c : Ex} : wT Γ (.chn o1 o2 a b c) env Q E = wE Γ a env (fun x e1 => wE Γ b e1 (fun y e2 => wCmp o1 x y fun z => if z = true then wE Γ c e2 (fun w e3 => wCmp o2 y w fun z => Q z e3) E else Q false e2) E) E := by
  simp only [wT, wE, D.tru, Option.some.injEq, exists_eq_left']
theorem wT_call {f : String} {es : Exs} : wT Γ (.call f es) env Q E = wE Γ (.call f es) env (fun x e1 => ∃ t, x.tru = some t ∧ Q t e1) E := by
  simp only [wT]
theorem wT_b1 {f : B1} {a : Ex} : wT Γ (.b1 f a) env Q E = wE Γ (.b1 f a) env (fun x e1 => ∃ t, x.tru = some t ∧ Q t e1) E := by
  simp only [wT]
theorem wT_b2 {f : B2} {a b : Ex} : wT Γ (.b2 f a b) env Q E = wE Γ (.b2 f a b) env (fun x e1 => ∃ t, x.tru = some t ∧ Q t e1) E := by
  simp only [wT]
theorem wT_idx {a b : Ex} : wT Γ (.idx a b) env Q E = wE Γ (.idx a b) env (fun x e1 => ∃ t, x.tru = some t ∧ Q t e1) E := by
  simp only [wT]
theorem wT_var {i : Nat} : wT Γ (.var i) env Q E = wRd i env fun x e1 => ∃ t, x.tru = some t ∧ Q t e1 := by
  simp only [wT]
theorem wT_not {a : Ex} : wT Γ (.not a) env Q E = wT Γ a env (fun t e1 => Q (!t) e1) E := by simp only [wT]
theorem wT_and {a b : Ex} : wT Γ (.and a b) env Q E = wT Γ a env (fun t e1 => if t = true then wT Γ b e1 Q E else Q false e1) E := by simp only [wT]
theorem wT_or {a b : Ex} : wT Γ (.or a b) env Q E = wT Γ a env (fun t e1 => if t = true then Q true e1 else wT Γ b e1 Q E) E := by simp only [wT]
theorem wT_abs : wT Γ .abs env Q E = Q true env := by simp only [wT]
theorem wA_nil {Q : List AP → En → Prop} : wA Γ .nil env Q E = Q [] env := by simp only [wA]
theorem wA_mu {i : Nat} {r : Exs} {Q : List AP → En → Prop} : wA Γ (.cons (.mu i) r) env Q E = ∃ m o, env[i]? = some (Sl.own m o) ∧ wA Γ r env (fun as e => Q (.i i :: as) e) E := by simp only [wA]
theorem wE_pop {i : Nat} {a : Ex} {Q : D → En → Prop} (h : ∀ z : a = .abs, False) : wE Γ (.pop i a) env Q E = ((∃ m ds, env[i]? = some (Sl.own m (.lst ds))) ∧ wE Γ a env (fun x e1 => wPop i (some x) e1 Q) E) := by
  cases a <;> first | exact (h rfl).elim | simp only [wE]
theorem wRd_val {i : Nat} {d : D} {Q : D → En → Prop} (h : env[i]? = some (Sl.val d)) (q : Q d env) : wRd i env Q := by unfold wRd; rw [h]; exact q
theorem wRd_own {i : Nat} {m : Bool} {o : O} {Q : D → En → Prop} (h : env[i]? = some (Sl.own m o)) (q : Q o.toD env) : wRd i env Q := by unfold wRd; rw [h]; exact q
theorem wVar_val {i : Nat} {d : D} {Q : D → En → Prop} (h : env[i]? = some (Sl.val d)) (q : Q d env) : wVar i env Q := by unfold wVar; rw [h]; exact q
theorem wVar_s {i : Nat} {a : Sl} {r : En} {Q : D → En → Prop} : wVar (i + 1) (a :: r) Q = wVar i r fun d e => Q d (a :: e) := by
  unfold wVar
  rw [List.getElem?_cons_succ]
  cases h : r[i]? with
  | none => rfl
  | some s =>
    cases s with
    | un => rfl
    | val _ => rfl
    | own m o => cases m <;> cases o <;> rfl
theorem wVar_v {d : D} {r : En} {Q : D → En → Prop} : wVar 0 (.val d :: r) Q = Q d (.val d :: r) := rfl
theorem wVar_o {o : O} {r : En} {Q : D → En → Prop} : wVar 0 (.own true o :: r) Q = Q o.toD (.val o.toD :: r) := rfl
theorem wRd_s {i : Nat} {a : Sl} {r : En} {Q : D → En → Prop} : wRd (i + 1) (a :: r) Q = wRd i r fun d e => Q d (a :: e) := by
  unfold wRd
  rw [List.getElem?_cons_succ]
theorem wRd_v {d : D} {r : En} {Q : D → En → Prop} : wRd 0 (.val d :: r) Q = Q d (.val d :: r) := rfl
theorem wRd_o {m : Bool} {o : O} {r : En} {Q : D → En → Prop} : wRd 0 (.own m o :: r) Q = Q o.toD (.own m o :: r) := rfl
theorem exOwn {a : Bool} {b : List D} : (∃ (m : Bool) (ds : List D), Sl.own a (O.lst b) = Sl.own m (O.lst ds)) = True := eq_true ⟨a, b, rfl⟩
theorem exOwn2 {a : Bool} {b : O} {P : Prop} : (∃ (m : Bool) (o : O), Sl.own a b = Sl.own m o ∧ P) = P := propext ⟨fun ⟨_, _, _, h⟩ => h, fun h => ⟨a, b, rfl, h⟩⟩
theorem exPair {α β : Type} {a : α} {P : α → β → Prop} : (∃ x y, a = x ∧ P x y) = ∃ y, P a y := propext ⟨fun ⟨_, y, e, h⟩ => ⟨y, e ▸ h⟩, fun ⟨y, h⟩ => ⟨a, y, rfl, h⟩⟩
theorem wTg_one {i : Nat} {x : D} {e : En} {Q : En → Prop} : wTg (.one i) x e Q = Q (e.set i (.val x)) := rfl
theorem wIdx_lst {xs : List D} {i : Int} {Q : D → Prop} : wIdx (.lst xs) (.int i) Q = ∃ d, atI xs i = some d ∧ Q d := rfl
theorem wIdx_tup {xs : List D} {i : Int} {Q : D → Prop} : wIdx (.tup xs) (.int i) Q = ∃ d, atI xs i = some d ∧ Q d := rfl
theorem wIdx_scr {xs : List Int} {i : Int} {Q : D → Prop} : wIdx (.scr xs) (.int i) Q = ∃ d, atI xs i = some d ∧ Q (.int d) := rfl
theorem wIdx_str {z : Str} {i : Int} {Q : D → Prop} : wIdx (.str z) (.int i) Q = ∃ c, z.length ≤ sizeLine ∧ atI z.cps.toList i = some c ∧ Q (.str ⟨#[c]⟩) := rfl
theorem wSet_s {i : Nat} {k d : D} {a : Sl} {r : En} {Q : En → Prop} : wSet (i + 1) k d (a :: r) Q = wSet i k d r fun e => Q (a :: e) := by
  unfold wSet
  rw [List.getElem?_cons_succ]
  cases h : r[i]? with
  | none => rfl
  | some s =>
    cases s with
    | un => rfl
    | val _ => rfl
    | own m o =>
      cases o with
      | dct _ _ => rfl
      | lst ds => cases k <;> rfl
theorem wSet_o {j : Int} {d : D} {m : Bool} {ds : List D} {r : En} {Q : En → Prop} : wSet 0 (.int j) d (.own m (.lst ds) :: r) Q = ∃ n, ixN ds.length j = some n ∧ Q (.own m (.lst (ds.set n d)) :: r) := rfl
theorem wApp_s {i : Nat} {d : D} {a : Sl} {r : En} {Q : En → Prop} : wApp (i + 1) d (a :: r) Q = wApp i d r fun e => Q (a :: e) := by
  unfold wApp
  rw [List.getElem?_cons_succ]
  cases h : r[i]? with
  | none => rfl
  | some s =>
    cases s with
    | un => rfl
    | val _ => rfl
    | own m o => cases m <;> cases o <;> rfl
theorem wApp_o {d : D} {m : Bool} {ds : List D} {r : En} {Q : En → Prop} : wApp 0 d (.own m (.lst ds) :: r) Q = (ds.length < sizeLine ∧ Q (.own m (.lst (ds ++ [d])) :: r)) := rfl
theorem wPop_s {i : Nat} {x : Option D} {a : Sl} {r : En} {Q : D → En → Prop} : wPop (i + 1) x (a :: r) Q = wPop i x r fun d e => Q d (a :: e) := by
  unfold wPop
  rw [List.getElem?_cons_succ]
  cases h : r[i]? with
  | none => rfl
  | some s =>
    cases s with
    | un => rfl
    | val _ => rfl
    | own m o =>
      cases o with
      | dct _ _ => rfl
      | lst ds =>
        cases x with
        | none => rfl
        | some y => cases y <;> rfl
theorem wPop_n {m : Bool} {ds : List D} {r : En} {Q : D → En → Prop} : wPop 0 none (.own m (.lst ds) :: r) Q = ∃ d, ds[ds.length - 1]? = some d ∧ Q d (.own m (.lst ds.dropLast) :: r) := rfl
theorem wPop_i {j : Int} {m : Bool} {ds : List D} {r : En} {Q : D → En → Prop} : wPop 0 (some (.int j)) (.own m (.lst ds) :: r) Q = ∃ k d, -(2 ^ 63) ≤ j ∧ j < 2 ^ 63 ∧ seqIndex? j ds.length = some k ∧ ds[k]? = some d ∧ Q d (.own m (.lst (ds.eraseIdx k)) :: r) := rfl
theorem wBin_Add_int_int {i : Int} {j : Int} {Q : D → Prop} : wBin .Add (.int i) (.int j) Q = (Q (.int (i + j))) := rfl
theorem wBin_Add_str_str {a : Str} {b : Str} {Q : D → Prop} : wBin .Add (.str a) (.str b) Q = (a.length + b.length ≤ sizeLine ∧ Q (.str (a ++ b))) := rfl
theorem wBin_Add_lst_lst {a : List D} {b : List D} {Q : D → Prop} : wBin .Add (.lst a) (.lst b) Q = (a.length + b.length ≤ sizeLine ∧ Q (.lst (a ++ b))) := rfl
theorem wBin_Add_tup_tup {a : List D} {b : List D} {Q : D → Prop} : wBin .Add (.tup a) (.tup b) Q = (a ≠ [] ∧ a.length + b.length ≤ sizeLine ∧ Q (.tup (a ++ b))) := rfl
theorem wBin_Sub_int_int {i : Int} {j : Int} {Q : D → Prop} : wBin .Sub (.int i) (.int j) Q = (Q (.int (i - j))) := rfl
theorem wBin_Mult_int_int {i : Int} {j : Int} {Q : D → Prop} : wBin .Mult (.int i) (.int j) Q = (CMulW i j ∧ Q (.int (i * j))) := rfl
theorem wBin_Mult_lst_int {a : List D} {k : Int} {Q : D → Prop} : wBin .Mult (.lst a) (.int k) Q = (-(2 ^ 63) ≤ k ∧ k < 2 ^ 63 ∧ a.length * k.toNat ≤ sizeLine ∧ Q (.lst (List.replicate k.toNat a).flatten)) := rfl
theorem wBin_Mult_tup_int {a : List D} {k : Int} {Q : D → Prop} : wBin .Mult (.tup a) (.int k) Q = (a ≠ [] ∧ 2 ≤ k ∧ k ≤ 1000 ∧ a.length ≤ 1000 ∧ Q (.tup (List.replicate k.toNat a).flatten)) := rfl
theorem wBin_FloorDiv_int_int {i : Int} {j : Int} {Q : D → Prop} : wBin .FloorDiv (.int i) (.int j) Q = (CDivW i j ∧ Q (.int (i / j))) := rfl
theorem wBin_Mod_int_int {i : Int} {j : Int} {Q : D → Prop} : wBin .Mod (.int i) (.int j) Q = (0 < j ∧ Q (.int (i % j))) := rfl
theorem wBin_Pow_int_int {i : Int} {j : Int} {Q : D → Prop} : wBin .Pow (.int i) (.int j) Q = (0 ≤ j ∧ (Builtin.Int.intBits i : Int) * j ≤ 2 ^ 27 ∧ Q (.int (i ^ j.toNat))) := rfl
theorem wCmp_Eq_x_y {x : D} {y : D} {Q : Bool → Prop} : wCmp .Eq x y Q = (wEq x y Q) := rfl
theorem wCmp_NotEq_x_y {x : D} {y : D} {Q : Bool → Prop} : wCmp .NotEq x y Q = (wEq x y fun b => Q (!b)) := rfl
theorem wCmp_Lt_int_int {i : Int} {j : Int} {Q : Bool → Prop} : wCmp .Lt (.int i) (.int j) Q = (Q (decide (i < j))) := rfl
theorem wCmp_LtE_int_int {i : Int} {j : Int} {Q : Bool → Prop} : wCmp .LtE (.int i) (.int j) Q = (Q (decide (i ≤ j))) := rfl
theorem wCmp_Gt_int_int {i : Int} {j : Int} {Q : Bool → Prop} : wCmp .Gt (.int i) (.int j) Q = (Q (decide (j < i))) := rfl
theorem wCmp_GtE_int_int {i : Int} {j : Int} {Q : Bool → Prop} : wCmp .GtE (.int i) (.int j) Q = (Q (decide (j ≤ i))) := rfl
theorem wCmp_Lt_str_str {a : Str} {b : Str} {Q : Bool → Prop} : wCmp .Lt (.str a) (.str b) Q = (Q (decide (a.cps.toList < b.cps.toList))) := rfl
theorem wCmp_LtE_str_str {a : Str} {b : Str} {Q : Bool → Prop} : wCmp .LtE (.str a) (.str b) Q = (Q (!decide (b.cps.toList < a.cps.toList))) := rfl
theorem wCmp_Gt_str_str {a : Str} {b : Str} {Q : Bool → Prop} : wCmp .Gt (.str a) (.str b) Q = (Q (decide (b.cps.toList < a.cps.toList))) := rfl
theorem wCmp_GtE_str_str {a : Str} {b : Str} {Q : Bool → Prop} : wCmp .GtE (.str a) (.str b) Q = (Q (!decide (a.cps.toList < b.cps.toList))) := rfl
theorem wCmp_In_x_y {x : D} {y : D} {Q : Bool → Prop} : wCmp .In x y Q = (wIn x y Q) := rfl
theorem wCmp_NotIn_x_y {x : D} {y : D} {Q : Bool → Prop} : wCmp .NotIn x y Q = (wIn x y fun b => Q (!b)) := rfl
theorem wCmp_Is_x_non {x : D} {Q : Bool → Prop} : wCmp .Is x .non Q = (Q x.isNon) := rfl
theorem wCmp_IsNot_x_non {x : D} {Q : Bool → Prop} : wCmp .IsNot x .non Q = (Q (!x.isNon)) := rfl
theorem wB1_len_str {z : Str} {Q : D → Prop} : wB1 .len (.str z) Q = (z.length ≤ sizeLine ∧ Q (.int z.length)) := rfl
theorem wB1_len_lst {xs : List D} {Q : D → Prop} : wB1 .len (.lst xs) Q = (Q (.int xs.length)) := rfl
theorem wB1_len_tup {xs : List D} {Q : D → Prop} : wB1 .len (.tup xs) Q = (Q (.int xs.length)) := rfl
theorem wB1_len_scr {xs : List Int} {Q : D → Prop} : wB1 .len (.scr xs) Q = (Q (.int xs.length)) := rfl
theorem wB1_abs_int {i : Int} {Q : D → Prop} : wB1 .abs (.int i) Q = (Q (.int (if i < 0 then -i else i))) := rfl
theorem wB1_int_int {i : Int} {Q : D → Prop} : wB1 .int (.int i) Q = (Q (.int i)) := rfl
theorem wB1_int_bl {b : Bool} {Q : D → Prop} : wB1 .int (.bl b) Q = (Q (.int (if b then 1 else 0))) := rfl
theorem wB1_list_lst {xs : List D} {Q : D → Prop} : wB1 .list (.lst xs) Q = (Q (.lst xs)) := rfl
theorem wB1_list_tup {xs : List D} {Q : D → Prop} : wB1 .list (.tup xs) Q = (Q (.lst xs)) := rfl
theorem wB1_list_str {z : Str} {Q : D → Prop} : wB1 .list (.str z) Q = (z.length ≤ sizeLine ∧ Q (.lst (z.cps.toList.map fun c => .str ⟨#[c]⟩))) := rfl
theorem wB1_tuple_lst {xs : List D} {Q : D → Prop} : wB1 .tuple (.lst xs) Q = (Q (.tup xs)) := rfl
theorem wB1_tuple_tup {xs : List D} {Q : D → Prop} : wB1 .tuple (.tup xs) Q = (Q (.tup xs)) := rfl
theorem wB1_all_lst {xs : List D} {Q : D → Prop} : wB1 .all (.lst xs) Q = (∃ bs, dBls xs = some bs ∧ Q (.bl (bs.all id))) := rfl
theorem wB1_any_lst {xs : List D} {Q : D → Prop} : wB1 .any (.lst xs) Q = (∃ bs, dBls xs = some bs ∧ Q (.bl (bs.any id))) := rfl
theorem wB1_max_lst {xs : List D} {Q : D → Prop} : wB1 .max (.lst xs) Q = (∃ ns, dInts xs = some ns ∧ 0 < ns.length ∧ ∀ m, m ∈ ns → (∀ y, y ∈ ns → y ≤ m) → Q (.int m)) := rfl
theorem wB1_min_lst {xs : List D} {Q : D → Prop} : wB1 .min (.lst xs) Q = (∃ ns, dInts xs = some ns ∧ 0 < ns.length ∧ ∀ m, m ∈ ns → (∀ y, y ∈ ns → m ≤ y) → Q (.int m)) := rfl
theorem wB1_repr_x {x : D} {Q : D → Prop} : wB1 .repr x Q = (∃ p, x.py = some p ∧ p.showable = true ∧ p.hasDict = false ∧ p.depth ≤ 60 ∧ p.shown.length ≤ sizeLine ∧ Q (.str p.shown)) := rfl
theorem wB1_str_int {i : Int} {Q : D → Prop} : wB1 .str (.int i) Q = (i.natAbs.log2 < 1920 ∧ Q (.str (toString i))) := rfl
theorem wB1_str_str {z : Str} {Q : D → Prop} : wB1 .str (.str z) Q = (Q (.str z)) := rfl
theorem wB2_max_int_int {i : Int} {j : Int} {Q : D → Prop} : wB2 .max (.int i) (.int j) Q = (Q (.int (if j > i then j else i))) := rfl
theorem wB2_min_int_int {i : Int} {j : Int} {Q : D → Prop} : wB2 .min (.int i) (.int j) Q = (Q (.int (if j < i then j else i))) := rfl
theorem wB2_isinstance_x_ty {c : String} {x : D} {Q : D → Prop} : wB2 .isinstance x (.ty c) Q = (∃ t, x.tyN = some t ∧ c ∈ ["int", "bool", "str", "tuple", "list", "dict"] ∧ Q (.bl (tyIs t c))) := rfl
theorem wM1_join_str_lst {xs : List D} {z : Str} {Q : D → Prop} : wM1 .join (.str z) (.lst xs) Q = (∃ ys, dStrs xs = some ys ∧ (ys.map Str.length).sum + ys.length * z.length ≤ 16777216 ∧ Q (.str (Txt.join z ys))) := rfl
theorem ix0 {n : Nat} : ixN (n + 1) 0 = some 0 := by unfold ixN; rw [if_pos (by omega), if_pos (by omega)]; rfl
theorem ix1 {n : Nat} : ixN (n + 1 + 1) 1 = some 1 := by unfold ixN; rw [if_pos (by omega), if_pos (by omega)]; rfl
theorem ix2 {n : Nat} : ixN (n + 1 + 1 + 1) 2 = some 2 := by unfold ixN; rw [if_pos (by omega), if_pos (by omega)]; rfl
theorem atI_0 {α : Type} {a : α} {r : List α} : atI (a :: r) 0 = some a := by
  unfold atI; rw [List.length_cons, ix0]; rfl
theorem atI_1 {α : Type} {a b : α} {r : List α} : atI (a :: b :: r) 1 = some b := by
  unfold atI; rw [List.length_cons, List.length_cons, ix1]; rfl
theorem atI_2 {α : Type} {a b c : α} {r : List α} : atI (a :: b :: c :: r) 2 = some c := by
  unfold atI; rw [List.length_cons, List.length_cons, List.length_cons, ix2]; rfl
theorem atI_at {α : Type} {xs : List α} {i : Int} (h0 : 0 ≤ i) (h1 : i < xs.length) : ∃ d, atI xs i = some d ∧ d ∈ xs := by
  have e : ixN xs.length i = some i.toNat := by unfold ixN; rw [if_pos h0, if_pos h1]
  have hl : i.toNat < xs.length := by omega
  refine ⟨xs[i.toNat], ?_, List.getElem_mem _⟩
  unfold atI
  rw [e]
  exact List.getElem?_eq_getElem hl
end
end Pl

/-! Pl: the drawing functions that all laws have -/
namespace Pl
open PySem PySem.Spec L2
abbrev n_glawdice : List Str := ["script", "spot", "cell", "great", "blend"]
abbrev p_glawdice : List Str := ["script", "spot"]
def b_glawdice : Stms := (.cons (.asg 2 (.bin .Add (.bin .Mult (.con (.int 73)) (.var 1)) (.con (.int 37))))
  (.cons (.ifS (.cmp .Lt (.var 1) (.b1 .len (.var 0))) (.cons (.asg 2 (.idx (.var 0) (.var 1)))
  .nil) .nil)
  (.cons (.asg 3 (.bin .Mod (.b1 .int (.b1 .abs (.var 2))) (.bin .Pow (.bin .Pow (.con (.int 10)) (.con (.int 60))) (.con (.int 10)))))
  (.cons (.asg 4 (.bin .Add (.bin .Add (.bin .Add (.bin .Mult (.bin .Mod (.b1 .int (.var 3)) (.con (.int 2305843009213693537))) (.con (.int 1000453))) (.bin .Mult (.con (.int 8117)) (.var 1))) (.bin .Mult (.con (.int 61)) (.b1 .int (.cmp .Lt (.var 2) (.con (.int 0)))))) (.con (.int 37))))
  (.cons (.retF (.lst (.cons (.b2 .max (.con (.int 0)) (.bin .Sub (.var 3) (.bin .Pow (.con (.int 10)) (.con (.int 18))))) (.cons (.bin .Mod (.b1 .int (.var 4)) (.con (.int 2305843009213693537))) (.cons (.con (.int 0)) .nil)))))
  .nil)))))
abbrev n_glawroll : List Str := ["dice", "many", "found", "one", "two"]
abbrev p_glawroll : List Str := ["dice", "many"]
def b_glawroll : Stms := (.cons (.ifS (.cmp .Gt (.idx (.rd 0) (.con (.int 0))) (.con (.int 0))) (.cons (.asg 2 (.bin .Mod (.b1 .int (.idx (.rd 0) (.con (.int 0)))) (.var 1)))
  (.cons (.setI 0 (.con (.int 0)) (.bin .FloorDiv (.idx (.rd 0) (.con (.int 0))) (.var 1)))
  (.cons (.ret (.var 2))
  .nil))) .nil)
  (.cons (.setI 0 (.con (.int 2)) (.bin .Add (.idx (.rd 0) (.con (.int 2))) (.con (.int 1))))
  (.cons (.asg 3 (.bin .Mod (.b1 .int (.bin .Add (.idx (.rd 0) (.con (.int 1))) (.bin .Mult (.con (.int 998244221)) (.idx (.rd 0) (.con (.int 2)))))) (.con (.int 2305843009213693951))))
  (.cons (.asg 4 (.bin .Add (.bin .Mult (.bin .Mod (.b1 .int (.bin .Mult (.var 3) (.var 3))) (.con (.int 2305843009213693807))) (.var 3)) (.bin .Mult (.con (.int 9439)) (.idx (.rd 0) (.con (.int 2))))))
  (.cons (.asg 4 (.bin .Mod (.b1 .int (.var 4)) (.con (.int 2305843009213693537))))
  (.cons (.ret (.bin .Mod (.b1 .int (.bin .FloorDiv (.var 4) (.con (.int 8192)))) (.var 1)))
  .nil))))))
abbrev n_glawpick : List Str := ["dice", "items"]
abbrev p_glawpick : List Str := ["dice", "items"]
def b_glawpick : Stms := (.cons (.ret (.idx (.var 1) (.call "_law_roll" (.cons (.mu 0) (.cons (.b1 .len (.var 1)) .nil)))))
  .nil)
abbrev n_glawsome : List Str := ["dice", "items", "size", "left", "turn"]
abbrev p_glawsome : List Str := ["dice", "items", "size"]
def b_glawsome : Stms := (.cons (.asgF 3 (.b1 .list (.var 1)))
  (.cons (.ret (.lc (.one 4) (.pop 3 (.call "_law_roll" (.cons (.mu 0) (.cons (.b1 .len (.rd 3)) .nil)))) (.rng1 (.b2 .min (.var 2) (.b1 .len (.rd 3)))) .abs))
  .nil))
theorem log_lt {n k : Nat} (h : n < 2 ^ k) (hk : 0 < k) : n.log2 < k := by
  by_cases h0 : n = 0
  · subst h0; simpa using hk
  · exact (Nat.log2_lt h0).mpr h
theorem mulw {i j : Int} (a b : Nat) (ha : 0 < a) (hb : 0 < b) (hi : i.natAbs < 2 ^ a) (hj : j.natAbs < 2 ^ b) (h : a + b ≤ 1000000) : CMulW i j := by
  have h1 := log_lt hi ha
  have h2 := log_lt hj hb
  show i.natAbs.log2 + j.natAbs.log2 < 1000000
  omega
theorem divw {i j : Int} (h0 : 0 < j) (hj : j < 2 ^ 64) : CDivW i j := by
  have h1 : j.natAbs.log2 < 64 := log_lt (by omega) (by omega)
  exact ⟨h0, by omega⟩
theorem abs_lt {i : Int} {k : Nat} (h0 : 0 ≤ i) (h1 : i < 2 ^ k) : i.natAbs < 2 ^ k := by
  have : ((i.natAbs : Nat) : Int) = i := Int.natAbs_of_nonneg h0
  have h2 : ((i.natAbs : Nat) : Int) < ((2 ^ k : Nat) : Int) := by rw [this]; simpa using h1
  exact Int.ofNat_lt.mp h2
/-- three whole numbers; n bounds the count of draws -/
def okDice (n : Nat) (o : O) : Prop := ∃ x y z : Int, o = .lst [.int x, .int y, .int z] ∧ 0 ≤ x ∧ 0 ≤ y ∧ y < 2305843009213693537 ∧ 0 ≤ z ∧ z ≤ n
theorem okDice.mono {n m : Nat} {o : O} (h : okDice n o) (l : n ≤ m) : okDice m o := by
  obtain ⟨x, y, z, e, a, b, c, d, f⟩ := h
  exact ⟨x, y, z, e, a, b, c, d, by omega⟩
def cRoll : Ctr := fun as Q _ => ∃ (o : O) (m : Int) (n : Nat), as = [.own o, .val (.int m)] ∧ okDice n o ∧ n < 2 ^ 60 ∧ 0 < m ∧ m < 2 ^ 62 ∧ ∀ (r : Int) o', 0 ≤ r → r < m → okDice (n + 1) o' → Q (.val (.int r)) [o']
theorem go_roll (Γ : Gam) : ∀ as Q E, cRoll as Q E → bodyC Γ n_glawroll b_glawroll as Q E := by
  rintro as Q E ⟨o, m, n, rfl, ⟨x, y, z, rfl, hx, hy, hy2, hz, hz2⟩, hn, hm, hm2, h⟩
  simp only [n_glawroll, b_glawroll, bodyC, initE, slotA, List.map_cons, List.map_nil, List.cons_append, List.nil_append, List.append_nil, List.length_cons, List.length_nil, List.replicate_succ, List.replicate_zero,
   wSs, wS, wT_cmp, wT_chn, wT_call, wT_b1, wT_b2, wT_idx, wT_var, wT_not, wT_and, wT_or, wT_abs, wE, wA, wI, wRd_s, wRd_v, wRd_o, wVar_s, wVar_v, wIdx_lst, wIdx_tup, wIdx_scr, atI_0, atI_1, atI_2,
   wBin_Add_int_int, wBin_Add_str_str, wBin_Add_lst_lst, wBin_Sub_int_int, wBin_Mult_int_int, wBin_FloorDiv_int_int, wBin_Mod_int_int, wBin_Pow_int_int, wCmp_Eq_x_y, wCmp_NotEq_x_y, wCmp_Lt_int_int, wCmp_LtE_int_int, wCmp_Gt_int_int, wCmp_GtE_int_int, wCmp_In_x_y, wCmp_NotIn_x_y, wCmp_Is_x_non, wCmp_IsNot_x_non,
   wB1_len_str, wB1_len_lst, wB1_len_tup, wB1_len_scr, wB1_abs_int, wB1_int_int, wB1_int_bl, wB1_list_lst, wB1_list_tup, wB1_list_str, wB1_tuple_lst, wB1_tuple_tup, wB1_all_lst, wB1_any_lst, wB1_repr_x, wB1_str_int, wB1_str_str, wB2_max_int_int, wB2_min_int_int, wB2_isinstance_x_ty, wM1_join_str_lst, mTy, M1.ok,
   wSet_s, wSet_o, wApp_s, wApp_o, ix0, ix1, ix2, List.getElem?_cons_zero, List.getElem?_cons_succ, O.toD, D.tru, apds, Option.map_some, Option.some.injEq, exists_eq_left', exists_eq', exOwn, exOwn2, and_true, true_and, List.set_cons_zero, List.set_cons_succ, Nat.reduceAdd, Nat.reduceSub, outsA, D.int.injEq, D.lst.injEq, D.tup.injEq, Bool.not_true, Bool.not_false, Bool.false_eq_true, if_true, if_false, ite_true, ite_false, wCall, wCallF, mus, rdAs, rdA, puts, List.nodup_cons, List.nodup_nil, List.not_mem_nil, not_false_eq_true]
  split
  · rename_i c
    refine ⟨hm, divw hm (by omega), h _ _ (Int.emod_nonneg _ (by omega)) (Int.emod_lt_of_pos _ hm) ⟨_, _, _, rfl, Int.ediv_nonneg hx (by omega), hy, hy2, hz, by omega⟩⟩
  · have hq : ∀ w : Int, 0 ≤ w % 2305843009213693951 ∧ w % 2305843009213693951 < 2 ^ 62 := fun w => ⟨Int.emod_nonneg _ (by decide), by have := Int.emod_lt_of_pos w (show (0 : Int) < 2305843009213693951 by decide); omega⟩
    have hr : ∀ w : Int, 0 ≤ w % 2305843009213693807 ∧ w % 2305843009213693807 < 2 ^ 62 := fun w => ⟨Int.emod_nonneg _ (by decide), by have := Int.emod_lt_of_pos w (show (0 : Int) < 2305843009213693807 by decide); omega⟩
    refine ⟨mulw 64 64 (by decide) (by decide) (by decide) (abs_lt (by omega) (by omega)) (by decide), by decide, mulw 64 64 (by decide) (by decide) ?_ ?_ (by decide), by decide, mulw 64 64 (by decide) (by decide) ?_ ?_ (by decide), mulw 64 64 (by decide) (by decide) (by decide) (abs_lt (by omega) (by omega)) (by decide), by decide, divw (by decide) (by decide), hm, ?_⟩
    · exact abs_lt (hq _).1 (by have := (hq (y + 998244221 * (z + 1))).2; omega)
    · exact abs_lt (hq _).1 (by have := (hq (y + 998244221 * (z + 1))).2; omega)
    · exact abs_lt (hr _).1 (Int.lt_trans (hr _).2 (by decide))
    · exact abs_lt (hq _).1 (Int.lt_trans (hq _).2 (by decide))
    · exact h _ _ (Int.emod_nonneg _ (by omega)) (Int.emod_lt_of_pos _ hm) ⟨_, _, _, rfl, hx, hy, hy2, by omega, by omega⟩
def cPick : Ctr := fun as Q _ => ∃ (o : O) (ds : List D) (n : Nat), as = [.own o, .val (.lst ds)] ∧ okDice n o ∧ n < 2 ^ 60 ∧ ds ≠ [] ∧ ds.length < 2 ^ 62 ∧ ∀ d o', d ∈ ds → okDice (n + 1) o' → Q (.val d) [o']
theorem go_pick (Γ : Gam) (hΓ : Γ.fn "_law_roll" = some cRoll) : ∀ as Q E, cPick as Q E → bodyC Γ n_glawpick b_glawpick as Q E := by
  rintro as Q E ⟨o, ds, n, rfl, hd, hn, h0, h1, h⟩
  simp only [n_glawpick, b_glawpick, hΓ, bodyC, initE, slotA, List.map_cons, List.map_nil, List.cons_append, List.nil_append, List.append_nil, List.length_cons, List.length_nil, List.replicate_succ, List.replicate_zero,
   wSs, wS, wT_cmp, wT_chn, wT_call, wT_b1, wT_b2, wT_idx, wT_var, wT_not, wT_and, wT_or, wT_abs, wE, wA, wI, wRd_s, wRd_v, wRd_o, wVar_s, wVar_v, wIdx_lst, wIdx_tup, wIdx_scr, atI_0, atI_1, atI_2,
   wBin_Add_int_int, wBin_Add_str_str, wBin_Add_lst_lst, wBin_Sub_int_int, wBin_Mult_int_int, wBin_FloorDiv_int_int, wBin_Mod_int_int, wBin_Pow_int_int, wCmp_Eq_x_y, wCmp_NotEq_x_y, wCmp_Lt_int_int, wCmp_LtE_int_int, wCmp_Gt_int_int, wCmp_GtE_int_int, wCmp_In_x_y, wCmp_NotIn_x_y, wCmp_Is_x_non, wCmp_IsNot_x_non,
   wB1_len_str, wB1_len_lst, wB1_len_tup, wB1_len_scr, wB1_abs_int, wB1_int_int, wB1_int_bl, wB1_list_lst, wB1_list_tup, wB1_list_str, wB1_tuple_lst, wB1_tuple_tup, wB1_all_lst, wB1_any_lst, wB1_repr_x, wB1_str_int, wB1_str_str, wB2_max_int_int, wB2_min_int_int, wB2_isinstance_x_ty, wM1_join_str_lst, mTy, M1.ok,
   wSet_s, wSet_o, wApp_s, wApp_o, ix0, ix1, ix2, List.getElem?_cons_zero, List.getElem?_cons_succ, O.toD, D.tru, apds, Option.map_some, Option.some.injEq, exists_eq_left', exists_eq', exOwn, exOwn2, and_true, true_and, List.set_cons_zero, List.set_cons_succ, Nat.reduceAdd, Nat.reduceSub, outsA, D.int.injEq, D.lst.injEq, D.tup.injEq, Bool.not_true, Bool.not_false, Bool.false_eq_true, if_true, if_false, ite_true, ite_false, wCall, wCallF, mus, rdAs, rdA, puts, List.nodup_cons, List.nodup_nil, List.not_mem_nil, not_false_eq_true]
  refine ⟨o, ds.length, n, rfl, hd, hn, ?_, ?_, fun r o' hr0 hr1 ho => ?_⟩
  · have := List.length_pos_iff.mpr h0
    omega
  · omega
  · obtain ⟨d, e, hm⟩ := atI_at hr0 hr1
    simp only [bodyC, initE, slotA, List.map_cons, List.map_nil, List.cons_append, List.nil_append, List.append_nil, List.length_cons, List.length_nil, List.replicate_succ, List.replicate_zero,
   wSs, wS, wT_cmp, wT_chn, wT_call, wT_b1, wT_b2, wT_idx, wT_var, wT_not, wT_and, wT_or, wT_abs, wE, wA, wI, wRd_s, wRd_v, wRd_o, wVar_s, wVar_v, wIdx_lst, wIdx_tup, wIdx_scr, atI_0, atI_1, atI_2,
   wBin_Add_int_int, wBin_Add_str_str, wBin_Add_lst_lst, wBin_Sub_int_int, wBin_Mult_int_int, wBin_FloorDiv_int_int, wBin_Mod_int_int, wBin_Pow_int_int, wCmp_Eq_x_y, wCmp_NotEq_x_y, wCmp_Lt_int_int, wCmp_LtE_int_int, wCmp_Gt_int_int, wCmp_GtE_int_int, wCmp_In_x_y, wCmp_NotIn_x_y, wCmp_Is_x_non, wCmp_IsNot_x_non,
   wB1_len_str, wB1_len_lst, wB1_len_tup, wB1_len_scr, wB1_abs_int, wB1_int_int, wB1_int_bl, wB1_list_lst, wB1_list_tup, wB1_list_str, wB1_tuple_lst, wB1_tuple_tup, wB1_all_lst, wB1_any_lst, wB1_repr_x, wB1_str_int, wB1_str_str, wB2_max_int_int, wB2_min_int_int, wB2_isinstance_x_ty, wM1_join_str_lst, mTy, M1.ok,
   wSet_s, wSet_o, wApp_s, wApp_o, ix0, ix1, ix2, List.getElem?_cons_zero, List.getElem?_cons_succ, O.toD, D.tru, apds, Option.map_some, Option.some.injEq, exists_eq_left', exists_eq', exOwn, exOwn2, and_true, true_and, List.set_cons_zero, List.set_cons_succ, Nat.reduceAdd, Nat.reduceSub, outsA, D.int.injEq, D.lst.injEq, D.tup.injEq, Bool.not_true, Bool.not_false, Bool.false_eq_true, if_true, if_false, ite_true, ite_false, wCall, wCallF, mus, rdAs, rdA, puts, List.nodup_cons, List.nodup_nil, List.not_mem_nil, not_false_eq_true]
    exact ⟨d, e, h _ _ hm ho⟩
theorem len_le {n : Nat} (h : n < 2 ^ 20) : n ≤ sizeLine := Nat.le_trans (Nat.le_of_lt h) (by decide)
theorem seq_of {i : Int} {n : Nat} (h0 : 0 ≤ i) (h1 : i < n) : seqIndex? i n = some i.toNat := by
  unfold seqIndex?
  simp only [if_neg (show ¬ i < 0 by omega)]
  rw [if_pos (by simp [h0, h1])]
theorem mem_erase {α : Type} {xs : List α} {k : Nat} {d : α} (h : d ∈ xs.eraseIdx k) : d ∈ xs := List.mem_of_mem_eraseIdx h
/-- the items go, one by one -/
def cSome : Ctr := fun as Q _ => ∃ (o : O) (ds : List D) (m : Int) (n : Nat), as = [.own o, .val (.lst ds), .val (.int m)] ∧ okDice n o ∧ n < 2 ^ 58 ∧ 0 ≤ m ∧ m < 2 ^ 30 ∧ ds.length < 2 ^ 20 ∧ ∀ es o', (∀ d ∈ es, d ∈ ds) → es.length ≤ m.toNat → okDice (n + m.toNat) o' → Q (.val (.lst es)) [o']
theorem go_some (Γ : Gam) (hΓ : Γ.fn "_law_roll" = some cRoll) : ∀ as Q E, cSome as Q E → bodyC Γ n_glawsome b_glawsome as Q E := by
  rintro as Q E ⟨o, ds, m, n, rfl, hd, hn, h0, hm, h1, h⟩
  simp only [n_glawsome, b_glawsome, hΓ, bodyC, initE, slotA, List.map_cons, List.map_nil, List.cons_append, List.nil_append, List.append_nil, List.length_cons, List.length_nil, List.replicate_succ, List.replicate_zero,
   wSs, wS, wT_cmp, wT_chn, wT_call, wT_b1, wT_b2, wT_idx, wT_var, wT_not, wT_and, wT_or, wT_abs, wE, wA, wI, wRd_s, wRd_v, wRd_o, wVar_s, wVar_v, wIdx_lst, wIdx_tup, wIdx_scr, atI_0, atI_1, atI_2,
   wBin_Add_int_int, wBin_Add_str_str, wBin_Add_lst_lst, wBin_Sub_int_int, wBin_Mult_int_int, wBin_FloorDiv_int_int, wBin_Mod_int_int, wBin_Pow_int_int, wCmp_Eq_x_y, wCmp_NotEq_x_y, wCmp_Lt_int_int, wCmp_LtE_int_int, wCmp_Gt_int_int, wCmp_GtE_int_int, wCmp_In_x_y, wCmp_NotIn_x_y, wCmp_Is_x_non, wCmp_IsNot_x_non,
   wB1_len_str, wB1_len_lst, wB1_len_tup, wB1_len_scr, wB1_abs_int, wB1_int_int, wB1_int_bl, wB1_list_lst, wB1_list_tup, wB1_list_str, wB1_tuple_lst, wB1_tuple_tup, wB1_all_lst, wB1_any_lst, wB1_repr_x, wB1_str_int, wB1_str_str, wB2_max_int_int, wB2_min_int_int, wB2_isinstance_x_ty, wM1_join_str_lst, mTy, M1.ok,
   wSet_s, wSet_o, wApp_s, wApp_o, ix0, ix1, ix2, List.getElem?_cons_zero, List.getElem?_cons_succ, O.toD, D.tru, apds, Option.map_some, Option.some.injEq, exists_eq_left', exists_eq', exOwn, exOwn2, and_true, true_and, List.set_cons_zero, List.set_cons_succ, Nat.reduceAdd, Nat.reduceSub, outsA, D.int.injEq, D.lst.injEq, D.tup.injEq, Bool.not_true, Bool.not_false, Bool.false_eq_true, if_true, if_false, ite_true, ite_false, wCall, wCallF, mus, rdAs, rdA, puts, List.nodup_cons, List.nodup_nil, List.not_mem_nil, not_false_eq_true]
  have hz : ∀ z : Int, z = (if (ds.length : Int) < m then (ds.length : Int) else m) → 0 ≤ z ∧ z ≤ ds.length ∧ z ≤ m := fun z e => by subst e; split <;> omega
  obtain ⟨z0, z1, z2⟩ := hz _ rfl
  refine ⟨by omega, by omega, ?_⟩
  generalize (if (ds.length : Int) < m then (ds.length : Int) else m) = z at z0 z1 z2
  refine wEach_cnt (fun i e => ∃ o' ds', e = [Sl.own false o', Sl.val (D.lst ds), Sl.val (D.int m), Sl.own false (O.lst ds'), Sl.un] ∧ okDice (n + i) o' ∧ ds'.length + i = ds.length ∧ ∀ d ∈ ds', d ∈ ds) (fun _ => True) (fun d => d ∈ ds) (rangeD 0 z.toNat) (by rw [rangeD_len]; exact len_le (by omega)) ?_ ?_ _ _ _ (by simp) (fun _ _ => trivial) (fun _ hy => absurd hy List.not_mem_nil) ⟨o, ds, rfl, hd, rfl, fun _ h => h⟩
  · rintro i x e k hi - ⟨o', ds', rfl, hd', hl, hs⟩ kk
    rw [rangeD_len] at hi
    simp only [wTg, Tg.ix, wipeE, bodyC, initE, slotA, List.map_cons, List.map_nil, List.cons_append, List.nil_append, List.append_nil, List.length_cons, List.length_nil, List.replicate_succ, List.replicate_zero,
   wSs, wS, wT_cmp, wT_chn, wT_call, wT_b1, wT_b2, wT_idx, wT_var, wT_not, wT_and, wT_or, wT_abs, wE, wA, wI, wRd_s, wRd_v, wRd_o, wVar_s, wVar_v, wIdx_lst, wIdx_tup, wIdx_scr, atI_0, atI_1, atI_2,
   wBin_Add_int_int, wBin_Add_str_str, wBin_Add_lst_lst, wBin_Sub_int_int, wBin_Mult_int_int, wBin_FloorDiv_int_int, wBin_Mod_int_int, wBin_Pow_int_int, wCmp_Eq_x_y, wCmp_NotEq_x_y, wCmp_Lt_int_int, wCmp_LtE_int_int, wCmp_Gt_int_int, wCmp_GtE_int_int, wCmp_In_x_y, wCmp_NotIn_x_y, wCmp_Is_x_non, wCmp_IsNot_x_non,
   wB1_len_str, wB1_len_lst, wB1_len_tup, wB1_len_scr, wB1_abs_int, wB1_int_int, wB1_int_bl, wB1_list_lst, wB1_list_tup, wB1_list_str, wB1_tuple_lst, wB1_tuple_tup, wB1_all_lst, wB1_any_lst, wB1_repr_x, wB1_str_int, wB1_str_str, wB2_max_int_int, wB2_min_int_int, wB2_isinstance_x_ty, wM1_join_str_lst, mTy, M1.ok,
   wSet_s, wSet_o, wApp_s, wApp_o, ix0, ix1, ix2, List.getElem?_cons_zero, List.getElem?_cons_succ, O.toD, D.tru, apds, Option.map_some, Option.some.injEq, exists_eq_left', exists_eq', exOwn, exOwn2, and_true, true_and, List.set_cons_zero, List.set_cons_succ, Nat.reduceAdd, Nat.reduceSub, outsA, D.int.injEq, D.lst.injEq, D.tup.injEq, Bool.not_true, Bool.not_false, Bool.false_eq_true, if_true, if_false, ite_true, ite_false, wCall, wCallF, mus, rdAs, rdA, puts, List.nodup_cons, List.nodup_nil, List.not_mem_nil, not_false_eq_true]
    refine ⟨o', ds'.length, n + i, rfl, hd', by omega, by omega, by omega, fun r o2 r0 r1 ho2 => ?_⟩
    simp only [wPop_s, wPop_i, Tg.ix, wipeE, bodyC, initE, slotA, List.map_cons, List.map_nil, List.cons_append, List.nil_append, List.append_nil, List.length_cons, List.length_nil, List.replicate_succ, List.replicate_zero,
   wSs, wS, wT_cmp, wT_chn, wT_call, wT_b1, wT_b2, wT_idx, wT_var, wT_not, wT_and, wT_or, wT_abs, wE, wA, wI, wRd_s, wRd_v, wRd_o, wVar_s, wVar_v, wIdx_lst, wIdx_tup, wIdx_scr, atI_0, atI_1, atI_2,
   wBin_Add_int_int, wBin_Add_str_str, wBin_Add_lst_lst, wBin_Sub_int_int, wBin_Mult_int_int, wBin_FloorDiv_int_int, wBin_Mod_int_int, wBin_Pow_int_int, wCmp_Eq_x_y, wCmp_NotEq_x_y, wCmp_Lt_int_int, wCmp_LtE_int_int, wCmp_Gt_int_int, wCmp_GtE_int_int, wCmp_In_x_y, wCmp_NotIn_x_y, wCmp_Is_x_non, wCmp_IsNot_x_non,
   wB1_len_str, wB1_len_lst, wB1_len_tup, wB1_len_scr, wB1_abs_int, wB1_int_int, wB1_int_bl, wB1_list_lst, wB1_list_tup, wB1_list_str, wB1_tuple_lst, wB1_tuple_tup, wB1_all_lst, wB1_any_lst, wB1_repr_x, wB1_str_int, wB1_str_str, wB2_max_int_int, wB2_min_int_int, wB2_isinstance_x_ty, wM1_join_str_lst, mTy, M1.ok,
   wSet_s, wSet_o, wApp_s, wApp_o, ix0, ix1, ix2, List.getElem?_cons_zero, List.getElem?_cons_succ, O.toD, D.tru, apds, Option.map_some, Option.some.injEq, exists_eq_left', exists_eq', exOwn, exOwn2, and_true, true_and, List.set_cons_zero, List.set_cons_succ, Nat.reduceAdd, Nat.reduceSub, outsA, D.int.injEq, D.lst.injEq, D.tup.injEq, Bool.not_true, Bool.not_false, Bool.false_eq_true, if_true, if_false, ite_true, ite_false, wCall, wCallF, mus, rdAs, rdA, puts, List.nodup_cons, List.nodup_nil, List.not_mem_nil, not_false_eq_true]
    have hk : r.toNat < ds'.length := by omega
    refine ⟨r.toNat, ds'[r.toNat], by omega, by omega, seq_of r0 r1, List.getElem?_eq_getElem hk, ?_⟩
    exact kk _ _ (hs _ (List.getElem_mem _)) ⟨o2, _, rfl, ho2, by rw [List.length_eraseIdx_of_lt hk]; omega, fun d hd => hs d (mem_erase hd)⟩
  · rintro ys e hy hr ⟨o', ds', rfl, hd', hl, hs⟩
    rw [rangeD_len] at hy hl
    refine ⟨[o'], rfl, h ys o' hr (by omega) (hd'.mono (by rw [rangeD_len]; omega))⟩
theorem ite_cell {ns : List Int} {i : Int} {P : Int → Prop} {j : Int} (h0 : 0 ≤ i) (h : ∀ d, P d) : if decide (i < (ns.length : Int)) = true then ∃ d, atI ns i = some d ∧ P d else P j := by
  split
  · rename_i c
    obtain ⟨d, e, _⟩ := atI_at h0 (of_decide_eq_true c)
    exact ⟨d, e, h d⟩
  · exact h _
def cDice : Ctr := fun as Q _ => ∃ (ns : List Int) (i : Int), as = [.val (.scr ns), .val (.int i)] ∧ 0 ≤ i ∧ i < 2 ^ 40 ∧ ∀ o, okDice 0 o → Q (.own o) []
theorem go_dice (Γ : Gam) : ∀ as Q E, cDice as Q E → bodyC Γ n_glawdice b_glawdice as Q E := by
  rintro as Q E ⟨ns, i, rfl, h0, h1, h⟩
  simp only [n_glawdice, b_glawdice, bodyC, initE, slotA, List.map_cons, List.map_nil, List.cons_append, List.nil_append, List.append_nil, List.length_cons, List.length_nil, List.replicate_succ, List.replicate_zero,
   wSs, wS, wT_cmp, wT_chn, wT_call, wT_b1, wT_b2, wT_idx, wT_var, wT_not, wT_and, wT_or, wT_abs, wE, wA, wI, wRd_s, wRd_v, wRd_o, wVar_s, wVar_v, wIdx_lst, wIdx_tup, wIdx_scr, atI_0, atI_1, atI_2,
   wBin_Add_int_int, wBin_Add_str_str, wBin_Add_lst_lst, wBin_Sub_int_int, wBin_Mult_int_int, wBin_FloorDiv_int_int, wBin_Mod_int_int, wBin_Pow_int_int, wCmp_Eq_x_y, wCmp_NotEq_x_y, wCmp_Lt_int_int, wCmp_LtE_int_int, wCmp_Gt_int_int, wCmp_GtE_int_int, wCmp_In_x_y, wCmp_NotIn_x_y, wCmp_Is_x_non, wCmp_IsNot_x_non,
   wB1_len_str, wB1_len_lst, wB1_len_tup, wB1_len_scr, wB1_abs_int, wB1_int_int, wB1_int_bl, wB1_list_lst, wB1_list_tup, wB1_list_str, wB1_tuple_lst, wB1_tuple_tup, wB1_all_lst, wB1_any_lst, wB1_repr_x, wB1_str_int, wB1_str_str, wB2_max_int_int, wB2_min_int_int, wB2_isinstance_x_ty, wM1_join_str_lst, mTy, M1.ok,
   wSet_s, wSet_o, wApp_s, wApp_o, ix0, ix1, ix2, List.getElem?_cons_zero, List.getElem?_cons_succ, O.toD, D.tru, apds, Option.map_some, Option.some.injEq, exists_eq_left', exists_eq', exOwn, exOwn2, and_true, true_and, List.set_cons_zero, List.set_cons_succ, Nat.reduceAdd, Nat.reduceSub, outsA, D.int.injEq, D.lst.injEq, D.tup.injEq, Bool.not_true, Bool.not_false, Bool.false_eq_true, if_true, if_false, ite_true, ite_false, wCall, wCallF, mus, rdAs, rdA, puts, List.nodup_cons, List.nodup_nil, List.not_mem_nil, not_false_eq_true]
  refine ⟨mulw 64 64 (by decide) (by decide) (by decide) (abs_lt h0 (by omega)) (by decide), ite_cell h0 fun d => ?_⟩
  refine ⟨by decide, by decide +kernel, by decide, by decide +kernel, by decide +kernel, by decide, mulw 64 64 (by decide) (by decide) ?_ (by decide) (by decide), mulw 64 64 (by decide) (by decide) (by decide) (abs_lt h0 (by omega)) (by decide), mulw 64 64 (by decide) (by decide) (by decide) (by split <;> decide) (by decide), by decide, by decide +kernel, by decide, by decide, h _ ⟨_, _, _, rfl, ?_, ?_, ?_, Int.le_refl _, by decide⟩⟩
  · generalize (if d < 0 then -d else d) % (10 ^ Int.toNat 60) ^ Int.toNat 10 = w
    exact abs_lt (Int.emod_nonneg _ (by decide)) (Int.lt_trans (Int.emod_lt_of_pos _ (by decide)) (by decide))
  · generalize (if d < 0 then -d else d) % (10 ^ Int.toNat 60) ^ Int.toNat 10 - 10 ^ Int.toNat 18 = w
    split <;> omega
  · exact Int.emod_nonneg _ (by decide)
  · exact Int.emod_lt_of_pos _ (by decide)
end Pl

/-! Pl: plain facts about texts and shapes -/
namespace Pl
open PySem PySem.Spec L2
theorem strOk_iff {z : Str} : PyData.strOk z = true ↔ ∀ c ∈ z.cps.toList, c < 0x110000 := by
  unfold PyData.strOk
  rw [Array.all_eq_true']
  simp
theorem strs_py : ∀ zs : List Str, (∀ z ∈ zs, PyData.strOk z = true) → pys (zs.map D.str) = some (zs.map PyData.str) ∧ PyData.canLayAll0 (zs.map PyData.str) = true ∧ PyData.depthAll (zs.map PyData.str) = 0
  | [], _ => ⟨rfl, rfl, rfl⟩
  | z :: r, h => by
    obtain ⟨a, b, c⟩ := strs_py r fun y hy => h y (by simp [hy])
    refine ⟨?_, ?_, ?_⟩
    · simp [pys, D.py, a]
    · simp [PyData.canLayAll0, PyData.canLay0, b, h z (by simp)]
    · simp [PyData.depthAll, PyData.depth, c]
theorem shaped_str {z : Str} (h : PyData.strOk z = true) : SeqAt.shaped (.str z) = true := by
  unfold SeqAt.shaped
  simp [PyData.canLay0, PyData.depth, h]
theorem shaped_strs {zs : List Str} (h : ∀ z ∈ zs, PyData.strOk z = true) : SeqAt.shaped (.list (zs.map .str)) = true := by
  obtain ⟨a, b, c⟩ := strs_py zs h
  unfold SeqAt.shaped
  simp [PyData.canLay0, PyData.depth, b, c]
theorem strOk_ch {z : Str} (h : PyData.strOk z = true) {c : Nat} (hc : c ∈ z.cps.toList) : PyData.strOk ⟨#[c]⟩ = true := by
  rw [strOk_iff] at h ⊢
  intro d hd
  simp at hd
  subst hd
  exact h _ hc
theorem strOk_add {a b : Str} (ha : PyData.strOk a = true) (hb : PyData.strOk b = true) : PyData.strOk (a ++ b) = true := by
  rw [strOk_iff] at ha hb ⊢
  intro c hc
  rcases PyProof.Rows.mem_cps_append.mp hc with h | h
  · exact ha c h
  · exact hb c h
theorem strOk_join {z : Str} {ys : List Str} (hz : PyData.strOk z = true) (h : ∀ y ∈ ys, PyData.strOk y = true) : PyData.strOk (Txt.join z ys) = true := by
  show PyData.strOk (Builtin.Str.glued z ys) = true
  rw [StrLaws.glued_eq_join, strOk_iff]
  intro c hc
  rcases (PyProof.Rows.mem_join z c ys).mp hc with ⟨t, ht, h1⟩ | ⟨_, h1⟩
  · exact strOk_iff.mp (h t ht) c h1
  · exact strOk_iff.mp hz c h1
theorem dStrs_map : ∀ ys : List Str, dStrs (ys.map D.str) = some ys
  | [] => rfl
  | y :: r => by simp [dStrs, dStrs_map r]
theorem dBls_map : ∀ ys : List Bool, dBls (ys.map D.bl) = some ys
  | [] => rfl
  | y :: r => by simp [dBls, dBls_map r]
theorem strs_of : ∀ {ds : List D}, (∀ d ∈ ds, ∃ z, d = .str z) → ∃ zs : List Str, ds = zs.map D.str
  | [], _ => ⟨[], rfl⟩
  | d :: r, h => by
    obtain ⟨z, rfl⟩ := h d (by simp)
    obtain ⟨zs, e⟩ := strs_of (ds := r) fun x hx => h x (by simp [hx])
    exact ⟨z :: zs, by simp [e]⟩
theorem tjoin_len (z : Str) (ys : List Str) : (Txt.join z ys).length = (ys.map (·.length)).sum + (ys.length - 1) * z.length := PySem.size_glued z ys
theorem sum_le {ys : List Str} {k : Nat} (h : ∀ y ∈ ys, y.length ≤ k) : (ys.map (·.length)).sum ≤ ys.length * k := by
  induction ys with
  | nil => simp
  | cons y r ih =>
    have h1 := ih fun x hx => h x (by simp [hx])
    have h2 := h y (by simp)
    simp only [List.map_cons, List.sum_cons, List.length_cons, Nat.succ_mul]
    omega
theorem inV2 {z a b : Str} : inV (.str z) [.str a, .str b] = (a == z || b == z) := by
  simp [inV, eqV]
theorem map_all {α : Type} (xs : List α) (p : α → Bool) : (xs.map p).all id = xs.all p := by
  induction xs with
  | nil => rfl
  | cons x r ih => simp [ih]
theorem fm1 {α β : Type} (f : α → β) : ∀ xs : List α, (xs.flatMap fun a => [f a]) = xs.map f
  | [] => rfl
  | x :: r => by rw [List.flatMap_cons, fm1 f r]; rfl
/-- a text of at most k signs -/
def shortB (k : Nat) : D → Bool
  | .str z => decide (z.length ≤ k) && PyData.strOk z
  | _ => false
theorem shortB_of {k : Nat} {d : D} (h : shortB k d = true) : ∃ z, d = .str z ∧ z.length ≤ k ∧ PyData.strOk z = true := by
  cases d <;> first | (unfold shortB at h; simp at h; exact ⟨_, rfl, h⟩) | cases h
theorem all_of {p : D → Bool} {xs : List D} (h : xs.all p = true) {d : D} (hm : d ∈ xs) : p d = true := List.all_eq_true.mp h d hm
theorem weq_int {i j : Int} {Q : Bool → Prop} (h : Q (i == j)) : wEq (.int i) (.int j) Q := ⟨_, _, rfl, rfl, by simp [SeqAt.shaped, PyData.canLay0, PyData.depth], by simp [SeqAt.shaped, PyData.canLay0, PyData.depth], by simpa [PyData.eqv] using h⟩
theorem weq_str {y z : Str} {Q : Bool → Prop} (hy : PyData.strOk y = true) (hz : PyData.strOk z = true) (h : Q (y == z)) : wEq (.str y) (.str z) Q := ⟨_, _, rfl, rfl, shaped_str hy, shaped_str hz, by simpa [PyData.eqv] using h⟩
theorem mem_rep {α : Type} {a : List α} {k : Nat} {d : α} (h : d ∈ (List.replicate k a).flatten) : d ∈ a := by
  obtain ⟨l, h1, h2⟩ := List.mem_flatten.mp h
  rw [(List.mem_replicate.mp h1).2] at h2
  exact h2
theorem softAs_nil {e : En} : softAs [] e = [] := rfl
end Pl

/-! Pl: what the top has written, put together -/
namespace Pl
open PySem PySem.Spec L2
def AllQ {α : Type} (p : α → Prop) : List α → Prop
  | [] => True
  | x :: r => p x ∧ AllQ p r
theorem AllQ.look {κ β : Type} [BEq κ] [LawfulBEq κ] {p : κ × β → Prop} : ∀ {l : List (κ × β)} {x : κ} {c : β}, AllQ p l → l.lookup x = some c → p (x, c)
  | [], x, c, _, e => by cases e
  | (y, d) :: r, x, c, h, e => by
    rw [List.lookup_cons] at e
    cases q : x == y with
    | true =>
      rw [q] at e
      cases e
      have : x = y := eq_of_beq q
      subst this
      exact h.1
    | false => rw [q] at e; exact AllQ.look h.2 e
def exT (sl : List ((String × String) × Bool)) (cl : List (String × Option String)) : ExT := ⟨fun a b => sl.lookup (a, b), fun x => cl.lookup x⟩
section
variable {k : Nat} {P : Program} {w : World} {K : PySem.W.Frag} {mg : Str → Option Value} {base : Heap}
/-- a constant of the top -/
def GlF (K : PySem.W.Frag) (mg : Str → Option Value) (x : String × D) : Prop := ∃ u v, mg (x.1 : Str) = some u ∧ RelV v u ∧ Rep K (fun _ => none) v x.2
/-- a def that keeps its promise -/
def FnF (k : Nat) (P : Program) (w : World) (K : PySem.W.Frag) (mg : Str → Option Value) (base : Heap) (x : String × Ctr) : Prop := ∃ f fd ps j, j ≤ k ∧ mg (x.1 : Str) = some (.ref f) ∧ PySem.W.keepIn K (.ref f) = true ∧ Binds K fd ps [] ∧ FnG P w K mg base j f fd ps (lift K x.2)
theorem FnF.mono {k k' : Nat} {x : String × Ctr} (h : FnF k P w K mg base x) (l : k ≤ k') : FnF k' P w K mg base x := by
  obtain ⟨f, fd, ps, j, a, r⟩ := h
  exact ⟨f, fd, ps, j, Nat.le_trans a l, r⟩
theorem glo_of {gl : List (String × D)} {fl : List (String × Ctr)} (bt : ∀ x ∈ blts, mg x = none) (hg : AllQ (GlF K mg) gl) (hf : AllQ (FnF k P w K mg base) fl) : Glo ⟨fun x => gl.lookup x, fun x => fl.lookup x, noEx⟩ k P w K mg base :=
  ⟨fun x d h => hg.look h, bt, (fun a b t h => by cases h), (fun x h => by cases h), fun x c h => hf.look h⟩
theorem glo_ex {gl : List (String × D)} {fl : List (String × Ctr)} {sl : List ((String × String) × Bool)} {cl : List (String × Option String)} (bt : ∀ x ∈ blts, mg x = none) (hg : AllQ (GlF K mg) gl) (hf : AllQ (FnF k P w K mg base) fl)
    (hs : AllQ (fun p => SubF K mg p.1.1 p.1.2 p.2) sl) (hc : AllQ (fun p => p.2 = none → ClP K mg p.1) cl) : Glo ⟨fun x => gl.lookup x, fun x => fl.lookup x, exT sl cl⟩ k P w K mg base :=
  ⟨fun x d h => hg.look h, bt, fun a b t h => hs.look h, fun x h => hc.look h rfl, fun x c h => hf.look h⟩
theorem exm_of {C : Addr} {a : Value} {t : Bool} (h1 : PySem.W.subIn K (.ref C) (.type "BaseException") = some true) (h2 : PySem.W.isClsIn K C = true) (h3 : PySem.W.typeIn K (.ref C) = some (.type "type")) (h4 : PySem.W.subIn K a (.ref C) = some t) : PySem.W.exmOne K a (.ref C) = some t := by
  have q1 : (PySem.W.subIn K (.ref C) (.type "BaseException") == some true) = true := by rw [h1]; rfl
  have q2 : ((PySem.W.clsIn K C).isSome && PySem.W.typeIn K (.ref C) == some (.type "type")) = true := by
    rw [show (PySem.W.clsIn K C).isSome = true from h2, h3]; rfl
  unfold PySem.W.exmOne
  rw [if_pos q1]
  unfold PySem.W.kitCls
  exact (if_pos q2).trans h4
theorem sub_of {a b : String} {ca cb : Value} {t : Bool} (ha : PySem.W.nsIn K mainGlobals (a : Str) = some (some ca)) (hb : mg (b : Str) = some cb) (h : PySem.W.exmOne K ca cb = some t) : SubF K mg a b t :=
  ⟨cb, hb, fun ca' h' => by rw [ha] at h'; cases h'; exact h⟩
theorem gl_int {x : String} {i : Int} {t : Tok} (h : mg (x : Str) = some (.int i t)) : GlF K mg (x, .int i) := ⟨_, .int i, h, ⟨t, rfl⟩, .int _⟩
theorem gl_str {x : String} {z : Str} {t : Tok} (h : mg (x : Str) = some (.str z t)) : GlF K mg (x, .str z) := ⟨_, .str z, h, ⟨t, rfl⟩, .str _⟩
end
end Pl

namespace Pl
open PySem PySem.Spec L2
def top (i : Nat) : Stmt := PySem.Challenge.pw_eitherhand_k02_hands_and_integers_judged.main.body.getD i (.Pass ⟨0, 0, 0, 0⟩)
abbrev s_glawdice : Stmt := top 13
theorem sc_glawdice : FnScope n_glawdice p_glawdice (defScope s_glawdice) := ⟨rfl, rfl, rfl, by decide +kernel, rfl, by decide +kernel, by decide +kernel⟩
theorem ck_glawdice : ckSs n_glawdice (defScope s_glawdice) b_glawdice (defBody s_glawdice) = true := by decide +kernel
abbrev s_glawroll : Stmt := top 14
theorem sc_glawroll : FnScope n_glawroll p_glawroll (defScope s_glawroll) := ⟨rfl, rfl, rfl, by decide +kernel, rfl, by decide +kernel, by decide +kernel⟩
theorem ck_glawroll : ckSs n_glawroll (defScope s_glawroll) b_glawroll (defBody s_glawroll) = true := by decide +kernel
abbrev s_glawpick : Stmt := top 15
theorem sc_glawpick : FnScope n_glawpick p_glawpick (defScope s_glawpick) := ⟨rfl, rfl, rfl, by decide +kernel, rfl, by decide +kernel, by decide +kernel⟩
theorem ck_glawpick : ckSs n_glawpick (defScope s_glawpick) b_glawpick (defBody s_glawpick) = true := by decide +kernel
abbrev s_glawrow : Stmt := top 17
abbrev n_glawrow : List Str := ["dice", "size", "small", "some", "odd"]
abbrev p_glawrow : List Str := ["dice"]
def b_glawrow : Stms := (.cons (.asgP [1, 2] (.cons (.call "_law_pick" (.cons (.mu 0) (.cons (.lst (.cons (.bin .Pow (.con (.int 10)) (.con (.int 59))) (.cons (.bin .Sub (.bin .Pow (.con (.int 10)) (.con (.int 60))) (.con (.int 1))) (.cons (.con (.int 200)) (.cons (.bin .Pow (.con (.int 10)) (.con (.int 18))) .nil))))) .nil))) (.cons (.call "_law_roll" (.cons (.mu 0) (.cons (.con (.int 100)) .nil))) .nil)))
  (.cons (.asgF 3 (.lst (.cons (.tup (.cons (.var 1) (.cons (.con (.bl true)) (.cons (.con .non) .nil)))) (.cons (.tup (.cons (.bin .Sub (.con (.int 0)) (.var 1)) (.cons (.con (.bl true)) (.cons (.con .non) .nil)))) (.cons (.tup (.cons (.bin .Add (.bin .Pow (.con (.int 10)) (.con (.int 60))) (.var 2)) (.cons (.con (.bl false)) (.cons (.con .non) .nil)))) (.cons (.tup (.cons (.var 2) (.cons (.con (.bl true)) (.cons (.con .non) .nil)))) .nil))))))
  (.cons (.asgF 3 (.bin .Add (.rd 3) (.lst (.cons (.tup (.cons (.bin .Sub (.bin .Sub (.con (.int 0)) (.bin .Pow (.con (.int 10)) (.con (.int 60)))) (.var 2)) (.cons (.con (.bl false)) (.cons (.con .non) .nil)))) (.cons (.tup (.cons (.cmp .Eq (.bin .Mod (.var 2) (.con (.int 2))) (.con (.int 1))) (.cons (.con (.bl false)) (.cons (.con .non) .nil)))) .nil)))))
  (.cons (.asgF 3 (.bin .Add (.rd 3) (.bin .Mult (.lst (.cons (.tup (.cons (.con (.str "keeper")) (.cons (.con (.bl false)) (.cons (.con (.str "caller")) .nil)))) (.cons (.tup (.cons (.con (.str "caller")) (.cons (.con (.bl false)) (.cons (.con (.str "keeper")) .nil)))) .nil))) (.con (.int 5)))))
  (.cons (.forS (.one 4) (.seq (.lst (.cons (.con .non) (.cons (.con (.str "1")) (.cons (.con (.str "")) (.cons (.tup (.cons (.con (.int 1)) .nil)) (.cons (.lst .nil) (.cons (.dct .nil .nil) (.cons (.tup .nil) (.cons (.con (.str "Keeper")) (.cons (.con (.str "keeper ")) (.cons (.con (.str "call")) (.cons (.con (.str "callers")) (.cons (.tup (.cons (.con (.str "keeper")) .nil)) (.cons (.lst (.cons (.con (.str "caller")) .nil)) (.cons (.con (.str "mine")) .nil)))))))))))))))) (.cons (.app 3 (.tup (.cons (.var 4) (.cons (.con (.bl false)) (.cons (.con .non) .nil)))))
  .nil))
  (.cons (.ret (.call "_law_pick" (.cons (.mu 0) (.cons (.var 3) .nil))))
  .nil))))))
theorem sc_glawrow : FnScope n_glawrow p_glawrow (defScope s_glawrow) := ⟨rfl, rfl, rfl, by decide +kernel, rfl, by decide +kernel, by decide +kernel⟩
theorem ck_glawrow : ckSs n_glawrow (defScope s_glawrow) b_glawrow (defBody s_glawrow) = true := by decide +kernel
abbrev s_gisinteger : Stmt := top 8
abbrev n_gisinteger : List Str := ["value"]
abbrev p_gisinteger : List Str := ["value"]
def b_gisinteger : Stms := (.cons (.ret (.and (.b2 .isinstance (.var 0) (.bty "int")) (.and (.not (.b2 .isinstance (.var 0) (.bty "bool"))) (.chn .Lt .Lt (.neg (.glb "LONGEST")) (.var 0) (.glb "LONGEST")))))
  .nil)
theorem sc_gisinteger : FnScope n_gisinteger p_gisinteger (defScope s_gisinteger) := ⟨rfl, rfl, rfl, by decide +kernel, rfl, by decide +kernel, by decide +kernel⟩
theorem ck_gisinteger : ckSs n_gisinteger (defScope s_gisinteger) b_gisinteger (defBody s_gisinteger) = true := by decide +kernel
abbrev s_gishand : Stmt := top 9
abbrev n_gishand : List Str := ["value"]
abbrev p_gishand : List Str := ["value"]
def b_gishand : Stms := (.cons (.ret (.and (.b2 .isinstance (.var 0) (.bty "str")) (.cmp .In (.var 0) (.glb "HANDS"))))
  .nil)
theorem sc_gishand : FnScope n_gishand p_gishand (defScope s_gishand) := ⟨rfl, rfl, rfl, by decide +kernel, rfl, by decide +kernel, by decide +kernel⟩
theorem ck_gishand : ckSs n_gishand (defScope s_gishand) b_gishand (defBody s_gishand) = true := by decide +kernel
abbrev s_grequirehand : Stmt := top 10
abbrev n_grequirehand : List Str := ["value"]
abbrev p_grequirehand : List Str := ["value"]
def b_grequirehand : Stms := (.cons (.ifS (.not (.call "is_hand" (.cons (.var 0) .nil))) (.cons (.rse "InvalidOperation" .abs)
  .nil) .nil)
  .nil)
theorem sc_grequirehand : FnScope n_grequirehand p_grequirehand (defScope s_grequirehand) := ⟨rfl, rfl, rfl, by decide +kernel, rfl, by decide +kernel, by decide +kernel⟩
theorem ck_grequirehand : ckSs n_grequirehand (defScope s_grequirehand) b_grequirehand (defBody s_grequirehand) = true := by decide +kernel
abbrev s_gotherhand : Stmt := top 11
abbrev n_gotherhand : List Str := ["hand"]
abbrev p_gotherhand : List Str := ["hand"]
def b_gotherhand : Stms := (.cons (.exp (.call "require_hand" (.cons (.var 0) .nil)))
  (.cons (.ret (.ite (.cmp .Eq (.var 0) (.glb "CALLER")) (.glb "KEEPER") (.glb "CALLER")))
  .nil))
theorem sc_gotherhand : FnScope n_gotherhand p_gotherhand (defScope s_gotherhand) := ⟨rfl, rfl, rfl, by decide +kernel, rfl, by decide +kernel, by decide +kernel⟩
theorem ck_gotherhand : ckSs n_gotherhand (defScope s_gotherhand) b_gotherhand (defBody s_gotherhand) = true := by decide +kernel
abbrev s_glawother : Stmt := top 16
abbrev n_glawother : List Str := ["value"]
abbrev p_glawother : List Str := ["value"]
def b_glawother : Stms := (.cons (.trC (.cons (.ret (.call "other_hand" (.cons (.var 0) .nil)))
  .nil) [("InvalidOperation", .non)])
  .nil)
theorem sc_glawother : FnScope n_glawother p_glawother (defScope s_glawother) := ⟨rfl, rfl, rfl, by decide +kernel, rfl, by decide +kernel, by decide +kernel⟩
theorem ck_glawother : ckSs n_glawother (defScope s_glawother) b_glawother (defBody s_glawother) = true := by decide +kernel
abbrev s_glaw : Stmt := top 18
abbrev n_glaw : List Str := ["script", "spot", "dice", "turn", "value", "is_number", "other"]
abbrev p_glaw : List Str := ["script"]
def b_glaw : Stms := (.cons (.forS (.one 1) (.rng1 (.b2 .max (.con (.int 1)) (.b2 .min (.con (.int 8)) (.b1 .len (.var 0))))) (.cons (.asgC 2 "_law_dice" (.cons (.var 0) (.cons (.var 1) .nil)))
  (.cons (.forS (.one 3) (.rng1 (.con (.int 30))) (.cons (.asgT [4, 5, 6] (.call "_law_row" (.cons (.mu 2) .nil)))
  (.cons (.ifS (.cmp .NotEq (.b1 .repr (.lst (.cons (.call "is_integer" (.cons (.var 4) .nil)) (.cons (.call "is_hand" (.cons (.var 4) .nil)) .nil)))) (.b1 .repr (.lst (.cons (.var 5) (.cons (.cmp .IsNot (.var 6) (.con .non)) .nil))))) (.cons (.ret (.con (.bl false)))
  .nil) .nil)
  (.cons (.ifS (.cmp .NotEq (.call "_law_other" (.cons (.var 4) .nil)) (.var 6)) (.cons (.ret (.con (.bl false)))
  .nil) .nil)
  .nil))))
  .nil)))
  (.cons (.ifS (.cmp .NotEq (.lst (.cons (.call "is_integer" (.cons (.bin .Sub (.bin .Pow (.con (.int 10)) (.con (.int 60))) (.con (.int 1))) .nil)) (.cons (.call "is_integer" (.cons (.bin .Pow (.con (.int 10)) (.con (.int 60))) .nil)) (.cons (.call "is_integer" (.cons (.bin .Sub (.con (.int 0)) (.bin .Pow (.con (.int 10)) (.con (.int 60)))) .nil)) (.cons (.call "is_integer" (.cons (.con (.bl true)) .nil)) .nil))))) (.bin .Add (.lst (.cons (.con (.bl true)) .nil)) (.bin .Mult (.lst (.cons (.con (.bl false)) .nil)) (.con (.int 3))))) (.cons (.ret (.con (.bl false)))
  .nil) .nil)
  (.cons (.ret (.and (.cmp .Eq (.glb "HANDS") (.tup (.cons (.con (.str "caller")) (.cons (.con (.str "keeper")) .nil)))) (.cmp .Eq (.call "other_hand" (.cons (.call "other_hand" (.cons (.con (.str "caller")) .nil)) .nil)) (.con (.str "caller")))))
  .nil)))
theorem sc_glaw : FnScope n_glaw p_glaw (defScope s_glaw) := ⟨rfl, rfl, rfl, by decide +kernel, rfl, by decide +kernel, by decide +kernel⟩
theorem ck_glaw : ckSs n_glaw (defScope s_glaw) b_glaw (defBody s_glaw) = true := by decide +kernel
--  _law_dice [] [] ['len', 'int', 'abs', 'max'] set() True
--  _law_roll [] [] ['int'] {'dice'} False
--  _law_pick ['_law_roll'] [] ['len'] {'dice'} False
--  _law_row ['_law_pick', '_law_roll'] [] [] {'dice'} False
--  is_integer [] ['LONGEST'] ['isinstance', 'bool', 'int'] set() False
--  is_hand [] ['HANDS'] ['isinstance', 'str'] set() False
--  require_hand ['is_hand'] [] [] set() False
--  other_hand ['require_hand'] ['CALLER', 'KEEPER'] [] set() False
--  _law_other ['other_hand'] [] [] set() False
--  law ['_law_dice', '_law_row', 'is_integer', 'is_hand', '_law_other', 'other_hand'] ['HANDS'] ['range', 'max', 'min', 'len', 'repr'] set() False
end Pl

namespace Pl
open PySem PySem.Spec L2
def big : Int := 10 ^ 60
/-- what each is, by this text's own words -/
def isInt : D → Bool
  | .int i => decide (-big < i) && decide (i < big)
  | _ => false
def isHand : D → Bool
  | .str z => (z == "caller") || (z == "keeper")
  | _ => false
def okV (d : D) : Prop := (∃ t, d.tyN = some t) ∧ ∀ z, d = .str z → PyData.strOk z = true
def cInt : Ctr := fun as Q _ => ∃ d, as = [.val d] ∧ okV d ∧ Q (.val (.bl (isInt d))) []
def cHand : Ctr := fun as Q _ => ∃ d, as = [.val d] ∧ okV d ∧ Q (.val (.bl (isHand d))) []
def xOp : Xn := ⟨"InvalidOperation", [], []⟩
def cReq : Ctr := fun as Q E => ∃ d, as = [.val d] ∧ okV d ∧ (if isHand d = true then Q (.val .non) [] else E xOp [])
def otherD (d : D) : D := match d with
  | .str z => if z == "caller" then .str "keeper" else .str "caller"
  | _ => .non
def cOther : Ctr := fun as Q E => ∃ d, as = [.val d] ∧ okV d ∧ (if isHand d = true then Q (.val (otherD d)) [] else E xOp [])
def cLOther : Ctr := fun as Q E => ∃ d, as = [.val d] ∧ okV d ∧ Q (.val (if isHand d = true then otherD d else .non)) []
def gl (l : List (String × D)) (f : List (String × Ctr)) (e : ExT) : Gam := ⟨fun x => l.lookup x, fun x => f.lookup x, e⟩
def hands : D := .tup [.str "caller", .str "keeper"]
def G1 : Gam := gl [("LONGEST", .int big)] [] noEx
theorem g1a : G1.glb "LONGEST" = some (.int big) := rfl
def G2 : Gam := gl [("HANDS", hands)] [] noEx
theorem g2a : G2.glb "HANDS" = some hands := rfl
def eX : ExT := exT [(("InvalidOperation", "InvalidOperation"), true)] [("InvalidOperation", none)]
theorem eXa : eX.sub "InvalidOperation" "InvalidOperation" = some true := rfl
theorem eXb : eX.cls "InvalidOperation" = some none := rfl
theorem eXc : eX.sub xOp.cls "InvalidOperation" = some true := rfl
def G3 : Gam := gl [] [("is_hand", cHand)] eX
theorem g3a : G3.fn "is_hand" = some cHand := rfl
theorem g3b : G3.ex = eX := rfl
def G4 : Gam := gl [("CALLER", .str "caller"), ("KEEPER", .str "keeper")] [("require_hand", cReq)] noEx
theorem g4a : G4.fn "require_hand" = some cReq := rfl
theorem g4b : G4.glb "CALLER" = some (.str "caller") := rfl
theorem g4c : G4.glb "KEEPER" = some (.str "keeper") := rfl
def G5 : Gam := gl [] [("other_hand", cOther)] eX
theorem g5a : G5.fn "other_hand" = some cOther := rfl
theorem g5b : G5.ex = eX := rfl
theorem beqc (a b : Str) : (a == b) = (b == a) := by rw [Bool.eq_iff_iff, beq_iff_eq, beq_iff_eq]; exact ⟨Eq.symm, Eq.symm⟩
theorem nts : ∀ s ∈ ["NoneType", "bool", "int", "tuple", "list", "dict"], tyIs s "str" = false := by decide
theorem go_int : ∀ as Q E, cInt as Q E → bodyC G1 n_gisinteger b_gisinteger as Q E := by
  rintro as Q E ⟨d, rfl, ⟨⟨t, ht⟩, hl⟩, h⟩
  simp only [n_gisinteger, b_gisinteger, g1a, bodyC, initE, slotA, List.map_cons, List.map_nil, List.cons_append, List.nil_append, List.append_nil, List.length_cons, List.length_nil, List.replicate_succ, List.replicate_zero,
   wSs, wS, wT_cmp, wT_chn, wT_call, wT_b1, wT_b2, wT_idx, wT_var, wT_not, wT_and, wT_or, wT_abs, wE, wA, wI, wRd_s, wRd_v, wRd_o, wVar_s, wVar_v, wIdx_lst, wIdx_tup, wIdx_scr, atI_0, atI_1, atI_2,
   wBin_Add_int_int, wBin_Add_str_str, wBin_Add_lst_lst, wBin_Sub_int_int, wBin_Mult_int_int, wBin_Mult_lst_int, wBin_FloorDiv_int_int, wBin_Mod_int_int, wBin_Pow_int_int, wCmp_Eq_x_y, wCmp_NotEq_x_y, wCmp_Lt_int_int, wCmp_LtE_int_int, wCmp_Gt_int_int, wCmp_GtE_int_int, wCmp_In_x_y, wCmp_NotIn_x_y, wCmp_Is_x_non, wCmp_IsNot_x_non,
   wB1_len_str, wB1_len_lst, wB1_len_tup, wB1_len_scr, wB1_abs_int, wB1_int_int, wB1_int_bl, wB1_list_lst, wB1_list_tup, wB1_list_str, wB1_tuple_lst, wB1_tuple_tup, wB1_all_lst, wB1_any_lst, wB1_repr_x, wB1_str_int, wB1_str_str, wB2_max_int_int, wB2_min_int_int, wB2_isinstance_x_ty, wM1_join_str_lst, mTy, M1.ok,
   wTg_one, Tg.ix, wipeE, hards, Sl.hard, softAs, Sl.softAs, List.zipWith_cons_cons, List.zipWith_nil_left, wPop_s, wPop_i, wPop_n, AV.toD, wSet_s, wSet_o, wApp_s, wApp_o, ix0, ix1, ix2, List.getElem?_cons_zero, List.getElem?_cons_succ, O.toD, D.tru, apds, Option.map_some, Option.some.injEq, exists_eq_left', exists_eq', exOwn, exOwn2, exPair, setNs, and_true, true_and, List.set_cons_zero, List.set_cons_succ, Nat.reduceAdd, Nat.reduceSub, outsA, D.int.injEq, D.lst.injEq, D.tup.injEq, Bool.not_true, Bool.not_false, Bool.false_eq_true, if_true, if_false, ite_true, ite_false, wCall, wCallF, mus, rdAs, rdA, puts, List.nodup_cons, List.nodup_nil, List.not_mem_nil, not_false_eq_true]
  refine ⟨t, ht, by decide, ?_⟩
  cases d <;> cases ht
  case int i =>
    simp only [show tyIs "int" "int" = true by decide, show tyIs "int" "bool" = false by decide, bodyC, initE, slotA, List.map_cons, List.map_nil, List.cons_append, List.nil_append, List.append_nil, List.length_cons, List.length_nil, List.replicate_succ, List.replicate_zero,
   wSs, wS, wT_cmp, wT_chn, wT_call, wT_b1, wT_b2, wT_idx, wT_var, wT_not, wT_and, wT_or, wT_abs, wE, wA, wI, wRd_s, wRd_v, wRd_o, wVar_s, wVar_v, wIdx_lst, wIdx_tup, wIdx_scr, atI_0, atI_1, atI_2,
   wBin_Add_int_int, wBin_Add_str_str, wBin_Add_lst_lst, wBin_Sub_int_int, wBin_Mult_int_int, wBin_Mult_lst_int, wBin_FloorDiv_int_int, wBin_Mod_int_int, wBin_Pow_int_int, wCmp_Eq_x_y, wCmp_NotEq_x_y, wCmp_Lt_int_int, wCmp_LtE_int_int, wCmp_Gt_int_int, wCmp_GtE_int_int, wCmp_In_x_y, wCmp_NotIn_x_y, wCmp_Is_x_non, wCmp_IsNot_x_non,
   wB1_len_str, wB1_len_lst, wB1_len_tup, wB1_len_scr, wB1_abs_int, wB1_int_int, wB1_int_bl, wB1_list_lst, wB1_list_tup, wB1_list_str, wB1_tuple_lst, wB1_tuple_tup, wB1_all_lst, wB1_any_lst, wB1_repr_x, wB1_str_int, wB1_str_str, wB2_max_int_int, wB2_min_int_int, wB2_isinstance_x_ty, wM1_join_str_lst, mTy, M1.ok,
   wTg_one, Tg.ix, wipeE, hards, Sl.hard, softAs, Sl.softAs, List.zipWith_cons_cons, List.zipWith_nil_left, wPop_s, wPop_i, wPop_n, AV.toD, wSet_s, wSet_o, wApp_s, wApp_o, ix0, ix1, ix2, List.getElem?_cons_zero, List.getElem?_cons_succ, O.toD, D.tru, apds, Option.map_some, Option.some.injEq, exists_eq_left', exists_eq', exOwn, exOwn2, exPair, setNs, and_true, true_and, List.set_cons_zero, List.set_cons_succ, Nat.reduceAdd, Nat.reduceSub, outsA, D.int.injEq, D.lst.injEq, D.tup.injEq, Bool.not_true, Bool.not_false, Bool.false_eq_true, if_true, if_false, ite_true, ite_false, wCall, wCallF, mus, rdAs, rdA, puts, List.nodup_cons, List.nodup_nil, List.not_mem_nil, not_false_eq_true]
    refine ⟨_, rfl, by decide, ?_⟩
    simp only [show tyIs "int" "int" = true by decide, show tyIs "int" "bool" = false by decide, bodyC, initE, slotA, List.map_cons, List.map_nil, List.cons_append, List.nil_append, List.append_nil, List.length_cons, List.length_nil, List.replicate_succ, List.replicate_zero,
   wSs, wS, wT_cmp, wT_chn, wT_call, wT_b1, wT_b2, wT_idx, wT_var, wT_not, wT_and, wT_or, wT_abs, wE, wA, wI, wRd_s, wRd_v, wRd_o, wVar_s, wVar_v, wIdx_lst, wIdx_tup, wIdx_scr, atI_0, atI_1, atI_2,
   wBin_Add_int_int, wBin_Add_str_str, wBin_Add_lst_lst, wBin_Sub_int_int, wBin_Mult_int_int, wBin_Mult_lst_int, wBin_FloorDiv_int_int, wBin_Mod_int_int, wBin_Pow_int_int, wCmp_Eq_x_y, wCmp_NotEq_x_y, wCmp_Lt_int_int, wCmp_LtE_int_int, wCmp_Gt_int_int, wCmp_GtE_int_int, wCmp_In_x_y, wCmp_NotIn_x_y, wCmp_Is_x_non, wCmp_IsNot_x_non,
   wB1_len_str, wB1_len_lst, wB1_len_tup, wB1_len_scr, wB1_abs_int, wB1_int_int, wB1_int_bl, wB1_list_lst, wB1_list_tup, wB1_list_str, wB1_tuple_lst, wB1_tuple_tup, wB1_all_lst, wB1_any_lst, wB1_repr_x, wB1_str_int, wB1_str_str, wB2_max_int_int, wB2_min_int_int, wB2_isinstance_x_ty, wM1_join_str_lst, mTy, M1.ok,
   wTg_one, Tg.ix, wipeE, hards, Sl.hard, softAs, Sl.softAs, List.zipWith_cons_cons, List.zipWith_nil_left, wPop_s, wPop_i, wPop_n, AV.toD, wSet_s, wSet_o, wApp_s, wApp_o, ix0, ix1, ix2, List.getElem?_cons_zero, List.getElem?_cons_succ, O.toD, D.tru, apds, Option.map_some, Option.some.injEq, exists_eq_left', exists_eq', exOwn, exOwn2, exPair, setNs, and_true, true_and, List.set_cons_zero, List.set_cons_succ, Nat.reduceAdd, Nat.reduceSub, outsA, D.int.injEq, D.lst.injEq, D.tup.injEq, Bool.not_true, Bool.not_false, Bool.false_eq_true, if_true, if_false, ite_true, ite_false, wCall, wCallF, mus, rdAs, rdA, puts, List.nodup_cons, List.nodup_nil, List.not_mem_nil, not_false_eq_true]
    have h : Q (.val (.bl (decide (-big < i) && decide (i < big)))) [] := h
    cases e : decide (-big < i) with
    | true => rw [e, Bool.true_and] at h; simpa using h
    | false => rw [e, Bool.false_and] at h; simpa using h
  case bl b =>
    refine (if_pos (by decide)).mpr ⟨_, rfl, by decide, ?_⟩
    simp only [show tyIs "bool" "bool" = true by decide, bodyC, initE, slotA, List.map_cons, List.map_nil, List.cons_append, List.nil_append, List.append_nil, List.length_cons, List.length_nil, List.replicate_succ, List.replicate_zero,
   wSs, wS, wT_cmp, wT_chn, wT_call, wT_b1, wT_b2, wT_idx, wT_var, wT_not, wT_and, wT_or, wT_abs, wE, wA, wI, wRd_s, wRd_v, wRd_o, wVar_s, wVar_v, wIdx_lst, wIdx_tup, wIdx_scr, atI_0, atI_1, atI_2,
   wBin_Add_int_int, wBin_Add_str_str, wBin_Add_lst_lst, wBin_Sub_int_int, wBin_Mult_int_int, wBin_Mult_lst_int, wBin_FloorDiv_int_int, wBin_Mod_int_int, wBin_Pow_int_int, wCmp_Eq_x_y, wCmp_NotEq_x_y, wCmp_Lt_int_int, wCmp_LtE_int_int, wCmp_Gt_int_int, wCmp_GtE_int_int, wCmp_In_x_y, wCmp_NotIn_x_y, wCmp_Is_x_non, wCmp_IsNot_x_non,
   wB1_len_str, wB1_len_lst, wB1_len_tup, wB1_len_scr, wB1_abs_int, wB1_int_int, wB1_int_bl, wB1_list_lst, wB1_list_tup, wB1_list_str, wB1_tuple_lst, wB1_tuple_tup, wB1_all_lst, wB1_any_lst, wB1_repr_x, wB1_str_int, wB1_str_str, wB2_max_int_int, wB2_min_int_int, wB2_isinstance_x_ty, wM1_join_str_lst, mTy, M1.ok,
   wTg_one, Tg.ix, wipeE, hards, Sl.hard, softAs, Sl.softAs, List.zipWith_cons_cons, List.zipWith_nil_left, wPop_s, wPop_i, wPop_n, AV.toD, wSet_s, wSet_o, wApp_s, wApp_o, ix0, ix1, ix2, List.getElem?_cons_zero, List.getElem?_cons_succ, O.toD, D.tru, apds, Option.map_some, Option.some.injEq, exists_eq_left', exists_eq', exOwn, exOwn2, exPair, setNs, and_true, true_and, List.set_cons_zero, List.set_cons_succ, Nat.reduceAdd, Nat.reduceSub, outsA, D.int.injEq, D.lst.injEq, D.tup.injEq, Bool.not_true, Bool.not_false, Bool.false_eq_true, if_true, if_false, ite_true, ite_false, wCall, wCallF, mus, rdAs, rdA, puts, List.nodup_cons, List.nodup_nil, List.not_mem_nil, not_false_eq_true]
    exact h
  all_goals exact (if_neg (by decide)).mpr h
theorem go_hand : ∀ as Q E, cHand as Q E → bodyC G2 n_gishand b_gishand as Q E := by
  rintro as Q E ⟨d, rfl, ⟨⟨t, ht⟩, hl⟩, h⟩
  simp only [n_gishand, b_gishand, g2a, bodyC, initE, slotA, List.map_cons, List.map_nil, List.cons_append, List.nil_append, List.append_nil, List.length_cons, List.length_nil, List.replicate_succ, List.replicate_zero,
   wSs, wS, wT_cmp, wT_chn, wT_call, wT_b1, wT_b2, wT_idx, wT_var, wT_not, wT_and, wT_or, wT_abs, wE, wA, wI, wRd_s, wRd_v, wRd_o, wVar_s, wVar_v, wIdx_lst, wIdx_tup, wIdx_scr, atI_0, atI_1, atI_2,
   wBin_Add_int_int, wBin_Add_str_str, wBin_Add_lst_lst, wBin_Sub_int_int, wBin_Mult_int_int, wBin_Mult_lst_int, wBin_FloorDiv_int_int, wBin_Mod_int_int, wBin_Pow_int_int, wCmp_Eq_x_y, wCmp_NotEq_x_y, wCmp_Lt_int_int, wCmp_LtE_int_int, wCmp_Gt_int_int, wCmp_GtE_int_int, wCmp_In_x_y, wCmp_NotIn_x_y, wCmp_Is_x_non, wCmp_IsNot_x_non,
   wB1_len_str, wB1_len_lst, wB1_len_tup, wB1_len_scr, wB1_abs_int, wB1_int_int, wB1_int_bl, wB1_list_lst, wB1_list_tup, wB1_list_str, wB1_tuple_lst, wB1_tuple_tup, wB1_all_lst, wB1_any_lst, wB1_repr_x, wB1_str_int, wB1_str_str, wB2_max_int_int, wB2_min_int_int, wB2_isinstance_x_ty, wM1_join_str_lst, mTy, M1.ok,
   wTg_one, Tg.ix, wipeE, hards, Sl.hard, softAs, Sl.softAs, List.zipWith_cons_cons, List.zipWith_nil_left, wPop_s, wPop_i, wPop_n, AV.toD, wSet_s, wSet_o, wApp_s, wApp_o, ix0, ix1, ix2, List.getElem?_cons_zero, List.getElem?_cons_succ, O.toD, D.tru, apds, Option.map_some, Option.some.injEq, exists_eq_left', exists_eq', exOwn, exOwn2, exPair, setNs, and_true, true_and, List.set_cons_zero, List.set_cons_succ, Nat.reduceAdd, Nat.reduceSub, outsA, D.int.injEq, D.lst.injEq, D.tup.injEq, Bool.not_true, Bool.not_false, Bool.false_eq_true, if_true, if_false, ite_true, ite_false, wCall, wCallF, mus, rdAs, rdA, puts, List.nodup_cons, List.nodup_nil, List.not_mem_nil, not_false_eq_true]
  refine ⟨t, ht, by decide, ?_⟩
  cases d <;> cases ht
  case str z =>
    simp only [show tyIs "str" "str" = true by decide, hands, wIn, bodyC, initE, slotA, List.map_cons, List.map_nil, List.cons_append, List.nil_append, List.append_nil, List.length_cons, List.length_nil, List.replicate_succ, List.replicate_zero,
   wSs, wS, wT_cmp, wT_chn, wT_call, wT_b1, wT_b2, wT_idx, wT_var, wT_not, wT_and, wT_or, wT_abs, wE, wA, wI, wRd_s, wRd_v, wRd_o, wVar_s, wVar_v, wIdx_lst, wIdx_tup, wIdx_scr, atI_0, atI_1, atI_2,
   wBin_Add_int_int, wBin_Add_str_str, wBin_Add_lst_lst, wBin_Sub_int_int, wBin_Mult_int_int, wBin_Mult_lst_int, wBin_FloorDiv_int_int, wBin_Mod_int_int, wBin_Pow_int_int, wCmp_Eq_x_y, wCmp_NotEq_x_y, wCmp_Lt_int_int, wCmp_LtE_int_int, wCmp_Gt_int_int, wCmp_GtE_int_int, wCmp_In_x_y, wCmp_NotIn_x_y, wCmp_Is_x_non, wCmp_IsNot_x_non,
   wB1_len_str, wB1_len_lst, wB1_len_tup, wB1_len_scr, wB1_abs_int, wB1_int_int, wB1_int_bl, wB1_list_lst, wB1_list_tup, wB1_list_str, wB1_tuple_lst, wB1_tuple_tup, wB1_all_lst, wB1_any_lst, wB1_repr_x, wB1_str_int, wB1_str_str, wB2_max_int_int, wB2_min_int_int, wB2_isinstance_x_ty, wM1_join_str_lst, mTy, M1.ok,
   wTg_one, Tg.ix, wipeE, hards, Sl.hard, softAs, Sl.softAs, List.zipWith_cons_cons, List.zipWith_nil_left, wPop_s, wPop_i, wPop_n, AV.toD, wSet_s, wSet_o, wApp_s, wApp_o, ix0, ix1, ix2, List.getElem?_cons_zero, List.getElem?_cons_succ, O.toD, D.tru, apds, Option.map_some, Option.some.injEq, exists_eq_left', exists_eq', exOwn, exOwn2, exPair, setNs, and_true, true_and, List.set_cons_zero, List.set_cons_succ, Nat.reduceAdd, Nat.reduceSub, outsA, D.int.injEq, D.lst.injEq, D.tup.injEq, Bool.not_true, Bool.not_false, Bool.false_eq_true, if_true, if_false, ite_true, ite_false, wCall, wCallF, mus, rdAs, rdA, puts, List.nodup_cons, List.nodup_nil, List.not_mem_nil, not_false_eq_true]
    refine ⟨_, _, rfl, rfl, ?_⟩
    rw [inV2]
    rw [beqc ("caller" : Str) z, beqc ("keeper" : Str) z]
    exact h
  all_goals
    rw [nts _ (by decide)]
    exact h
theorem go_req : ∀ as Q E, cReq as Q E → bodyC G3 n_grequirehand b_grequirehand as Q E := by
  rintro as Q E ⟨d, rfl, hv, h⟩
  simp only [n_grequirehand, b_grequirehand, g3a, g3b, eXb, bodyC, initE, slotA, List.map_cons, List.map_nil, List.cons_append, List.nil_append, List.append_nil, List.length_cons, List.length_nil, List.replicate_succ, List.replicate_zero,
   wSs, wS, wT_cmp, wT_chn, wT_call, wT_b1, wT_b2, wT_idx, wT_var, wT_not, wT_and, wT_or, wT_abs, wE, wA, wI, wRd_s, wRd_v, wRd_o, wVar_s, wVar_v, wIdx_lst, wIdx_tup, wIdx_scr, atI_0, atI_1, atI_2,
   wBin_Add_int_int, wBin_Add_str_str, wBin_Add_lst_lst, wBin_Sub_int_int, wBin_Mult_int_int, wBin_Mult_lst_int, wBin_FloorDiv_int_int, wBin_Mod_int_int, wBin_Pow_int_int, wCmp_Eq_x_y, wCmp_NotEq_x_y, wCmp_Lt_int_int, wCmp_LtE_int_int, wCmp_Gt_int_int, wCmp_GtE_int_int, wCmp_In_x_y, wCmp_NotIn_x_y, wCmp_Is_x_non, wCmp_IsNot_x_non,
   wB1_len_str, wB1_len_lst, wB1_len_tup, wB1_len_scr, wB1_abs_int, wB1_int_int, wB1_int_bl, wB1_list_lst, wB1_list_tup, wB1_list_str, wB1_tuple_lst, wB1_tuple_tup, wB1_all_lst, wB1_any_lst, wB1_repr_x, wB1_str_int, wB1_str_str, wB2_max_int_int, wB2_min_int_int, wB2_isinstance_x_ty, wM1_join_str_lst, mTy, M1.ok,
   wTg_one, Tg.ix, wipeE, hards, Sl.hard, softAs, Sl.softAs, List.zipWith_cons_cons, List.zipWith_nil_left, wPop_s, wPop_i, wPop_n, AV.toD, wSet_s, wSet_o, wApp_s, wApp_o, ix0, ix1, ix2, List.getElem?_cons_zero, List.getElem?_cons_succ, O.toD, D.tru, apds, Option.map_some, Option.some.injEq, exists_eq_left', exists_eq', exOwn, exOwn2, exPair, setNs, and_true, true_and, List.set_cons_zero, List.set_cons_succ, Nat.reduceAdd, Nat.reduceSub, outsA, D.int.injEq, D.lst.injEq, D.tup.injEq, Bool.not_true, Bool.not_false, Bool.false_eq_true, if_true, if_false, ite_true, ite_false, wCall, wCallF, mus, rdAs, rdA, puts, List.nodup_cons, List.nodup_nil, List.not_mem_nil, not_false_eq_true]
  refine ⟨d, rfl, hv, ?_⟩
  simp only [bodyC, initE, slotA, List.map_cons, List.map_nil, List.cons_append, List.nil_append, List.append_nil, List.length_cons, List.length_nil, List.replicate_succ, List.replicate_zero,
   wSs, wS, wT_cmp, wT_chn, wT_call, wT_b1, wT_b2, wT_idx, wT_var, wT_not, wT_and, wT_or, wT_abs, wE, wA, wI, wRd_s, wRd_v, wRd_o, wVar_s, wVar_v, wIdx_lst, wIdx_tup, wIdx_scr, atI_0, atI_1, atI_2,
   wBin_Add_int_int, wBin_Add_str_str, wBin_Add_lst_lst, wBin_Sub_int_int, wBin_Mult_int_int, wBin_Mult_lst_int, wBin_FloorDiv_int_int, wBin_Mod_int_int, wBin_Pow_int_int, wCmp_Eq_x_y, wCmp_NotEq_x_y, wCmp_Lt_int_int, wCmp_LtE_int_int, wCmp_Gt_int_int, wCmp_GtE_int_int, wCmp_In_x_y, wCmp_NotIn_x_y, wCmp_Is_x_non, wCmp_IsNot_x_non,
   wB1_len_str, wB1_len_lst, wB1_len_tup, wB1_len_scr, wB1_abs_int, wB1_int_int, wB1_int_bl, wB1_list_lst, wB1_list_tup, wB1_list_str, wB1_tuple_lst, wB1_tuple_tup, wB1_all_lst, wB1_any_lst, wB1_repr_x, wB1_str_int, wB1_str_str, wB2_max_int_int, wB2_min_int_int, wB2_isinstance_x_ty, wM1_join_str_lst, mTy, M1.ok,
   wTg_one, Tg.ix, wipeE, hards, Sl.hard, softAs, Sl.softAs, List.zipWith_cons_cons, List.zipWith_nil_left, wPop_s, wPop_i, wPop_n, AV.toD, wSet_s, wSet_o, wApp_s, wApp_o, ix0, ix1, ix2, List.getElem?_cons_zero, List.getElem?_cons_succ, O.toD, D.tru, apds, Option.map_some, Option.some.injEq, exists_eq_left', exists_eq', exOwn, exOwn2, exPair, setNs, and_true, true_and, List.set_cons_zero, List.set_cons_succ, Nat.reduceAdd, Nat.reduceSub, outsA, D.int.injEq, D.lst.injEq, D.tup.injEq, Bool.not_true, Bool.not_false, Bool.false_eq_true, if_true, if_false, ite_true, ite_false, wCall, wCallF, mus, rdAs, rdA, puts, List.nodup_cons, List.nodup_nil, List.not_mem_nil, not_false_eq_true]
  cases e : isHand d with
  | true => rw [e] at h; simpa using h
  | false => rw [e] at h; simpa [xOp] using h
theorem go_other : ∀ as Q E, cOther as Q E → bodyC G4 n_gotherhand b_gotherhand as Q E := by
  rintro as Q E ⟨d, rfl, hv, h⟩
  simp only [n_gotherhand, b_gotherhand, g4a, g4b, g4c, bodyC, initE, slotA, List.map_cons, List.map_nil, List.cons_append, List.nil_append, List.append_nil, List.length_cons, List.length_nil, List.replicate_succ, List.replicate_zero,
   wSs, wS, wT_cmp, wT_chn, wT_call, wT_b1, wT_b2, wT_idx, wT_var, wT_not, wT_and, wT_or, wT_abs, wE, wA, wI, wRd_s, wRd_v, wRd_o, wVar_s, wVar_v, wIdx_lst, wIdx_tup, wIdx_scr, atI_0, atI_1, atI_2,
   wBin_Add_int_int, wBin_Add_str_str, wBin_Add_lst_lst, wBin_Sub_int_int, wBin_Mult_int_int, wBin_Mult_lst_int, wBin_FloorDiv_int_int, wBin_Mod_int_int, wBin_Pow_int_int, wCmp_Eq_x_y, wCmp_NotEq_x_y, wCmp_Lt_int_int, wCmp_LtE_int_int, wCmp_Gt_int_int, wCmp_GtE_int_int, wCmp_In_x_y, wCmp_NotIn_x_y, wCmp_Is_x_non, wCmp_IsNot_x_non,
   wB1_len_str, wB1_len_lst, wB1_len_tup, wB1_len_scr, wB1_abs_int, wB1_int_int, wB1_int_bl, wB1_list_lst, wB1_list_tup, wB1_list_str, wB1_tuple_lst, wB1_tuple_tup, wB1_all_lst, wB1_any_lst, wB1_repr_x, wB1_str_int, wB1_str_str, wB2_max_int_int, wB2_min_int_int, wB2_isinstance_x_ty, wM1_join_str_lst, mTy, M1.ok,
   wTg_one, Tg.ix, wipeE, hards, Sl.hard, softAs, Sl.softAs, List.zipWith_cons_cons, List.zipWith_nil_left, wPop_s, wPop_i, wPop_n, AV.toD, wSet_s, wSet_o, wApp_s, wApp_o, ix0, ix1, ix2, List.getElem?_cons_zero, List.getElem?_cons_succ, O.toD, D.tru, apds, Option.map_some, Option.some.injEq, exists_eq_left', exists_eq', exOwn, exOwn2, exPair, setNs, and_true, true_and, List.set_cons_zero, List.set_cons_succ, Nat.reduceAdd, Nat.reduceSub, outsA, D.int.injEq, D.lst.injEq, D.tup.injEq, Bool.not_true, Bool.not_false, Bool.false_eq_true, if_true, if_false, ite_true, ite_false, wCall, wCallF, mus, rdAs, rdA, puts, List.nodup_cons, List.nodup_nil, List.not_mem_nil, not_false_eq_true]
  refine ⟨d, rfl, hv, ?_⟩
  cases e : isHand d with
  | true =>
    rw [e] at h
    simp only [bodyC, initE, slotA, List.map_cons, List.map_nil, List.cons_append, List.nil_append, List.append_nil, List.length_cons, List.length_nil, List.replicate_succ, List.replicate_zero,
   wSs, wS, wT_cmp, wT_chn, wT_call, wT_b1, wT_b2, wT_idx, wT_var, wT_not, wT_and, wT_or, wT_abs, wE, wA, wI, wRd_s, wRd_v, wRd_o, wVar_s, wVar_v, wIdx_lst, wIdx_tup, wIdx_scr, atI_0, atI_1, atI_2,
   wBin_Add_int_int, wBin_Add_str_str, wBin_Add_lst_lst, wBin_Sub_int_int, wBin_Mult_int_int, wBin_Mult_lst_int, wBin_FloorDiv_int_int, wBin_Mod_int_int, wBin_Pow_int_int, wCmp_Eq_x_y, wCmp_NotEq_x_y, wCmp_Lt_int_int, wCmp_LtE_int_int, wCmp_Gt_int_int, wCmp_GtE_int_int, wCmp_In_x_y, wCmp_NotIn_x_y, wCmp_Is_x_non, wCmp_IsNot_x_non,
   wB1_len_str, wB1_len_lst, wB1_len_tup, wB1_len_scr, wB1_abs_int, wB1_int_int, wB1_int_bl, wB1_list_lst, wB1_list_tup, wB1_list_str, wB1_tuple_lst, wB1_tuple_tup, wB1_all_lst, wB1_any_lst, wB1_repr_x, wB1_str_int, wB1_str_str, wB2_max_int_int, wB2_min_int_int, wB2_isinstance_x_ty, wM1_join_str_lst, mTy, M1.ok,
   wTg_one, Tg.ix, wipeE, hards, Sl.hard, softAs, Sl.softAs, List.zipWith_cons_cons, List.zipWith_nil_left, wPop_s, wPop_i, wPop_n, AV.toD, wSet_s, wSet_o, wApp_s, wApp_o, ix0, ix1, ix2, List.getElem?_cons_zero, List.getElem?_cons_succ, O.toD, D.tru, apds, Option.map_some, Option.some.injEq, exists_eq_left', exists_eq', exOwn, exOwn2, exPair, setNs, and_true, true_and, List.set_cons_zero, List.set_cons_succ, Nat.reduceAdd, Nat.reduceSub, outsA, D.int.injEq, D.lst.injEq, D.tup.injEq, Bool.not_true, Bool.not_false, Bool.false_eq_true, if_true, if_false, ite_true, ite_false, wCall, wCallF, mus, rdAs, rdA, puts, List.nodup_cons, List.nodup_nil, List.not_mem_nil, not_false_eq_true]
    simp only [bodyC, initE, slotA, List.map_cons, List.map_nil, List.cons_append, List.nil_append, List.append_nil, List.length_cons, List.length_nil, List.replicate_succ, List.replicate_zero,
   wSs, wS, wT_cmp, wT_chn, wT_call, wT_b1, wT_b2, wT_idx, wT_var, wT_not, wT_and, wT_or, wT_abs, wE, wA, wI, wRd_s, wRd_v, wRd_o, wVar_s, wVar_v, wIdx_lst, wIdx_tup, wIdx_scr, atI_0, atI_1, atI_2,
   wBin_Add_int_int, wBin_Add_str_str, wBin_Add_lst_lst, wBin_Sub_int_int, wBin_Mult_int_int, wBin_Mult_lst_int, wBin_FloorDiv_int_int, wBin_Mod_int_int, wBin_Pow_int_int, wCmp_Eq_x_y, wCmp_NotEq_x_y, wCmp_Lt_int_int, wCmp_LtE_int_int, wCmp_Gt_int_int, wCmp_GtE_int_int, wCmp_In_x_y, wCmp_NotIn_x_y, wCmp_Is_x_non, wCmp_IsNot_x_non,
   wB1_len_str, wB1_len_lst, wB1_len_tup, wB1_len_scr, wB1_abs_int, wB1_int_int, wB1_int_bl, wB1_list_lst, wB1_list_tup, wB1_list_str, wB1_tuple_lst, wB1_tuple_tup, wB1_all_lst, wB1_any_lst, wB1_repr_x, wB1_str_int, wB1_str_str, wB2_max_int_int, wB2_min_int_int, wB2_isinstance_x_ty, wM1_join_str_lst, mTy, M1.ok,
   wTg_one, Tg.ix, wipeE, hards, Sl.hard, softAs, Sl.softAs, List.zipWith_cons_cons, List.zipWith_nil_left, wPop_s, wPop_i, wPop_n, AV.toD, wSet_s, wSet_o, wApp_s, wApp_o, ix0, ix1, ix2, List.getElem?_cons_zero, List.getElem?_cons_succ, O.toD, D.tru, apds, Option.map_some, Option.some.injEq, exists_eq_left', exists_eq', exOwn, exOwn2, exPair, setNs, and_true, true_and, List.set_cons_zero, List.set_cons_succ, Nat.reduceAdd, Nat.reduceSub, outsA, D.int.injEq, D.lst.injEq, D.tup.injEq, Bool.not_true, Bool.not_false, Bool.false_eq_true, if_true, if_false, ite_true, ite_false, wCall, wCallF, mus, rdAs, rdA, puts, List.nodup_cons, List.nodup_nil, List.not_mem_nil, not_false_eq_true] at h
    cases d <;> simp only [isHand, Bool.false_eq_true] at e
    rename_i z
    refine ⟨_, _, rfl, rfl, shaped_str (hv.2 z rfl), shaped_str (by decide +kernel), ?_⟩
    have y1 : PyData.eqv (.str z) (.str ("caller" : Str)) = (z == "caller") := by simp [PyData.eqv]
    rw [y1]
    have h : Q (.val (if (z == ("caller" : Str)) = true then .str "keeper" else .str "caller")) [] := h
    cases e3 : z == ("caller" : Str) with
    | true => rw [e3] at h; simpa using h
    | false => rw [e3] at h; simpa using h
  | false =>
    rw [e] at h
    simp only [bodyC, initE, slotA, List.map_cons, List.map_nil, List.cons_append, List.nil_append, List.append_nil, List.length_cons, List.length_nil, List.replicate_succ, List.replicate_zero,
   wSs, wS, wT_cmp, wT_chn, wT_call, wT_b1, wT_b2, wT_idx, wT_var, wT_not, wT_and, wT_or, wT_abs, wE, wA, wI, wRd_s, wRd_v, wRd_o, wVar_s, wVar_v, wIdx_lst, wIdx_tup, wIdx_scr, atI_0, atI_1, atI_2,
   wBin_Add_int_int, wBin_Add_str_str, wBin_Add_lst_lst, wBin_Sub_int_int, wBin_Mult_int_int, wBin_Mult_lst_int, wBin_FloorDiv_int_int, wBin_Mod_int_int, wBin_Pow_int_int, wCmp_Eq_x_y, wCmp_NotEq_x_y, wCmp_Lt_int_int, wCmp_LtE_int_int, wCmp_Gt_int_int, wCmp_GtE_int_int, wCmp_In_x_y, wCmp_NotIn_x_y, wCmp_Is_x_non, wCmp_IsNot_x_non,
   wB1_len_str, wB1_len_lst, wB1_len_tup, wB1_len_scr, wB1_abs_int, wB1_int_int, wB1_int_bl, wB1_list_lst, wB1_list_tup, wB1_list_str, wB1_tuple_lst, wB1_tuple_tup, wB1_all_lst, wB1_any_lst, wB1_repr_x, wB1_str_int, wB1_str_str, wB2_max_int_int, wB2_min_int_int, wB2_isinstance_x_ty, wM1_join_str_lst, mTy, M1.ok,
   wTg_one, Tg.ix, wipeE, hards, Sl.hard, softAs, Sl.softAs, List.zipWith_cons_cons, List.zipWith_nil_left, wPop_s, wPop_i, wPop_n, AV.toD, wSet_s, wSet_o, wApp_s, wApp_o, ix0, ix1, ix2, List.getElem?_cons_zero, List.getElem?_cons_succ, O.toD, D.tru, apds, Option.map_some, Option.some.injEq, exists_eq_left', exists_eq', exOwn, exOwn2, exPair, setNs, and_true, true_and, List.set_cons_zero, List.set_cons_succ, Nat.reduceAdd, Nat.reduceSub, outsA, D.int.injEq, D.lst.injEq, D.tup.injEq, Bool.not_true, Bool.not_false, Bool.false_eq_true, if_true, if_false, ite_true, ite_false, wCall, wCallF, mus, rdAs, rdA, puts, List.nodup_cons, List.nodup_nil, List.not_mem_nil, not_false_eq_true]
    simpa using h
theorem go_lother : ∀ as Q E, cLOther as Q E → bodyC G5 n_glawother b_glawother as Q E := by
  rintro as Q E ⟨d, rfl, hv, h⟩
  simp only [n_glawother, b_glawother, g5a, g5b, eXa, wHd, bodyC, initE, slotA, List.map_cons, List.map_nil, List.cons_append, List.nil_append, List.append_nil, List.length_cons, List.length_nil, List.replicate_succ, List.replicate_zero,
   wSs, wS, wT_cmp, wT_chn, wT_call, wT_b1, wT_b2, wT_idx, wT_var, wT_not, wT_and, wT_or, wT_abs, wE, wA, wI, wRd_s, wRd_v, wRd_o, wVar_s, wVar_v, wIdx_lst, wIdx_tup, wIdx_scr, atI_0, atI_1, atI_2,
   wBin_Add_int_int, wBin_Add_str_str, wBin_Add_lst_lst, wBin_Sub_int_int, wBin_Mult_int_int, wBin_Mult_lst_int, wBin_FloorDiv_int_int, wBin_Mod_int_int, wBin_Pow_int_int, wCmp_Eq_x_y, wCmp_NotEq_x_y, wCmp_Lt_int_int, wCmp_LtE_int_int, wCmp_Gt_int_int, wCmp_GtE_int_int, wCmp_In_x_y, wCmp_NotIn_x_y, wCmp_Is_x_non, wCmp_IsNot_x_non,
   wB1_len_str, wB1_len_lst, wB1_len_tup, wB1_len_scr, wB1_abs_int, wB1_int_int, wB1_int_bl, wB1_list_lst, wB1_list_tup, wB1_list_str, wB1_tuple_lst, wB1_tuple_tup, wB1_all_lst, wB1_any_lst, wB1_repr_x, wB1_str_int, wB1_str_str, wB2_max_int_int, wB2_min_int_int, wB2_isinstance_x_ty, wM1_join_str_lst, mTy, M1.ok,
   wTg_one, Tg.ix, wipeE, hards, Sl.hard, softAs, Sl.softAs, List.zipWith_cons_cons, List.zipWith_nil_left, wPop_s, wPop_i, wPop_n, AV.toD, wSet_s, wSet_o, wApp_s, wApp_o, ix0, ix1, ix2, List.getElem?_cons_zero, List.getElem?_cons_succ, O.toD, D.tru, apds, Option.map_some, Option.some.injEq, exists_eq_left', exists_eq', exOwn, exOwn2, exPair, setNs, and_true, true_and, List.set_cons_zero, List.set_cons_succ, Nat.reduceAdd, Nat.reduceSub, outsA, D.int.injEq, D.lst.injEq, D.tup.injEq, Bool.not_true, Bool.not_false, Bool.false_eq_true, if_true, if_false, ite_true, ite_false, wCall, wCallF, mus, rdAs, rdA, puts, List.nodup_cons, List.nodup_nil, List.not_mem_nil, not_false_eq_true]
  refine ⟨rfl, d, rfl, hv, ?_⟩
  cases e : isHand d with
  | true =>
    rw [e] at h
    simpa only [bodyC, initE, slotA, List.map_cons, List.map_nil, List.cons_append, List.nil_append, List.append_nil, List.length_cons, List.length_nil, List.replicate_succ, List.replicate_zero,
   wSs, wS, wT_cmp, wT_chn, wT_call, wT_b1, wT_b2, wT_idx, wT_var, wT_not, wT_and, wT_or, wT_abs, wE, wA, wI, wRd_s, wRd_v, wRd_o, wVar_s, wVar_v, wIdx_lst, wIdx_tup, wIdx_scr, atI_0, atI_1, atI_2,
   wBin_Add_int_int, wBin_Add_str_str, wBin_Add_lst_lst, wBin_Sub_int_int, wBin_Mult_int_int, wBin_Mult_lst_int, wBin_FloorDiv_int_int, wBin_Mod_int_int, wBin_Pow_int_int, wCmp_Eq_x_y, wCmp_NotEq_x_y, wCmp_Lt_int_int, wCmp_LtE_int_int, wCmp_Gt_int_int, wCmp_GtE_int_int, wCmp_In_x_y, wCmp_NotIn_x_y, wCmp_Is_x_non, wCmp_IsNot_x_non,
   wB1_len_str, wB1_len_lst, wB1_len_tup, wB1_len_scr, wB1_abs_int, wB1_int_int, wB1_int_bl, wB1_list_lst, wB1_list_tup, wB1_list_str, wB1_tuple_lst, wB1_tuple_tup, wB1_all_lst, wB1_any_lst, wB1_repr_x, wB1_str_int, wB1_str_str, wB2_max_int_int, wB2_min_int_int, wB2_isinstance_x_ty, wM1_join_str_lst, mTy, M1.ok,
   wTg_one, Tg.ix, wipeE, hards, Sl.hard, softAs, Sl.softAs, List.zipWith_cons_cons, List.zipWith_nil_left, wPop_s, wPop_i, wPop_n, AV.toD, wSet_s, wSet_o, wApp_s, wApp_o, ix0, ix1, ix2, List.getElem?_cons_zero, List.getElem?_cons_succ, O.toD, D.tru, apds, Option.map_some, Option.some.injEq, exists_eq_left', exists_eq', exOwn, exOwn2, exPair, setNs, and_true, true_and, List.set_cons_zero, List.set_cons_succ, Nat.reduceAdd, Nat.reduceSub, outsA, D.int.injEq, D.lst.injEq, D.tup.injEq, Bool.not_true, Bool.not_false, Bool.false_eq_true, if_true, if_false, ite_true, ite_false, wCall, wCallF, mus, rdAs, rdA, puts, List.nodup_cons, List.nodup_nil, List.not_mem_nil, not_false_eq_true] using h
  | false =>
    rw [e] at h
    simp only [eXc, bodyC, initE, slotA, List.map_cons, List.map_nil, List.cons_append, List.nil_append, List.append_nil, List.length_cons, List.length_nil, List.replicate_succ, List.replicate_zero,
   wSs, wS, wT_cmp, wT_chn, wT_call, wT_b1, wT_b2, wT_idx, wT_var, wT_not, wT_and, wT_or, wT_abs, wE, wA, wI, wRd_s, wRd_v, wRd_o, wVar_s, wVar_v, wIdx_lst, wIdx_tup, wIdx_scr, atI_0, atI_1, atI_2,
   wBin_Add_int_int, wBin_Add_str_str, wBin_Add_lst_lst, wBin_Sub_int_int, wBin_Mult_int_int, wBin_Mult_lst_int, wBin_FloorDiv_int_int, wBin_Mod_int_int, wBin_Pow_int_int, wCmp_Eq_x_y, wCmp_NotEq_x_y, wCmp_Lt_int_int, wCmp_LtE_int_int, wCmp_Gt_int_int, wCmp_GtE_int_int, wCmp_In_x_y, wCmp_NotIn_x_y, wCmp_Is_x_non, wCmp_IsNot_x_non,
   wB1_len_str, wB1_len_lst, wB1_len_tup, wB1_len_scr, wB1_abs_int, wB1_int_int, wB1_int_bl, wB1_list_lst, wB1_list_tup, wB1_list_str, wB1_tuple_lst, wB1_tuple_tup, wB1_all_lst, wB1_any_lst, wB1_repr_x, wB1_str_int, wB1_str_str, wB2_max_int_int, wB2_min_int_int, wB2_isinstance_x_ty, wM1_join_str_lst, mTy, M1.ok,
   wTg_one, Tg.ix, wipeE, hards, Sl.hard, softAs, Sl.softAs, List.zipWith_cons_cons, List.zipWith_nil_left, wPop_s, wPop_i, wPop_n, AV.toD, wSet_s, wSet_o, wApp_s, wApp_o, ix0, ix1, ix2, List.getElem?_cons_zero, List.getElem?_cons_succ, O.toD, D.tru, apds, Option.map_some, Option.some.injEq, exists_eq_left', exists_eq', exOwn, exOwn2, exPair, setNs, and_true, true_and, List.set_cons_zero, List.set_cons_succ, Nat.reduceAdd, Nat.reduceSub, outsA, D.int.injEq, D.lst.injEq, D.tup.injEq, Bool.not_true, Bool.not_false, Bool.false_eq_true, if_true, if_false, ite_true, ite_false, wCall, wCallF, mus, rdAs, rdA, puts, List.nodup_cons, List.nodup_nil, List.not_mem_nil, not_false_eq_true]
    simpa only [bodyC, initE, slotA, List.map_cons, List.map_nil, List.cons_append, List.nil_append, List.append_nil, List.length_cons, List.length_nil, List.replicate_succ, List.replicate_zero,
   wSs, wS, wT_cmp, wT_chn, wT_call, wT_b1, wT_b2, wT_idx, wT_var, wT_not, wT_and, wT_or, wT_abs, wE, wA, wI, wRd_s, wRd_v, wRd_o, wVar_s, wVar_v, wIdx_lst, wIdx_tup, wIdx_scr, atI_0, atI_1, atI_2,
   wBin_Add_int_int, wBin_Add_str_str, wBin_Add_lst_lst, wBin_Sub_int_int, wBin_Mult_int_int, wBin_Mult_lst_int, wBin_FloorDiv_int_int, wBin_Mod_int_int, wBin_Pow_int_int, wCmp_Eq_x_y, wCmp_NotEq_x_y, wCmp_Lt_int_int, wCmp_LtE_int_int, wCmp_Gt_int_int, wCmp_GtE_int_int, wCmp_In_x_y, wCmp_NotIn_x_y, wCmp_Is_x_non, wCmp_IsNot_x_non,
   wB1_len_str, wB1_len_lst, wB1_len_tup, wB1_len_scr, wB1_abs_int, wB1_int_int, wB1_int_bl, wB1_list_lst, wB1_list_tup, wB1_list_str, wB1_tuple_lst, wB1_tuple_tup, wB1_all_lst, wB1_any_lst, wB1_repr_x, wB1_str_int, wB1_str_str, wB2_max_int_int, wB2_min_int_int, wB2_isinstance_x_ty, wM1_join_str_lst, mTy, M1.ok,
   wTg_one, Tg.ix, wipeE, hards, Sl.hard, softAs, Sl.softAs, List.zipWith_cons_cons, List.zipWith_nil_left, wPop_s, wPop_i, wPop_n, AV.toD, wSet_s, wSet_o, wApp_s, wApp_o, ix0, ix1, ix2, List.getElem?_cons_zero, List.getElem?_cons_succ, O.toD, D.tru, apds, Option.map_some, Option.some.injEq, exists_eq_left', exists_eq', exOwn, exOwn2, exPair, setNs, and_true, true_and, List.set_cons_zero, List.set_cons_succ, Nat.reduceAdd, Nat.reduceSub, outsA, D.int.injEq, D.lst.injEq, D.tup.injEq, Bool.not_true, Bool.not_false, Bool.false_eq_true, if_true, if_false, ite_true, ite_false, wCall, wCallF, mus, rdAs, rdA, puts, List.nodup_cons, List.nodup_nil, List.not_mem_nil, not_false_eq_true] using h
/-! ### the drawn rows -/
def otherOf (d : D) : D := if isHand d = true then otherD d else .non
def rowOk (d : D) : Prop := ∃ v, okV v ∧ d = .tup [v, .bl (isInt v), otherOf v]
def cRow : Ctr := fun as Q _ => ∃ (o : O) (n : Nat), as = [.own o] ∧ okDice n o ∧ n < 2 ^ 50 ∧ ∀ d o', rowOk d → okDice (n + 3) o' → Q (.val d) [o']
def G6 : Gam := gl [] [("_law_pick", cPick), ("_law_roll", cRoll)] noEx
theorem g6a : G6.fn "_law_pick" = some cPick := rfl
theorem g6b : G6.fn "_law_roll" = some cRoll := rfl
theorem ok_int (i : Int) : okV (.int i) := ⟨⟨_, rfl⟩, fun z h => by cases h⟩
theorem row_int (i : Int) {b : Bool} (h : isInt (.int i) = b) : rowOk (.tup [.int i, .bl b, .non]) := ⟨.int i, ok_int i, by rw [h]; rfl⟩
theorem isInt_t {i : Int} (h1 : -big < i) (h2 : i < big) : isInt (.int i) = true := by
  show (decide (-big < i) && decide (i < big)) = true
  rw [decide_eq_true h1, decide_eq_true h2]; rfl
theorem isInt_f {i : Int} (h : ¬ (-big < i) ∨ ¬ i < big) : isInt (.int i) = false := by
  show (decide (-big < i) && decide (i < big)) = false
  rcases h with h | h
  · rw [decide_eq_false h]; rfl
  · rw [decide_eq_false h, Bool.and_false]
theorem big_eq : (10 : Int) ^ Int.toNat 60 = big := rfl
theorem big_pos : (1000 : Int) < big := by decide +kernel
def odd1 (d : D) : Bool := d.tyN.isSome && (match d with
  | .str z => PyData.strOk z
  | .int _ => false
  | _ => true) && !isHand d
theorem odd1_row {d : D} (h : odd1 d = true) : rowOk (.tup [d, .bl false, .non]) := by
  unfold odd1 at h
  simp only [Bool.and_eq_true, Bool.not_eq_true'] at h
  obtain ⟨⟨h1, h2⟩, h3⟩ := h
  refine ⟨d, ⟨Option.isSome_iff_exists.mp h1, fun z e => by subst e; exact h2⟩, ?_⟩
  have e1 : isInt d = false := by cases d <;> first | rfl | cases h2
  unfold otherOf
  rw [e1, h3]
  rfl
theorem go_row : ∀ as Q E, cRow as Q E → bodyC G6 n_glawrow b_glawrow as Q E := by
  rintro as Q E ⟨o, n, rfl, hd, hn, h⟩
  simp only [n_glawrow, b_glawrow, g6a, g6b, bodyC, initE, slotA, List.map_cons, List.map_nil, List.cons_append, List.nil_append, List.append_nil, List.length_cons, List.length_nil, List.replicate_succ, List.replicate_zero,
   wSs, wS, wT_cmp, wT_chn, wT_call, wT_b1, wT_b2, wT_idx, wT_var, wT_not, wT_and, wT_or, wT_abs, wE, wA, wI, wRd_s, wRd_v, wRd_o, wVar_s, wVar_v, wIdx_lst, wIdx_tup, wIdx_scr, atI_0, atI_1, atI_2,
   wBin_Add_int_int, wBin_Add_str_str, wBin_Add_lst_lst, wBin_Sub_int_int, wBin_Mult_int_int, wBin_Mult_lst_int, wBin_FloorDiv_int_int, wBin_Mod_int_int, wBin_Pow_int_int, wCmp_Eq_x_y, wCmp_NotEq_x_y, wCmp_Lt_int_int, wCmp_LtE_int_int, wCmp_Gt_int_int, wCmp_GtE_int_int, wCmp_In_x_y, wCmp_NotIn_x_y, wCmp_Is_x_non, wCmp_IsNot_x_non,
   wB1_len_str, wB1_len_lst, wB1_len_tup, wB1_len_scr, wB1_abs_int, wB1_int_int, wB1_int_bl, wB1_list_lst, wB1_list_tup, wB1_list_str, wB1_tuple_lst, wB1_tuple_tup, wB1_all_lst, wB1_any_lst, wB1_repr_x, wB1_str_int, wB1_str_str, wB2_max_int_int, wB2_min_int_int, wB2_isinstance_x_ty, wM1_join_str_lst, mTy, M1.ok,
   wTg_one, Tg.ix, wipeE, hards, Sl.hard, softAs, Sl.softAs, List.zipWith_cons_cons, List.zipWith_nil_left, wPop_s, wPop_i, wPop_n, AV.toD, wSet_s, wSet_o, wApp_s, wApp_o, ix0, ix1, ix2, List.getElem?_cons_zero, List.getElem?_cons_succ, O.toD, D.tru, apds, Option.map_some, Option.some.injEq, exists_eq_left', exists_eq', exOwn, exOwn2, exPair, setNs, and_true, true_and, List.set_cons_zero, List.set_cons_succ, Nat.reduceAdd, Nat.reduceSub, outsA, D.int.injEq, D.lst.injEq, D.tup.injEq, Bool.not_true, Bool.not_false, Bool.false_eq_true, if_true, if_false, ite_true, ite_false, wCall, wCallF, mus, rdAs, rdA, puts, List.nodup_cons, List.nodup_nil, List.not_mem_nil, not_false_eq_true]
  refine ⟨by decide, by decide +kernel, by decide, by decide +kernel, by decide, by decide +kernel, by decide, o, _, n, rfl, hd, by omega, by simp, by decide, fun d o1 hm hd1 => ?_⟩
  obtain ⟨size, rfl, z0, z1⟩ : ∃ i : Int, d = .int i ∧ 0 ≤ i ∧ i < big := by
    simp only [List.mem_cons, List.not_mem_nil, or_false] at hm
    rcases hm with rfl | rfl | rfl | rfl
    · exact ⟨_, rfl, by decide +kernel, by decide +kernel⟩
    · exact ⟨_, rfl, by decide +kernel, by decide +kernel⟩
    · exact ⟨_, rfl, by decide +kernel, by decide +kernel⟩
    · exact ⟨_, rfl, by decide +kernel, by decide +kernel⟩
  simp only [bodyC, initE, slotA, List.map_cons, List.map_nil, List.cons_append, List.nil_append, List.append_nil, List.length_cons, List.length_nil, List.replicate_succ, List.replicate_zero,
   wSs, wS, wT_cmp, wT_chn, wT_call, wT_b1, wT_b2, wT_idx, wT_var, wT_not, wT_and, wT_or, wT_abs, wE, wA, wI, wRd_s, wRd_v, wRd_o, wVar_s, wVar_v, wIdx_lst, wIdx_tup, wIdx_scr, atI_0, atI_1, atI_2,
   wBin_Add_int_int, wBin_Add_str_str, wBin_Add_lst_lst, wBin_Sub_int_int, wBin_Mult_int_int, wBin_Mult_lst_int, wBin_FloorDiv_int_int, wBin_Mod_int_int, wBin_Pow_int_int, wCmp_Eq_x_y, wCmp_NotEq_x_y, wCmp_Lt_int_int, wCmp_LtE_int_int, wCmp_Gt_int_int, wCmp_GtE_int_int, wCmp_In_x_y, wCmp_NotIn_x_y, wCmp_Is_x_non, wCmp_IsNot_x_non,
   wB1_len_str, wB1_len_lst, wB1_len_tup, wB1_len_scr, wB1_abs_int, wB1_int_int, wB1_int_bl, wB1_list_lst, wB1_list_tup, wB1_list_str, wB1_tuple_lst, wB1_tuple_tup, wB1_all_lst, wB1_any_lst, wB1_repr_x, wB1_str_int, wB1_str_str, wB2_max_int_int, wB2_min_int_int, wB2_isinstance_x_ty, wM1_join_str_lst, mTy, M1.ok,
   wTg_one, Tg.ix, wipeE, hards, Sl.hard, softAs, Sl.softAs, List.zipWith_cons_cons, List.zipWith_nil_left, wPop_s, wPop_i, wPop_n, AV.toD, wSet_s, wSet_o, wApp_s, wApp_o, ix0, ix1, ix2, List.getElem?_cons_zero, List.getElem?_cons_succ, O.toD, D.tru, apds, Option.map_some, Option.some.injEq, exists_eq_left', exists_eq', exOwn, exOwn2, exPair, setNs, and_true, true_and, List.set_cons_zero, List.set_cons_succ, Nat.reduceAdd, Nat.reduceSub, outsA, D.int.injEq, D.lst.injEq, D.tup.injEq, Bool.not_true, Bool.not_false, Bool.false_eq_true, if_true, if_false, ite_true, ite_false, wCall, wCallF, mus, rdAs, rdA, puts, List.nodup_cons, List.nodup_nil, List.not_mem_nil, not_false_eq_true]
  refine ⟨o1, 100, n + 1, rfl, hd1, by omega, by decide, by decide, fun small o2 s0 s1 hd2 => ?_⟩
  simp only [List.nil_append, bodyC, initE, slotA, List.map_cons, List.map_nil, List.cons_append, List.nil_append, List.append_nil, List.length_cons, List.length_nil, List.replicate_succ, List.replicate_zero,
   wSs, wS, wT_cmp, wT_chn, wT_call, wT_b1, wT_b2, wT_idx, wT_var, wT_not, wT_and, wT_or, wT_abs, wE, wA, wI, wRd_s, wRd_v, wRd_o, wVar_s, wVar_v, wIdx_lst, wIdx_tup, wIdx_scr, atI_0, atI_1, atI_2,
   wBin_Add_int_int, wBin_Add_str_str, wBin_Add_lst_lst, wBin_Sub_int_int, wBin_Mult_int_int, wBin_Mult_lst_int, wBin_FloorDiv_int_int, wBin_Mod_int_int, wBin_Pow_int_int, wCmp_Eq_x_y, wCmp_NotEq_x_y, wCmp_Lt_int_int, wCmp_LtE_int_int, wCmp_Gt_int_int, wCmp_GtE_int_int, wCmp_In_x_y, wCmp_NotIn_x_y, wCmp_Is_x_non, wCmp_IsNot_x_non,
   wB1_len_str, wB1_len_lst, wB1_len_tup, wB1_len_scr, wB1_abs_int, wB1_int_int, wB1_int_bl, wB1_list_lst, wB1_list_tup, wB1_list_str, wB1_tuple_lst, wB1_tuple_tup, wB1_all_lst, wB1_any_lst, wB1_repr_x, wB1_str_int, wB1_str_str, wB2_max_int_int, wB2_min_int_int, wB2_isinstance_x_ty, wM1_join_str_lst, mTy, M1.ok,
   wTg_one, Tg.ix, wipeE, hards, Sl.hard, softAs, Sl.softAs, List.zipWith_cons_cons, List.zipWith_nil_left, wPop_s, wPop_i, wPop_n, AV.toD, wSet_s, wSet_o, wApp_s, wApp_o, ix0, ix1, ix2, List.getElem?_cons_zero, List.getElem?_cons_succ, O.toD, D.tru, apds, Option.map_some, Option.some.injEq, exists_eq_left', exists_eq', exOwn, exOwn2, exPair, setNs, and_true, true_and, List.set_cons_zero, List.set_cons_succ, Nat.reduceAdd, Nat.reduceSub, outsA, D.int.injEq, D.lst.injEq, D.tup.injEq, Bool.not_true, Bool.not_false, Bool.false_eq_true, if_true, if_false, ite_true, ite_false, wCall, wCallF, mus, rdAs, rdA, puts, List.nodup_cons, List.nodup_nil, List.not_mem_nil, not_false_eq_true]
  refine ⟨by decide, by decide, by decide, by decide +kernel, by decide, by decide, by decide, ?_⟩
  repeat (refine ⟨by decide +kernel, ?_⟩)
  refine weq_int ?_
  repeat (refine ⟨by decide +kernel, ?_⟩)
  refine ⟨_, rfl, ?_⟩
  have hb : big = 10 ^ 60 := rfl
  have bp := big_pos
  refine wFr_cnt (fun i e => ∃ ds c, e = [Sl.own false o2, Sl.val (.int size), Sl.val (.int small), Sl.own true (.lst ds), c] ∧ ds.length = 16 + i ∧ ∀ d ∈ ds, rowOk d) (fun d => odd1 d = true) 14 ?_ ?_ _ 0 _ (by rfl) ?_ ⟨_, _, rfl, by rfl, ?_⟩
  · rintro i x e k hi hx ⟨ds, c, rfl, hl, hr⟩ hk
    simp only [bodyC, initE, slotA, List.map_cons, List.map_nil, List.cons_append, List.nil_append, List.append_nil, List.length_cons, List.length_nil, List.replicate_succ, List.replicate_zero,
   wSs, wS, wT_cmp, wT_chn, wT_call, wT_b1, wT_b2, wT_idx, wT_var, wT_not, wT_and, wT_or, wT_abs, wE, wA, wI, wRd_s, wRd_v, wRd_o, wVar_s, wVar_v, wIdx_lst, wIdx_tup, wIdx_scr, atI_0, atI_1, atI_2,
   wBin_Add_int_int, wBin_Add_str_str, wBin_Add_lst_lst, wBin_Sub_int_int, wBin_Mult_int_int, wBin_Mult_lst_int, wBin_FloorDiv_int_int, wBin_Mod_int_int, wBin_Pow_int_int, wCmp_Eq_x_y, wCmp_NotEq_x_y, wCmp_Lt_int_int, wCmp_LtE_int_int, wCmp_Gt_int_int, wCmp_GtE_int_int, wCmp_In_x_y, wCmp_NotIn_x_y, wCmp_Is_x_non, wCmp_IsNot_x_non,
   wB1_len_str, wB1_len_lst, wB1_len_tup, wB1_len_scr, wB1_abs_int, wB1_int_int, wB1_int_bl, wB1_list_lst, wB1_list_tup, wB1_list_str, wB1_tuple_lst, wB1_tuple_tup, wB1_all_lst, wB1_any_lst, wB1_repr_x, wB1_str_int, wB1_str_str, wB2_max_int_int, wB2_min_int_int, wB2_isinstance_x_ty, wM1_join_str_lst, mTy, M1.ok,
   wTg_one, Tg.ix, wipeE, hards, Sl.hard, softAs, Sl.softAs, List.zipWith_cons_cons, List.zipWith_nil_left, wPop_s, wPop_i, wPop_n, AV.toD, wSet_s, wSet_o, wApp_s, wApp_o, ix0, ix1, ix2, List.getElem?_cons_zero, List.getElem?_cons_succ, O.toD, D.tru, apds, Option.map_some, Option.some.injEq, exists_eq_left', exists_eq', exOwn, exOwn2, exPair, setNs, and_true, true_and, List.set_cons_zero, List.set_cons_succ, Nat.reduceAdd, Nat.reduceSub, outsA, D.int.injEq, D.lst.injEq, D.tup.injEq, Bool.not_true, Bool.not_false, Bool.false_eq_true, if_true, if_false, ite_true, ite_false, wCall, wCallF, mus, rdAs, rdA, puts, List.nodup_cons, List.nodup_nil, List.not_mem_nil, not_false_eq_true]
    refine ⟨by decide, by rw [hl]; exact Nat.lt_of_le_of_lt (show 16 + i ≤ 100 by omega) (by decide), hk _ ⟨_, _, rfl, by simp [hl]; omega, fun d hd => ?_⟩⟩
    rcases List.mem_append.mp hd with h1 | h1
    · exact hr d h1
    · simp at h1
      subst h1
      exact odd1_row hx
  · rintro e ⟨ds, c, rfl, hl, hr⟩
    simp only [bodyC, initE, slotA, List.map_cons, List.map_nil, List.cons_append, List.nil_append, List.append_nil, List.length_cons, List.length_nil, List.replicate_succ, List.replicate_zero,
   wSs, wS, wT_cmp, wT_chn, wT_call, wT_b1, wT_b2, wT_idx, wT_var, wT_not, wT_and, wT_or, wT_abs, wE, wA, wI, wRd_s, wRd_v, wRd_o, wVar_s, wVar_v, wIdx_lst, wIdx_tup, wIdx_scr, atI_0, atI_1, atI_2,
   wBin_Add_int_int, wBin_Add_str_str, wBin_Add_lst_lst, wBin_Sub_int_int, wBin_Mult_int_int, wBin_Mult_lst_int, wBin_FloorDiv_int_int, wBin_Mod_int_int, wBin_Pow_int_int, wCmp_Eq_x_y, wCmp_NotEq_x_y, wCmp_Lt_int_int, wCmp_LtE_int_int, wCmp_Gt_int_int, wCmp_GtE_int_int, wCmp_In_x_y, wCmp_NotIn_x_y, wCmp_Is_x_non, wCmp_IsNot_x_non,
   wB1_len_str, wB1_len_lst, wB1_len_tup, wB1_len_scr, wB1_abs_int, wB1_int_int, wB1_int_bl, wB1_list_lst, wB1_list_tup, wB1_list_str, wB1_tuple_lst, wB1_tuple_tup, wB1_all_lst, wB1_any_lst, wB1_repr_x, wB1_str_int, wB1_str_str, wB2_max_int_int, wB2_min_int_int, wB2_isinstance_x_ty, wM1_join_str_lst, mTy, M1.ok,
   wTg_one, Tg.ix, wipeE, hards, Sl.hard, softAs, Sl.softAs, List.zipWith_cons_cons, List.zipWith_nil_left, wPop_s, wPop_i, wPop_n, AV.toD, wSet_s, wSet_o, wApp_s, wApp_o, ix0, ix1, ix2, List.getElem?_cons_zero, List.getElem?_cons_succ, O.toD, D.tru, apds, Option.map_some, Option.some.injEq, exists_eq_left', exists_eq', exOwn, exOwn2, exPair, setNs, and_true, true_and, List.set_cons_zero, List.set_cons_succ, Nat.reduceAdd, Nat.reduceSub, outsA, D.int.injEq, D.lst.injEq, D.tup.injEq, Bool.not_true, Bool.not_false, Bool.false_eq_true, if_true, if_false, ite_true, ite_false, wCall, wCallF, mus, rdAs, rdA, puts, List.nodup_cons, List.nodup_nil, List.not_mem_nil, not_false_eq_true]
    refine ⟨o2, ds, n + 2, rfl, hd2, by omega, fun z => ?_, by omega, fun d o3 hm hd3 => ?_⟩
    · subst z
      simp at hl
    · simp only [bodyC, initE, slotA, List.map_cons, List.map_nil, List.cons_append, List.nil_append, List.append_nil, List.length_cons, List.length_nil, List.replicate_succ, List.replicate_zero,
   wSs, wS, wT_cmp, wT_chn, wT_call, wT_b1, wT_b2, wT_idx, wT_var, wT_not, wT_and, wT_or, wT_abs, wE, wA, wI, wRd_s, wRd_v, wRd_o, wVar_s, wVar_v, wIdx_lst, wIdx_tup, wIdx_scr, atI_0, atI_1, atI_2,
   wBin_Add_int_int, wBin_Add_str_str, wBin_Add_lst_lst, wBin_Sub_int_int, wBin_Mult_int_int, wBin_Mult_lst_int, wBin_FloorDiv_int_int, wBin_Mod_int_int, wBin_Pow_int_int, wCmp_Eq_x_y, wCmp_NotEq_x_y, wCmp_Lt_int_int, wCmp_LtE_int_int, wCmp_Gt_int_int, wCmp_GtE_int_int, wCmp_In_x_y, wCmp_NotIn_x_y, wCmp_Is_x_non, wCmp_IsNot_x_non,
   wB1_len_str, wB1_len_lst, wB1_len_tup, wB1_len_scr, wB1_abs_int, wB1_int_int, wB1_int_bl, wB1_list_lst, wB1_list_tup, wB1_list_str, wB1_tuple_lst, wB1_tuple_tup, wB1_all_lst, wB1_any_lst, wB1_repr_x, wB1_str_int, wB1_str_str, wB2_max_int_int, wB2_min_int_int, wB2_isinstance_x_ty, wM1_join_str_lst, mTy, M1.ok,
   wTg_one, Tg.ix, wipeE, hards, Sl.hard, softAs, Sl.softAs, List.zipWith_cons_cons, List.zipWith_nil_left, wPop_s, wPop_i, wPop_n, AV.toD, wSet_s, wSet_o, wApp_s, wApp_o, ix0, ix1, ix2, List.getElem?_cons_zero, List.getElem?_cons_succ, O.toD, D.tru, apds, Option.map_some, Option.some.injEq, exists_eq_left', exists_eq', exOwn, exOwn2, exPair, setNs, and_true, true_and, List.set_cons_zero, List.set_cons_succ, Nat.reduceAdd, Nat.reduceSub, outsA, D.int.injEq, D.lst.injEq, D.tup.injEq, Bool.not_true, Bool.not_false, Bool.false_eq_true, if_true, if_false, ite_true, ite_false, wCall, wCallF, mus, rdAs, rdA, puts, List.nodup_cons, List.nodup_nil, List.not_mem_nil, not_false_eq_true]
      exact h d o3 (hr d hm) hd3
  · intro x hx
    exact all_of (by decide +kernel) hx
  · intro d hd
    simp only [List.mem_cons] at hd
    have b0 : (10 : Int) ^ Int.toNat 60 = big := rfl
    rw [b0] at hd
    rcases hd with rfl | rfl | rfl | rfl | rfl | rfl | hd
    · exact row_int _ (isInt_t (by omega) z1)
    · exact row_int _ (isInt_t (by omega) (by omega))
    · exact row_int _ (isInt_f (.inr (by omega)))
    · exact row_int _ (isInt_t (by omega) (by omega))
    · exact row_int _ (isInt_f (.inl (by omega)))
    · exact odd1_row rfl
    · have := mem_rep hd
      simp only [List.mem_cons, List.not_mem_nil, or_false] at this
      rcases this with rfl | rfl
      · exact ⟨.str "keeper", ⟨⟨_, rfl⟩, fun z e => by cases e; decide +kernel⟩, rfl⟩
      · exact ⟨.str "caller", ⟨⟨_, rfl⟩, fun z e => by cases e; decide +kernel⟩, rfl⟩
/-! ### the law -/
theorem other_str {v : D} (h : isHand v = true) : ∃ s : Str, otherD v = .str s ∧ PyData.strOk s = true := by
  cases v <;> simp only [isHand, Bool.false_eq_true] at h
  rename_i z
  show ∃ s : Str, (if (z == ("caller" : Str)) = true then D.str "keeper" else D.str "caller") = .str s ∧ _
  split
  · exact ⟨_, rfl, by decide +kernel⟩
  · exact ⟨_, rfl, by decide +kernel⟩
theorem other_non (v : D) : (otherOf v).isNon = !isHand v := by
  unfold otherOf
  cases e : isHand v with
  | true =>
    obtain ⟨s, h, _⟩ := other_str e
    rw [if_pos rfl, h]
    rfl
  | false => rfl
theorem weq_self (v : D) {Q : Bool → Prop} (h : Q true) : wEq (otherOf v) (otherOf v) Q := by
  unfold otherOf
  cases e : isHand v with
  | true =>
    obtain ⟨s, h1, h2⟩ := other_str e
    rw [if_pos rfl, h1]
    exact weq_str h2 h2 (by rw [beq_self_eq_true]; exact h)
  | false => exact ⟨_, _, rfl, rfl, by decide, by decide, h⟩
theorem rp (a b : Bool) : (PyData.list [.bool a, .bool b]).showable = true ∧ (PyData.list [.bool a, .bool b]).hasDict = false ∧ (PyData.list [.bool a, .bool b]).depth ≤ 60 ∧ (PyData.list [.bool a, .bool b]).shown.length ≤ sizeLine ∧ PyData.strOk (PyData.list [.bool a, .bool b]).shown = true := by
  cases a <;> cases b <;> decide +kernel
def cLaw : Ctr := fun as Q _ => ∃ ns : List Int, as = [.val (.scr ns)] ∧ ns.length ≤ 63 ∧ Q (.val (.bl true)) []
def G7 : Gam := gl [("HANDS", hands)] [("_law_dice", cDice), ("_law_row", cRow), ("is_integer", cInt), ("is_hand", cHand), ("_law_other", cLOther), ("other_hand", cOther)] noEx
theorem g7a : G7.fn "_law_dice" = some cDice := rfl
theorem g7b : G7.fn "_law_row" = some cRow := rfl
theorem g7c : G7.fn "is_integer" = some cInt := rfl
theorem g7d : G7.fn "is_hand" = some cHand := rfl
theorem g7e : G7.fn "_law_other" = some cLOther := rfl
theorem g7f : G7.fn "other_hand" = some cOther := rfl
theorem g7g : G7.glb "HANDS" = some hands := rfl
theorem go_law : ∀ as Q E, cLaw as Q E → bodyC G7 n_glaw b_glaw as Q E := by
  rintro as Q E ⟨ns, rfl, hl, h⟩
  simp only [n_glaw, b_glaw, g7a, g7b, g7c, g7d, g7e, g7f, g7g, bodyC, initE, slotA, List.map_cons, List.map_nil, List.cons_append, List.nil_append, List.append_nil, List.length_cons, List.length_nil, List.replicate_succ, List.replicate_zero,
   wSs, wS, wT_cmp, wT_chn, wT_call, wT_b1, wT_b2, wT_idx, wT_var, wT_not, wT_and, wT_or, wT_abs, wE, wA, wI, wRd_s, wRd_v, wRd_o, wVar_s, wVar_v, wIdx_lst, wIdx_tup, wIdx_scr, atI_0, atI_1, atI_2,
   wBin_Add_int_int, wBin_Add_str_str, wBin_Add_lst_lst, wBin_Sub_int_int, wBin_Mult_int_int, wBin_Mult_lst_int, wBin_FloorDiv_int_int, wBin_Mod_int_int, wBin_Pow_int_int, wCmp_Eq_x_y, wCmp_NotEq_x_y, wCmp_Lt_int_int, wCmp_LtE_int_int, wCmp_Gt_int_int, wCmp_GtE_int_int, wCmp_In_x_y, wCmp_NotIn_x_y, wCmp_Is_x_non, wCmp_IsNot_x_non,
   wB1_len_str, wB1_len_lst, wB1_len_tup, wB1_len_scr, wB1_abs_int, wB1_int_int, wB1_int_bl, wB1_list_lst, wB1_list_tup, wB1_list_str, wB1_tuple_lst, wB1_tuple_tup, wB1_all_lst, wB1_any_lst, wB1_repr_x, wB1_str_int, wB1_str_str, wB2_max_int_int, wB2_min_int_int, wB2_isinstance_x_ty, wM1_join_str_lst, mTy, M1.ok,
   wTg_one, Tg.ix, wipeE, hards, Sl.hard, softAs, Sl.softAs, List.zipWith_cons_cons, List.zipWith_nil_left, wPop_s, wPop_i, wPop_n, AV.toD, wSet_s, wSet_o, wApp_s, wApp_o, ix0, ix1, ix2, List.getElem?_cons_zero, List.getElem?_cons_succ, O.toD, D.tru, apds, Option.map_some, Option.some.injEq, exists_eq_left', exists_eq', exOwn, exOwn2, exPair, setNs, and_true, true_and, List.set_cons_zero, List.set_cons_succ, Nat.reduceAdd, Nat.reduceSub, outsA, D.int.injEq, D.lst.injEq, D.tup.injEq, Bool.not_true, Bool.not_false, Bool.false_eq_true, if_true, if_false, ite_true, ite_false, wCall, wCallF, mus, rdAs, rdA, puts, List.nodup_cons, List.nodup_nil, List.not_mem_nil, not_false_eq_true]
  have hm : ∀ z : Int, z = (if (if (ns.length : Int) < 8 then (ns.length : Int) else 8) > 1 then if (ns.length : Int) < 8 then (ns.length : Int) else 8 else 1) → 0 ≤ z ∧ z ≤ 8 := fun z e => by subst e; split <;> split <;> omega
  obtain ⟨m0, m1⟩ := hm _ rfl
  generalize (if (if (ns.length : Int) < 8 then (ns.length : Int) else 8) > 1 then if (ns.length : Int) < 8 then (ns.length : Int) else 8 else 1) = m at m0 m1
  refine ⟨by omega, by omega, ?_⟩
  refine wFr_inv (fun e => ∃ a b c d f g, e = [Sl.val (D.scr ns), a, b, c, d, f, g]) (fun x => ∃ i : Int, x = .int i ∧ 0 ≤ i ∧ i < 8) ?_ ?_ _ _ ?_ ⟨_, _, _, _, _, _, rfl⟩
  · rintro x e k ⟨i, rfl, i0, i1⟩ ⟨a, b, c, d, f, g, rfl⟩ hk
    simp only [bodyC, initE, slotA, List.map_cons, List.map_nil, List.cons_append, List.nil_append, List.append_nil, List.length_cons, List.length_nil, List.replicate_succ, List.replicate_zero,
   wSs, wS, wT_cmp, wT_chn, wT_call, wT_b1, wT_b2, wT_idx, wT_var, wT_not, wT_and, wT_or, wT_abs, wE, wA, wI, wRd_s, wRd_v, wRd_o, wVar_s, wVar_v, wIdx_lst, wIdx_tup, wIdx_scr, atI_0, atI_1, atI_2,
   wBin_Add_int_int, wBin_Add_str_str, wBin_Add_lst_lst, wBin_Sub_int_int, wBin_Mult_int_int, wBin_Mult_lst_int, wBin_FloorDiv_int_int, wBin_Mod_int_int, wBin_Pow_int_int, wCmp_Eq_x_y, wCmp_NotEq_x_y, wCmp_Lt_int_int, wCmp_LtE_int_int, wCmp_Gt_int_int, wCmp_GtE_int_int, wCmp_In_x_y, wCmp_NotIn_x_y, wCmp_Is_x_non, wCmp_IsNot_x_non,
   wB1_len_str, wB1_len_lst, wB1_len_tup, wB1_len_scr, wB1_abs_int, wB1_int_int, wB1_int_bl, wB1_list_lst, wB1_list_tup, wB1_list_str, wB1_tuple_lst, wB1_tuple_tup, wB1_all_lst, wB1_any_lst, wB1_repr_x, wB1_str_int, wB1_str_str, wB2_max_int_int, wB2_min_int_int, wB2_isinstance_x_ty, wM1_join_str_lst, mTy, M1.ok,
   wTg_one, Tg.ix, wipeE, hards, Sl.hard, softAs, Sl.softAs, List.zipWith_cons_cons, List.zipWith_nil_left, wPop_s, wPop_i, wPop_n, AV.toD, wSet_s, wSet_o, wApp_s, wApp_o, ix0, ix1, ix2, List.getElem?_cons_zero, List.getElem?_cons_succ, O.toD, D.tru, apds, Option.map_some, Option.some.injEq, exists_eq_left', exists_eq', exOwn, exOwn2, exPair, setNs, and_true, true_and, List.set_cons_zero, List.set_cons_succ, Nat.reduceAdd, Nat.reduceSub, outsA, D.int.injEq, D.lst.injEq, D.tup.injEq, Bool.not_true, Bool.not_false, Bool.false_eq_true, if_true, if_false, ite_true, ite_false, wCall, wCallF, mus, rdAs, rdA, puts, List.nodup_cons, List.nodup_nil, List.not_mem_nil, not_false_eq_true]
    refine ⟨ns, i, rfl, i0, by omega, fun o ho => ?_⟩
    obtain ⟨x, y, z, rfl, _⟩ := id ho
    refine ⟨_, _, rfl, rfl, by decide, by decide, ?_⟩
    simp only [bodyC, initE, slotA, List.map_cons, List.map_nil, List.cons_append, List.nil_append, List.append_nil, List.length_cons, List.length_nil, List.replicate_succ, List.replicate_zero,
   wSs, wS, wT_cmp, wT_chn, wT_call, wT_b1, wT_b2, wT_idx, wT_var, wT_not, wT_and, wT_or, wT_abs, wE, wA, wI, wRd_s, wRd_v, wRd_o, wVar_s, wVar_v, wIdx_lst, wIdx_tup, wIdx_scr, atI_0, atI_1, atI_2,
   wBin_Add_int_int, wBin_Add_str_str, wBin_Add_lst_lst, wBin_Sub_int_int, wBin_Mult_int_int, wBin_Mult_lst_int, wBin_FloorDiv_int_int, wBin_Mod_int_int, wBin_Pow_int_int, wCmp_Eq_x_y, wCmp_NotEq_x_y, wCmp_Lt_int_int, wCmp_LtE_int_int, wCmp_Gt_int_int, wCmp_GtE_int_int, wCmp_In_x_y, wCmp_NotIn_x_y, wCmp_Is_x_non, wCmp_IsNot_x_non,
   wB1_len_str, wB1_len_lst, wB1_len_tup, wB1_len_scr, wB1_abs_int, wB1_int_int, wB1_int_bl, wB1_list_lst, wB1_list_tup, wB1_list_str, wB1_tuple_lst, wB1_tuple_tup, wB1_all_lst, wB1_any_lst, wB1_repr_x, wB1_str_int, wB1_str_str, wB2_max_int_int, wB2_min_int_int, wB2_isinstance_x_ty, wM1_join_str_lst, mTy, M1.ok,
   wTg_one, Tg.ix, wipeE, hards, Sl.hard, softAs, Sl.softAs, List.zipWith_cons_cons, List.zipWith_nil_left, wPop_s, wPop_i, wPop_n, AV.toD, wSet_s, wSet_o, wApp_s, wApp_o, ix0, ix1, ix2, List.getElem?_cons_zero, List.getElem?_cons_succ, O.toD, D.tru, apds, Option.map_some, Option.some.injEq, exists_eq_left', exists_eq', exOwn, exOwn2, exPair, setNs, and_true, true_and, List.set_cons_zero, List.set_cons_succ, Nat.reduceAdd, Nat.reduceSub, outsA, D.int.injEq, D.lst.injEq, D.tup.injEq, Bool.not_true, Bool.not_false, Bool.false_eq_true, if_true, if_false, ite_true, ite_false, wCall, wCallF, mus, rdAs, rdA, puts, List.nodup_cons, List.nodup_nil, List.not_mem_nil, not_false_eq_true]
    refine wFr_cnt (fun j e => ∃ o c d f g, e = [Sl.val (D.scr ns), Sl.val (.int i), Sl.own true o, c, d, f, g] ∧ okDice (3 * j) o) (fun _ => True) 30 ?_ ?_ _ 0 _ rfl (fun _ _ => trivial) ⟨_, _, _, _, _, rfl, ho⟩
    · rintro j x e k2 hj - ⟨o, c, d, f, g, rfl, ho⟩ hk2
      simp only [bodyC, initE, slotA, List.map_cons, List.map_nil, List.cons_append, List.nil_append, List.append_nil, List.length_cons, List.length_nil, List.replicate_succ, List.replicate_zero,
   wSs, wS, wT_cmp, wT_chn, wT_call, wT_b1, wT_b2, wT_idx, wT_var, wT_not, wT_and, wT_or, wT_abs, wE, wA, wI, wRd_s, wRd_v, wRd_o, wVar_s, wVar_v, wIdx_lst, wIdx_tup, wIdx_scr, atI_0, atI_1, atI_2,
   wBin_Add_int_int, wBin_Add_str_str, wBin_Add_lst_lst, wBin_Sub_int_int, wBin_Mult_int_int, wBin_Mult_lst_int, wBin_FloorDiv_int_int, wBin_Mod_int_int, wBin_Pow_int_int, wCmp_Eq_x_y, wCmp_NotEq_x_y, wCmp_Lt_int_int, wCmp_LtE_int_int, wCmp_Gt_int_int, wCmp_GtE_int_int, wCmp_In_x_y, wCmp_NotIn_x_y, wCmp_Is_x_non, wCmp_IsNot_x_non,
   wB1_len_str, wB1_len_lst, wB1_len_tup, wB1_len_scr, wB1_abs_int, wB1_int_int, wB1_int_bl, wB1_list_lst, wB1_list_tup, wB1_list_str, wB1_tuple_lst, wB1_tuple_tup, wB1_all_lst, wB1_any_lst, wB1_repr_x, wB1_str_int, wB1_str_str, wB2_max_int_int, wB2_min_int_int, wB2_isinstance_x_ty, wM1_join_str_lst, mTy, M1.ok,
   wTg_one, Tg.ix, wipeE, hards, Sl.hard, softAs, Sl.softAs, List.zipWith_cons_cons, List.zipWith_nil_left, wPop_s, wPop_i, wPop_n, AV.toD, wSet_s, wSet_o, wApp_s, wApp_o, ix0, ix1, ix2, List.getElem?_cons_zero, List.getElem?_cons_succ, O.toD, D.tru, apds, Option.map_some, Option.some.injEq, exists_eq_left', exists_eq', exOwn, exOwn2, exPair, setNs, and_true, true_and, List.set_cons_zero, List.set_cons_succ, Nat.reduceAdd, Nat.reduceSub, outsA, D.int.injEq, D.lst.injEq, D.tup.injEq, Bool.not_true, Bool.not_false, Bool.false_eq_true, if_true, if_false, ite_true, ite_false, wCall, wCallF, mus, rdAs, rdA, puts, List.nodup_cons, List.nodup_nil, List.not_mem_nil, not_false_eq_true]
      refine ⟨o, _, rfl, ho, by omega, fun w o2 hw ho2 => ?_⟩
      obtain ⟨v, hv, rfl⟩ := hw
      simp only [bodyC, initE, slotA, List.map_cons, List.map_nil, List.cons_append, List.nil_append, List.append_nil, List.length_cons, List.length_nil, List.replicate_succ, List.replicate_zero,
   wSs, wS, wT_cmp, wT_chn, wT_call, wT_b1, wT_b2, wT_idx, wT_var, wT_not, wT_and, wT_or, wT_abs, wE, wA, wI, wRd_s, wRd_v, wRd_o, wVar_s, wVar_v, wIdx_lst, wIdx_tup, wIdx_scr, atI_0, atI_1, atI_2,
   wBin_Add_int_int, wBin_Add_str_str, wBin_Add_lst_lst, wBin_Sub_int_int, wBin_Mult_int_int, wBin_Mult_lst_int, wBin_FloorDiv_int_int, wBin_Mod_int_int, wBin_Pow_int_int, wCmp_Eq_x_y, wCmp_NotEq_x_y, wCmp_Lt_int_int, wCmp_LtE_int_int, wCmp_Gt_int_int, wCmp_GtE_int_int, wCmp_In_x_y, wCmp_NotIn_x_y, wCmp_Is_x_non, wCmp_IsNot_x_non,
   wB1_len_str, wB1_len_lst, wB1_len_tup, wB1_len_scr, wB1_abs_int, wB1_int_int, wB1_int_bl, wB1_list_lst, wB1_list_tup, wB1_list_str, wB1_tuple_lst, wB1_tuple_tup, wB1_all_lst, wB1_any_lst, wB1_repr_x, wB1_str_int, wB1_str_str, wB2_max_int_int, wB2_min_int_int, wB2_isinstance_x_ty, wM1_join_str_lst, mTy, M1.ok,
   wTg_one, Tg.ix, wipeE, hards, Sl.hard, softAs, Sl.softAs, List.zipWith_cons_cons, List.zipWith_nil_left, wPop_s, wPop_i, wPop_n, AV.toD, wSet_s, wSet_o, wApp_s, wApp_o, ix0, ix1, ix2, List.getElem?_cons_zero, List.getElem?_cons_succ, O.toD, D.tru, apds, Option.map_some, Option.some.injEq, exists_eq_left', exists_eq', exOwn, exOwn2, exPair, setNs, and_true, true_and, List.set_cons_zero, List.set_cons_succ, Nat.reduceAdd, Nat.reduceSub, outsA, D.int.injEq, D.lst.injEq, D.tup.injEq, Bool.not_true, Bool.not_false, Bool.false_eq_true, if_true, if_false, ite_true, ite_false, wCall, wCallF, mus, rdAs, rdA, puts, List.nodup_cons, List.nodup_nil, List.not_mem_nil, not_false_eq_true]
      refine ⟨v, rfl, hv, ?_⟩
      simp only [bodyC, initE, slotA, List.map_cons, List.map_nil, List.cons_append, List.nil_append, List.append_nil, List.length_cons, List.length_nil, List.replicate_succ, List.replicate_zero,
   wSs, wS, wT_cmp, wT_chn, wT_call, wT_b1, wT_b2, wT_idx, wT_var, wT_not, wT_and, wT_or, wT_abs, wE, wA, wI, wRd_s, wRd_v, wRd_o, wVar_s, wVar_v, wIdx_lst, wIdx_tup, wIdx_scr, atI_0, atI_1, atI_2,
   wBin_Add_int_int, wBin_Add_str_str, wBin_Add_lst_lst, wBin_Sub_int_int, wBin_Mult_int_int, wBin_Mult_lst_int, wBin_FloorDiv_int_int, wBin_Mod_int_int, wBin_Pow_int_int, wCmp_Eq_x_y, wCmp_NotEq_x_y, wCmp_Lt_int_int, wCmp_LtE_int_int, wCmp_Gt_int_int, wCmp_GtE_int_int, wCmp_In_x_y, wCmp_NotIn_x_y, wCmp_Is_x_non, wCmp_IsNot_x_non,
   wB1_len_str, wB1_len_lst, wB1_len_tup, wB1_len_scr, wB1_abs_int, wB1_int_int, wB1_int_bl, wB1_list_lst, wB1_list_tup, wB1_list_str, wB1_tuple_lst, wB1_tuple_tup, wB1_all_lst, wB1_any_lst, wB1_repr_x, wB1_str_int, wB1_str_str, wB2_max_int_int, wB2_min_int_int, wB2_isinstance_x_ty, wM1_join_str_lst, mTy, M1.ok,
   wTg_one, Tg.ix, wipeE, hards, Sl.hard, softAs, Sl.softAs, List.zipWith_cons_cons, List.zipWith_nil_left, wPop_s, wPop_i, wPop_n, AV.toD, wSet_s, wSet_o, wApp_s, wApp_o, ix0, ix1, ix2, List.getElem?_cons_zero, List.getElem?_cons_succ, O.toD, D.tru, apds, Option.map_some, Option.some.injEq, exists_eq_left', exists_eq', exOwn, exOwn2, exPair, setNs, and_true, true_and, List.set_cons_zero, List.set_cons_succ, Nat.reduceAdd, Nat.reduceSub, outsA, D.int.injEq, D.lst.injEq, D.tup.injEq, Bool.not_true, Bool.not_false, Bool.false_eq_true, if_true, if_false, ite_true, ite_false, wCall, wCallF, mus, rdAs, rdA, puts, List.nodup_cons, List.nodup_nil, List.not_mem_nil, not_false_eq_true]
      refine ⟨v, rfl, hv, ?_⟩
      simp only [List.nil_append, D.py, pys, bodyC, initE, slotA, List.map_cons, List.map_nil, List.cons_append, List.nil_append, List.append_nil, List.length_cons, List.length_nil, List.replicate_succ, List.replicate_zero,
   wSs, wS, wT_cmp, wT_chn, wT_call, wT_b1, wT_b2, wT_idx, wT_var, wT_not, wT_and, wT_or, wT_abs, wE, wA, wI, wRd_s, wRd_v, wRd_o, wVar_s, wVar_v, wIdx_lst, wIdx_tup, wIdx_scr, atI_0, atI_1, atI_2,
   wBin_Add_int_int, wBin_Add_str_str, wBin_Add_lst_lst, wBin_Sub_int_int, wBin_Mult_int_int, wBin_Mult_lst_int, wBin_FloorDiv_int_int, wBin_Mod_int_int, wBin_Pow_int_int, wCmp_Eq_x_y, wCmp_NotEq_x_y, wCmp_Lt_int_int, wCmp_LtE_int_int, wCmp_Gt_int_int, wCmp_GtE_int_int, wCmp_In_x_y, wCmp_NotIn_x_y, wCmp_Is_x_non, wCmp_IsNot_x_non,
   wB1_len_str, wB1_len_lst, wB1_len_tup, wB1_len_scr, wB1_abs_int, wB1_int_int, wB1_int_bl, wB1_list_lst, wB1_list_tup, wB1_list_str, wB1_tuple_lst, wB1_tuple_tup, wB1_all_lst, wB1_any_lst, wB1_repr_x, wB1_str_int, wB1_str_str, wB2_max_int_int, wB2_min_int_int, wB2_isinstance_x_ty, wM1_join_str_lst, mTy, M1.ok,
   wTg_one, Tg.ix, wipeE, hards, Sl.hard, softAs, Sl.softAs, List.zipWith_cons_cons, List.zipWith_nil_left, wPop_s, wPop_i, wPop_n, AV.toD, wSet_s, wSet_o, wApp_s, wApp_o, ix0, ix1, ix2, List.getElem?_cons_zero, List.getElem?_cons_succ, O.toD, D.tru, apds, Option.map_some, Option.some.injEq, exists_eq_left', exists_eq', exOwn, exOwn2, exPair, setNs, and_true, true_and, List.set_cons_zero, List.set_cons_succ, Nat.reduceAdd, Nat.reduceSub, outsA, D.int.injEq, D.lst.injEq, D.tup.injEq, Bool.not_true, Bool.not_false, Bool.false_eq_true, if_true, if_false, ite_true, ite_false, wCall, wCallF, mus, rdAs, rdA, puts, List.nodup_cons, List.nodup_nil, List.not_mem_nil, not_false_eq_true]
      rw [other_non, Bool.not_not]
      obtain ⟨r1, r2, r3, r4, r5⟩ := rp (isInt v) (isHand v)
      refine ⟨by decide, r1, r2, r3, r4, by decide, r1, r2, r3, r4, weq_str r5 r5 ?_⟩
      rw [beq_self_eq_true]
      simp only [bodyC, initE, slotA, List.map_cons, List.map_nil, List.cons_append, List.nil_append, List.append_nil, List.length_cons, List.length_nil, List.replicate_succ, List.replicate_zero,
   wSs, wS, wT_cmp, wT_chn, wT_call, wT_b1, wT_b2, wT_idx, wT_var, wT_not, wT_and, wT_or, wT_abs, wE, wA, wI, wRd_s, wRd_v, wRd_o, wVar_s, wVar_v, wIdx_lst, wIdx_tup, wIdx_scr, atI_0, atI_1, atI_2,
   wBin_Add_int_int, wBin_Add_str_str, wBin_Add_lst_lst, wBin_Sub_int_int, wBin_Mult_int_int, wBin_Mult_lst_int, wBin_FloorDiv_int_int, wBin_Mod_int_int, wBin_Pow_int_int, wCmp_Eq_x_y, wCmp_NotEq_x_y, wCmp_Lt_int_int, wCmp_LtE_int_int, wCmp_Gt_int_int, wCmp_GtE_int_int, wCmp_In_x_y, wCmp_NotIn_x_y, wCmp_Is_x_non, wCmp_IsNot_x_non,
   wB1_len_str, wB1_len_lst, wB1_len_tup, wB1_len_scr, wB1_abs_int, wB1_int_int, wB1_int_bl, wB1_list_lst, wB1_list_tup, wB1_list_str, wB1_tuple_lst, wB1_tuple_tup, wB1_all_lst, wB1_any_lst, wB1_repr_x, wB1_str_int, wB1_str_str, wB2_max_int_int, wB2_min_int_int, wB2_isinstance_x_ty, wM1_join_str_lst, mTy, M1.ok,
   wTg_one, Tg.ix, wipeE, hards, Sl.hard, softAs, Sl.softAs, List.zipWith_cons_cons, List.zipWith_nil_left, wPop_s, wPop_i, wPop_n, AV.toD, wSet_s, wSet_o, wApp_s, wApp_o, ix0, ix1, ix2, List.getElem?_cons_zero, List.getElem?_cons_succ, O.toD, D.tru, apds, Option.map_some, Option.some.injEq, exists_eq_left', exists_eq', exOwn, exOwn2, exPair, setNs, and_true, true_and, List.set_cons_zero, List.set_cons_succ, Nat.reduceAdd, Nat.reduceSub, outsA, D.int.injEq, D.lst.injEq, D.tup.injEq, Bool.not_true, Bool.not_false, Bool.false_eq_true, if_true, if_false, ite_true, ite_false, wCall, wCallF, mus, rdAs, rdA, puts, List.nodup_cons, List.nodup_nil, List.not_mem_nil, not_false_eq_true]
      refine ⟨v, rfl, hv, ?_⟩
      simp only [bodyC, initE, slotA, List.map_cons, List.map_nil, List.cons_append, List.nil_append, List.append_nil, List.length_cons, List.length_nil, List.replicate_succ, List.replicate_zero,
   wSs, wS, wT_cmp, wT_chn, wT_call, wT_b1, wT_b2, wT_idx, wT_var, wT_not, wT_and, wT_or, wT_abs, wE, wA, wI, wRd_s, wRd_v, wRd_o, wVar_s, wVar_v, wIdx_lst, wIdx_tup, wIdx_scr, atI_0, atI_1, atI_2,
   wBin_Add_int_int, wBin_Add_str_str, wBin_Add_lst_lst, wBin_Sub_int_int, wBin_Mult_int_int, wBin_Mult_lst_int, wBin_FloorDiv_int_int, wBin_Mod_int_int, wBin_Pow_int_int, wCmp_Eq_x_y, wCmp_NotEq_x_y, wCmp_Lt_int_int, wCmp_LtE_int_int, wCmp_Gt_int_int, wCmp_GtE_int_int, wCmp_In_x_y, wCmp_NotIn_x_y, wCmp_Is_x_non, wCmp_IsNot_x_non,
   wB1_len_str, wB1_len_lst, wB1_len_tup, wB1_len_scr, wB1_abs_int, wB1_int_int, wB1_int_bl, wB1_list_lst, wB1_list_tup, wB1_list_str, wB1_tuple_lst, wB1_tuple_tup, wB1_all_lst, wB1_any_lst, wB1_repr_x, wB1_str_int, wB1_str_str, wB2_max_int_int, wB2_min_int_int, wB2_isinstance_x_ty, wM1_join_str_lst, mTy, M1.ok,
   wTg_one, Tg.ix, wipeE, hards, Sl.hard, softAs, Sl.softAs, List.zipWith_cons_cons, List.zipWith_nil_left, wPop_s, wPop_i, wPop_n, AV.toD, wSet_s, wSet_o, wApp_s, wApp_o, ix0, ix1, ix2, List.getElem?_cons_zero, List.getElem?_cons_succ, O.toD, D.tru, apds, Option.map_some, Option.some.injEq, exists_eq_left', exists_eq', exOwn, exOwn2, exPair, setNs, and_true, true_and, List.set_cons_zero, List.set_cons_succ, Nat.reduceAdd, Nat.reduceSub, outsA, D.int.injEq, D.lst.injEq, D.tup.injEq, Bool.not_true, Bool.not_false, Bool.false_eq_true, if_true, if_false, ite_true, ite_false, wCall, wCallF, mus, rdAs, rdA, puts, List.nodup_cons, List.nodup_nil, List.not_mem_nil, not_false_eq_true]
      show wEq (otherOf v) (otherOf v) _
      refine weq_self v ?_
      simp only [bodyC, initE, slotA, List.map_cons, List.map_nil, List.cons_append, List.nil_append, List.append_nil, List.length_cons, List.length_nil, List.replicate_succ, List.replicate_zero,
   wSs, wS, wT_cmp, wT_chn, wT_call, wT_b1, wT_b2, wT_idx, wT_var, wT_not, wT_and, wT_or, wT_abs, wE, wA, wI, wRd_s, wRd_v, wRd_o, wVar_s, wVar_v, wIdx_lst, wIdx_tup, wIdx_scr, atI_0, atI_1, atI_2,
   wBin_Add_int_int, wBin_Add_str_str, wBin_Add_lst_lst, wBin_Sub_int_int, wBin_Mult_int_int, wBin_Mult_lst_int, wBin_FloorDiv_int_int, wBin_Mod_int_int, wBin_Pow_int_int, wCmp_Eq_x_y, wCmp_NotEq_x_y, wCmp_Lt_int_int, wCmp_LtE_int_int, wCmp_Gt_int_int, wCmp_GtE_int_int, wCmp_In_x_y, wCmp_NotIn_x_y, wCmp_Is_x_non, wCmp_IsNot_x_non,
   wB1_len_str, wB1_len_lst, wB1_len_tup, wB1_len_scr, wB1_abs_int, wB1_int_int, wB1_int_bl, wB1_list_lst, wB1_list_tup, wB1_list_str, wB1_tuple_lst, wB1_tuple_tup, wB1_all_lst, wB1_any_lst, wB1_repr_x, wB1_str_int, wB1_str_str, wB2_max_int_int, wB2_min_int_int, wB2_isinstance_x_ty, wM1_join_str_lst, mTy, M1.ok,
   wTg_one, Tg.ix, wipeE, hards, Sl.hard, softAs, Sl.softAs, List.zipWith_cons_cons, List.zipWith_nil_left, wPop_s, wPop_i, wPop_n, AV.toD, wSet_s, wSet_o, wApp_s, wApp_o, ix0, ix1, ix2, List.getElem?_cons_zero, List.getElem?_cons_succ, O.toD, D.tru, apds, Option.map_some, Option.some.injEq, exists_eq_left', exists_eq', exOwn, exOwn2, exPair, setNs, and_true, true_and, List.set_cons_zero, List.set_cons_succ, Nat.reduceAdd, Nat.reduceSub, outsA, D.int.injEq, D.lst.injEq, D.tup.injEq, Bool.not_true, Bool.not_false, Bool.false_eq_true, if_true, if_false, ite_true, ite_false, wCall, wCallF, mus, rdAs, rdA, puts, List.nodup_cons, List.nodup_nil, List.not_mem_nil, not_false_eq_true]
      exact hk2 _ ⟨_, _, _, _, _, rfl, ho2.mono (by omega)⟩
    · rintro e ⟨o, c, d, f, g, rfl, _⟩
      exact hk _ ⟨_, _, _, _, _, _, rfl⟩
  · rintro e ⟨a, b, c, d, f, g, rfl⟩
    have t1 : isInt (.int (10 ^ Int.toNat 60 - 1)) = true := by decide +kernel
    have t2 : isInt (.int (10 ^ Int.toNat 60)) = false := by decide +kernel
    have t3 : isInt (.int (0 - 10 ^ Int.toNat 60)) = false := by decide +kernel
    have t4 : isInt (.bl true) = false := rfl
    refine ⟨by decide, by decide +kernel, _, rfl, ok_int _, ?_⟩
    rw [t1]
    refine ⟨_, rfl, by decide, by decide +kernel, _, rfl, ok_int _, ?_⟩
    rw [t2]
    refine ⟨_, rfl, by decide, by decide +kernel, _, rfl, ok_int _, ?_⟩
    rw [t3]
    refine ⟨_, rfl, _, rfl, ⟨⟨_, rfl⟩, fun z h => by cases h⟩, ?_⟩
    rw [t4]
    refine ⟨_, rfl, by decide, by decide, by decide, by decide, by decide, by decide +kernel, by decide +kernel, _, _, rfl, rfl, by decide +kernel, by decide +kernel, ?_⟩
    have e1 : PyData.eqv (.list [.bool true, .bool false, .bool false, .bool false]) (.list [.bool true, .bool false, .bool false, .bool false]) = true := by decide +kernel
    show if (!PyData.eqv (.list [.bool true, .bool false, .bool false, .bool false]) (.list [.bool true, .bool false, .bool false, .bool false])) = true then _ else _
    rw [e1]
    simp only [bodyC, initE, slotA, List.map_cons, List.map_nil, List.cons_append, List.nil_append, List.append_nil, List.length_cons, List.length_nil, List.replicate_succ, List.replicate_zero,
   wSs, wS, wT_cmp, wT_chn, wT_call, wT_b1, wT_b2, wT_idx, wT_var, wT_not, wT_and, wT_or, wT_abs, wE, wA, wI, wRd_s, wRd_v, wRd_o, wVar_s, wVar_v, wIdx_lst, wIdx_tup, wIdx_scr, atI_0, atI_1, atI_2,
   wBin_Add_int_int, wBin_Add_str_str, wBin_Add_lst_lst, wBin_Sub_int_int, wBin_Mult_int_int, wBin_Mult_lst_int, wBin_FloorDiv_int_int, wBin_Mod_int_int, wBin_Pow_int_int, wCmp_Eq_x_y, wCmp_NotEq_x_y, wCmp_Lt_int_int, wCmp_LtE_int_int, wCmp_Gt_int_int, wCmp_GtE_int_int, wCmp_In_x_y, wCmp_NotIn_x_y, wCmp_Is_x_non, wCmp_IsNot_x_non,
   wB1_len_str, wB1_len_lst, wB1_len_tup, wB1_len_scr, wB1_abs_int, wB1_int_int, wB1_int_bl, wB1_list_lst, wB1_list_tup, wB1_list_str, wB1_tuple_lst, wB1_tuple_tup, wB1_all_lst, wB1_any_lst, wB1_repr_x, wB1_str_int, wB1_str_str, wB2_max_int_int, wB2_min_int_int, wB2_isinstance_x_ty, wM1_join_str_lst, mTy, M1.ok,
   wTg_one, Tg.ix, wipeE, hards, Sl.hard, softAs, Sl.softAs, List.zipWith_cons_cons, List.zipWith_nil_left, wPop_s, wPop_i, wPop_n, AV.toD, wSet_s, wSet_o, wApp_s, wApp_o, ix0, ix1, ix2, List.getElem?_cons_zero, List.getElem?_cons_succ, O.toD, D.tru, apds, Option.map_some, Option.some.injEq, exists_eq_left', exists_eq', exOwn, exOwn2, exPair, setNs, and_true, true_and, List.set_cons_zero, List.set_cons_succ, Nat.reduceAdd, Nat.reduceSub, outsA, D.int.injEq, D.lst.injEq, D.tup.injEq, Bool.not_true, Bool.not_false, Bool.false_eq_true, if_true, if_false, ite_true, ite_false, wCall, wCallF, mus, rdAs, rdA, puts, List.nodup_cons, List.nodup_nil, List.not_mem_nil, not_false_eq_true]
    refine ⟨by decide, _, _, rfl, rfl, by decide +kernel, by decide +kernel, ?_⟩
    show if PyData.eqv (.tuple [.str "caller", .str "keeper"]) (.tuple [.str "caller", .str "keeper"]) = true then _ else _
    have e2 : PyData.eqv (.tuple [.str "caller", .str "keeper"]) (.tuple [.str "caller", .str "keeper"]) = true := by decide +kernel
    rw [e2]
    simp only [bodyC, initE, slotA, List.map_cons, List.map_nil, List.cons_append, List.nil_append, List.append_nil, List.length_cons, List.length_nil, List.replicate_succ, List.replicate_zero,
   wSs, wS, wT_cmp, wT_chn, wT_call, wT_b1, wT_b2, wT_idx, wT_var, wT_not, wT_and, wT_or, wT_abs, wE, wA, wI, wRd_s, wRd_v, wRd_o, wVar_s, wVar_v, wIdx_lst, wIdx_tup, wIdx_scr, atI_0, atI_1, atI_2,
   wBin_Add_int_int, wBin_Add_str_str, wBin_Add_lst_lst, wBin_Sub_int_int, wBin_Mult_int_int, wBin_Mult_lst_int, wBin_FloorDiv_int_int, wBin_Mod_int_int, wBin_Pow_int_int, wCmp_Eq_x_y, wCmp_NotEq_x_y, wCmp_Lt_int_int, wCmp_LtE_int_int, wCmp_Gt_int_int, wCmp_GtE_int_int, wCmp_In_x_y, wCmp_NotIn_x_y, wCmp_Is_x_non, wCmp_IsNot_x_non,
   wB1_len_str, wB1_len_lst, wB1_len_tup, wB1_len_scr, wB1_abs_int, wB1_int_int, wB1_int_bl, wB1_list_lst, wB1_list_tup, wB1_list_str, wB1_tuple_lst, wB1_tuple_tup, wB1_all_lst, wB1_any_lst, wB1_repr_x, wB1_str_int, wB1_str_str, wB2_max_int_int, wB2_min_int_int, wB2_isinstance_x_ty, wM1_join_str_lst, mTy, M1.ok,
   wTg_one, Tg.ix, wipeE, hards, Sl.hard, softAs, Sl.softAs, List.zipWith_cons_cons, List.zipWith_nil_left, wPop_s, wPop_i, wPop_n, AV.toD, wSet_s, wSet_o, wApp_s, wApp_o, ix0, ix1, ix2, List.getElem?_cons_zero, List.getElem?_cons_succ, O.toD, D.tru, apds, Option.map_some, Option.some.injEq, exists_eq_left', exists_eq', exOwn, exOwn2, exPair, setNs, and_true, true_and, List.set_cons_zero, List.set_cons_succ, Nat.reduceAdd, Nat.reduceSub, outsA, D.int.injEq, D.lst.injEq, D.tup.injEq, Bool.not_true, Bool.not_false, Bool.false_eq_true, if_true, if_false, ite_true, ite_false, wCall, wCallF, mus, rdAs, rdA, puts, List.nodup_cons, List.nodup_nil, List.not_mem_nil, not_false_eq_true]
    have hc : okV (.str "caller") := ⟨⟨_, rfl⟩, fun z e => by cases e; decide +kernel⟩
    have hk : okV (.str "keeper") := ⟨⟨_, rfl⟩, fun z e => by cases e; decide +kernel⟩
    refine ⟨_, rfl, hc, ?_⟩
    have o1 : isHand (.str "caller") = true := by decide +kernel
    have o2 : isHand (.str "keeper") = true := by decide +kernel
    have o3 : otherD (.str "caller") = .str "keeper" := rfl
    have o4 : otherD (.str "keeper") = .str "caller" := rfl
    rw [o1, o3]
    simp only [bodyC, initE, slotA, List.map_cons, List.map_nil, List.cons_append, List.nil_append, List.append_nil, List.length_cons, List.length_nil, List.replicate_succ, List.replicate_zero,
   wSs, wS, wT_cmp, wT_chn, wT_call, wT_b1, wT_b2, wT_idx, wT_var, wT_not, wT_and, wT_or, wT_abs, wE, wA, wI, wRd_s, wRd_v, wRd_o, wVar_s, wVar_v, wIdx_lst, wIdx_tup, wIdx_scr, atI_0, atI_1, atI_2,
   wBin_Add_int_int, wBin_Add_str_str, wBin_Add_lst_lst, wBin_Sub_int_int, wBin_Mult_int_int, wBin_Mult_lst_int, wBin_FloorDiv_int_int, wBin_Mod_int_int, wBin_Pow_int_int, wCmp_Eq_x_y, wCmp_NotEq_x_y, wCmp_Lt_int_int, wCmp_LtE_int_int, wCmp_Gt_int_int, wCmp_GtE_int_int, wCmp_In_x_y, wCmp_NotIn_x_y, wCmp_Is_x_non, wCmp_IsNot_x_non,
   wB1_len_str, wB1_len_lst, wB1_len_tup, wB1_len_scr, wB1_abs_int, wB1_int_int, wB1_int_bl, wB1_list_lst, wB1_list_tup, wB1_list_str, wB1_tuple_lst, wB1_tuple_tup, wB1_all_lst, wB1_any_lst, wB1_repr_x, wB1_str_int, wB1_str_str, wB2_max_int_int, wB2_min_int_int, wB2_isinstance_x_ty, wM1_join_str_lst, mTy, M1.ok,
   wTg_one, Tg.ix, wipeE, hards, Sl.hard, softAs, Sl.softAs, List.zipWith_cons_cons, List.zipWith_nil_left, wPop_s, wPop_i, wPop_n, AV.toD, wSet_s, wSet_o, wApp_s, wApp_o, ix0, ix1, ix2, List.getElem?_cons_zero, List.getElem?_cons_succ, O.toD, D.tru, apds, Option.map_some, Option.some.injEq, exists_eq_left', exists_eq', exOwn, exOwn2, exPair, setNs, and_true, true_and, List.set_cons_zero, List.set_cons_succ, Nat.reduceAdd, Nat.reduceSub, outsA, D.int.injEq, D.lst.injEq, D.tup.injEq, Bool.not_true, Bool.not_false, Bool.false_eq_true, if_true, if_false, ite_true, ite_false, wCall, wCallF, mus, rdAs, rdA, puts, List.nodup_cons, List.nodup_nil, List.not_mem_nil, not_false_eq_true]
    refine ⟨_, rfl, hk, ?_⟩
    rw [o2, o4]
    simp only [bodyC, initE, slotA, List.map_cons, List.map_nil, List.cons_append, List.nil_append, List.append_nil, List.length_cons, List.length_nil, List.replicate_succ, List.replicate_zero,
   wSs, wS, wT_cmp, wT_chn, wT_call, wT_b1, wT_b2, wT_idx, wT_var, wT_not, wT_and, wT_or, wT_abs, wE, wA, wI, wRd_s, wRd_v, wRd_o, wVar_s, wVar_v, wIdx_lst, wIdx_tup, wIdx_scr, atI_0, atI_1, atI_2,
   wBin_Add_int_int, wBin_Add_str_str, wBin_Add_lst_lst, wBin_Sub_int_int, wBin_Mult_int_int, wBin_Mult_lst_int, wBin_FloorDiv_int_int, wBin_Mod_int_int, wBin_Pow_int_int, wCmp_Eq_x_y, wCmp_NotEq_x_y, wCmp_Lt_int_int, wCmp_LtE_int_int, wCmp_Gt_int_int, wCmp_GtE_int_int, wCmp_In_x_y, wCmp_NotIn_x_y, wCmp_Is_x_non, wCmp_IsNot_x_non,
   wB1_len_str, wB1_len_lst, wB1_len_tup, wB1_len_scr, wB1_abs_int, wB1_int_int, wB1_int_bl, wB1_list_lst, wB1_list_tup, wB1_list_str, wB1_tuple_lst, wB1_tuple_tup, wB1_all_lst, wB1_any_lst, wB1_repr_x, wB1_str_int, wB1_str_str, wB2_max_int_int, wB2_min_int_int, wB2_isinstance_x_ty, wM1_join_str_lst, mTy, M1.ok,
   wTg_one, Tg.ix, wipeE, hards, Sl.hard, softAs, Sl.softAs, List.zipWith_cons_cons, List.zipWith_nil_left, wPop_s, wPop_i, wPop_n, AV.toD, wSet_s, wSet_o, wApp_s, wApp_o, ix0, ix1, ix2, List.getElem?_cons_zero, List.getElem?_cons_succ, O.toD, D.tru, apds, Option.map_some, Option.some.injEq, exists_eq_left', exists_eq', exOwn, exOwn2, exPair, setNs, and_true, true_and, List.set_cons_zero, List.set_cons_succ, Nat.reduceAdd, Nat.reduceSub, outsA, D.int.injEq, D.lst.injEq, D.tup.injEq, Bool.not_true, Bool.not_false, Bool.false_eq_true, if_true, if_false, ite_true, ite_false, wCall, wCallF, mus, rdAs, rdA, puts, List.nodup_cons, List.nodup_nil, List.not_mem_nil, not_false_eq_true]
    exact weq_str (by decide +kernel) (by decide +kernel) (by rw [beq_self_eq_true]; exact h)
  · intro x hx
    obtain ⟨i, rfl, h1, h2⟩ := rangeD_mem hx
    exact ⟨i, rfl, h1, by omega⟩
end Pl

namespace Pl
open PySem PySem.Spec L2
section
variable {P : Program} {w : World} {K : PySem.W.Frag} {mg : Str → Option Value}
theorem all_mk {l : PySem.W.OpenLaw} {w : World} {K : PySem.W.Frag} {h : Heap} {mg : Str → Option Value} {fa f0 f1 f2 f3 f4 f5 f6 f7 f8 f9 : Addr} (X : K.In h) (G : h.Ns mainGlobals mg) (hfa : mg "law" = some (.ref fa)) {oc0 kV0 dc0 pm0 cd0 ct0 : Value} {od0 an0 : Option Addr} {sl0 : Array (Option Value)} {oc1 kV1 dc1 pm1 cd1 ct1 : Value} {od1 an1 : Option Addr} {sl1 : Array (Option Value)} {oc2 kV2 dc2 pm2 cd2 ct2 : Value} {od2 an2 : Option Addr} {sl2 : Array (Option Value)} {oc3 kV3 dc3 pm3 cd3 ct3 : Value} {od3 an3 : Option Addr} {sl3 : Array (Option Value)} {oc4 kV4 dc4 pm4 cd4 ct4 : Value} {od4 an4 : Option Addr} {sl4 : Array (Option Value)} {oc5 kV5 dc5 pm5 cd5 ct5 : Value} {od5 an5 : Option Addr} {sl5 : Array (Option Value)} {oc6 kV6 dc6 pm6 cd6 ct6 : Value} {od6 an6 : Option Addr} {sl6 : Array (Option Value)} {oc7 kV7 dc7 pm7 cd7 ct7 : Value} {od7 an7 : Option Addr} {sl7 : Array (Option Value)} {oc8 kV8 dc8 pm8 cd8 ct8 : Value} {od8 an8 : Option Addr} {sl8 : Array (Option Value)} {oc9 kV9 dc9 pm9 cd9 ct9 : Value} {od9 an9 : Option Addr} {sl9 : Array (Option Value)} {w0 : Tok} {w2 : Tok} {w3 : Tok} {w1 : Addr} {m1 : Nat} {o1 : Option Addr} {s1 : Array (Option Value)} {w4 : Tok} {w5 : Tok} {x0 : Addr}
    (a0 : PySem.W.nsIn K mainGlobals "_law_dice" = some (some (.ref f0)))
    (l0 : K.lookup f0 = some ⟨oc0, od0, .func (PySem.W.fnOf "_law_dice" "_law_dice" (defArgs s_glawdice) (defBody s_glawdice) (defScope s_glawdice) .none kV0 dc0 pm0 an0 cd0 ct0), sl0⟩)
    (c0 : PySem.W.codeIn K cd0 "_law_dice" = true)
    (k0 : PySem.W.keepIn K (.ref f0) = true)
    (a1 : PySem.W.nsIn K mainGlobals "_law_roll" = some (some (.ref f1)))
    (l1 : K.lookup f1 = some ⟨oc1, od1, .func (PySem.W.fnOf "_law_roll" "_law_roll" (defArgs s_glawroll) (defBody s_glawroll) (defScope s_glawroll) .none kV1 dc1 pm1 an1 cd1 ct1), sl1⟩)
    (c1 : PySem.W.codeIn K cd1 "_law_roll" = true)
    (k1 : PySem.W.keepIn K (.ref f1) = true)
    (a2 : PySem.W.nsIn K mainGlobals "_law_pick" = some (some (.ref f2)))
    (l2 : K.lookup f2 = some ⟨oc2, od2, .func (PySem.W.fnOf "_law_pick" "_law_pick" (defArgs s_glawpick) (defBody s_glawpick) (defScope s_glawpick) .none kV2 dc2 pm2 an2 cd2 ct2), sl2⟩)
    (c2 : PySem.W.codeIn K cd2 "_law_pick" = true)
    (k2 : PySem.W.keepIn K (.ref f2) = true)
    (a3 : PySem.W.nsIn K mainGlobals "_law_row" = some (some (.ref f3)))
    (l3 : K.lookup f3 = some ⟨oc3, od3, .func (PySem.W.fnOf "_law_row" "_law_row" (defArgs s_glawrow) (defBody s_glawrow) (defScope s_glawrow) .none kV3 dc3 pm3 an3 cd3 ct3), sl3⟩)
    (c3 : PySem.W.codeIn K cd3 "_law_row" = true)
    (k3 : PySem.W.keepIn K (.ref f3) = true)
    (a4 : PySem.W.nsIn K mainGlobals "is_integer" = some (some (.ref f4)))
    (l4 : K.lookup f4 = some ⟨oc4, od4, .func (PySem.W.fnOf "is_integer" "is_integer" (defArgs s_gisinteger) (defBody s_gisinteger) (defScope s_gisinteger) .none kV4 dc4 pm4 an4 cd4 ct4), sl4⟩)
    (c4 : PySem.W.codeIn K cd4 "is_integer" = true)
    (k4 : PySem.W.keepIn K (.ref f4) = true)
    (a5 : PySem.W.nsIn K mainGlobals "is_hand" = some (some (.ref f5)))
    (l5 : K.lookup f5 = some ⟨oc5, od5, .func (PySem.W.fnOf "is_hand" "is_hand" (defArgs s_gishand) (defBody s_gishand) (defScope s_gishand) .none kV5 dc5 pm5 an5 cd5 ct5), sl5⟩)
    (c5 : PySem.W.codeIn K cd5 "is_hand" = true)
    (k5 : PySem.W.keepIn K (.ref f5) = true)
    (a6 : PySem.W.nsIn K mainGlobals "require_hand" = some (some (.ref f6)))
    (l6 : K.lookup f6 = some ⟨oc6, od6, .func (PySem.W.fnOf "require_hand" "require_hand" (defArgs s_grequirehand) (defBody s_grequirehand) (defScope s_grequirehand) .none kV6 dc6 pm6 an6 cd6 ct6), sl6⟩)
    (c6 : PySem.W.codeIn K cd6 "require_hand" = true)
    (k6 : PySem.W.keepIn K (.ref f6) = true)
    (a7 : PySem.W.nsIn K mainGlobals "other_hand" = some (some (.ref f7)))
    (l7 : K.lookup f7 = some ⟨oc7, od7, .func (PySem.W.fnOf "other_hand" "other_hand" (defArgs s_gotherhand) (defBody s_gotherhand) (defScope s_gotherhand) .none kV7 dc7 pm7 an7 cd7 ct7), sl7⟩)
    (c7 : PySem.W.codeIn K cd7 "other_hand" = true)
    (k7 : PySem.W.keepIn K (.ref f7) = true)
    (a8 : PySem.W.nsIn K mainGlobals "_law_other" = some (some (.ref f8)))
    (l8 : K.lookup f8 = some ⟨oc8, od8, .func (PySem.W.fnOf "_law_other" "_law_other" (defArgs s_glawother) (defBody s_glawother) (defScope s_glawother) .none kV8 dc8 pm8 an8 cd8 ct8), sl8⟩)
    (c8 : PySem.W.codeIn K cd8 "_law_other" = true)
    (k8 : PySem.W.keepIn K (.ref f8) = true)
    (a9 : PySem.W.nsIn K mainGlobals "law" = some (some (.ref f9)))
    (l9 : K.lookup f9 = some ⟨oc9, od9, .func (PySem.W.fnOf "law" "law" (defArgs s_glaw) (defBody s_glaw) (defScope s_glaw) .none kV9 dc9 pm9 an9 cd9 ct9), sl9⟩)
    (c9 : PySem.W.codeIn K cd9 "law" = true)
    (k9 : PySem.W.keepIn K (.ref f9) = true)
    (g0 : PySem.W.nsIn K mainGlobals "LONGEST" = some (some (.int 1000000000000000000000000000000000000000000000000000000000000 w0)))
    (g1 : PySem.W.nsIn K mainGlobals "HANDS" = some (some (.ref w1)))
    (v1 : K.lookup w1 = some ⟨.type "tuple", o1, .seq #[.str "caller" w2, .str "keeper" w3] m1, s1⟩)
    (g2 : PySem.W.nsIn K mainGlobals "CALLER" = some (some (.str "caller" w4)))
    (g3 : PySem.W.nsIn K mainGlobals "KEEPER" = some (some (.str "keeper" w5)))
    (y0 : PySem.W.nsIn K mainGlobals "InvalidOperation" = some (some (.ref x0)))
    (yc0 : PySem.W.subIn K (.ref x0) (.type "BaseException") = some true)
    (yd0 : PySem.W.typeIn K (.ref x0) = some (.type "type"))
    (ye0 : PySem.W.isClsIn K x0 = true)
    (ya0 : PySem.W.excIn K x0 [.type "ValueError", .type "Exception", .type "BaseException", .type "object"] "ValueError.__new__" = true)
    (yb0 : PySem.W.keepIn K (.ref x0) = true)
    (yz0 : PySem.W.subIn K (.ref x0) (.ref x0) = some true)
    (z0 : PySem.W.nsIn K mainGlobals "len" = some none)
    (z1 : PySem.W.nsIn K mainGlobals "abs" = some none)
    (z2 : PySem.W.nsIn K mainGlobals "int" = some none)
    (z3 : PySem.W.nsIn K mainGlobals "list" = some none)
    (z4 : PySem.W.nsIn K mainGlobals "tuple" = some none)
    (z5 : PySem.W.nsIn K mainGlobals "all" = some none)
    (z6 : PySem.W.nsIn K mainGlobals "any" = some none)
    (z7 : PySem.W.nsIn K mainGlobals "max" = some none)
    (z8 : PySem.W.nsIn K mainGlobals "min" = some none)
    (z9 : PySem.W.nsIn K mainGlobals "repr" = some none)
    (z10 : PySem.W.nsIn K mainGlobals "str" = some none)
    (z11 : PySem.W.nsIn K mainGlobals "sorted" = some none)
    (z12 : PySem.W.nsIn K mainGlobals "set" = some none)
    (z13 : PySem.W.nsIn K mainGlobals "sum" = some none)
    (z14 : PySem.W.nsIn K mainGlobals "isinstance" = some none)
    (z15 : PySem.W.nsIn K mainGlobals "range" = some none)
    (z16 : PySem.W.nsIn K mainGlobals "enumerate" = some none)
    (z17 : PySem.W.nsIn K mainGlobals "zip" = some none)
    (z18 : PySem.W.nsIn K mainGlobals "bool" = some none)
    (z19 : PySem.W.nsIn K mainGlobals "dict" = some none)
    : ∃ fd : FuncData, (∀ (s : Shared) (u : Value), BindsTo s fd ⟨[u], []⟩ [("script", u)]) ∧ ∀ base : Heap, K.In base → base.Ns mainGlobals mg → FnG l.prog w K mg base 5 fa fd ["script"] (lift K cLaw) := by
  have e := hfa.symm.trans (PySem.W.mg_of X G a9)
  cases e
  have bt : ∀ x ∈ blts, mg x = none := by
    intro x hx
    simp only [blts, List.mem_cons, List.not_mem_nil, or_false] at hx
    rcases hx with rfl | rfl | rfl | rfl | rfl | rfl | rfl | rfl | rfl | rfl | rfl | rfl | rfl | rfl | rfl | rfl | rfl | rfl | rfl | rfl
    · exact PySem.W.mg_none_of X G z0
    · exact PySem.W.mg_none_of X G z1
    · exact PySem.W.mg_none_of X G z2
    · exact PySem.W.mg_none_of X G z3
    · exact PySem.W.mg_none_of X G z4
    · exact PySem.W.mg_none_of X G z5
    · exact PySem.W.mg_none_of X G z6
    · exact PySem.W.mg_none_of X G z7
    · exact PySem.W.mg_none_of X G z8
    · exact PySem.W.mg_none_of X G z9
    · exact PySem.W.mg_none_of X G z10
    · exact PySem.W.mg_none_of X G z11
    · exact PySem.W.mg_none_of X G z12
    · exact PySem.W.mg_none_of X G z13
    · exact PySem.W.mg_none_of X G z14
    · exact PySem.W.mg_none_of X G z15
    · exact PySem.W.mg_none_of X G z16
    · exact PySem.W.mg_none_of X G z17
    · exact PySem.W.mg_none_of X G z18
    · exact PySem.W.mg_none_of X G z19
  have q0 : GlF K mg ("LONGEST", .int 1000000000000000000000000000000000000000000000000000000000000) := ⟨_, .int 1000000000000000000000000000000000000000000000000000000000000, PySem.W.mg_of X G g0, ⟨_, rfl⟩, .int _⟩
  have q1 : GlF K mg ("HANDS", .tup [.str "caller", .str "keeper"]) := ⟨_, .ref w1, PySem.W.mg_of X G g1, rfl, .tup (vs := [.str "caller", .str "keeper"]) (.inr ⟨_, _, _, v1, rfl, rfl, (show 2 ≤ sizeLine by decide), (.cons ⟨_, rfl⟩ (.cons ⟨_, rfl⟩ .nil))⟩) (.cons (.str _) (.cons (.str _) .nil))⟩
  have q2 : GlF K mg ("CALLER", .str "caller") := ⟨_, .str "caller", PySem.W.mg_of X G g2, ⟨_, rfl⟩, .str _⟩
  have q3 : GlF K mg ("KEEPER", .str "keeper") := ⟨_, .str "keeper", PySem.W.mg_of X G g3, ⟨_, rfl⟩, .str _⟩
  have yq0 : ClP K mg "InvalidOperation" := ⟨x0, _, _, _, _, PySem.W.mg_of X G y0, y0, yb0, PySem.F.excBase_ValueError, ya0, yc0, yd0⟩
  have yw0 : SubF K mg "InvalidOperation" "InvalidOperation" true := sub_of y0 (PySem.W.mg_of X G y0) (exm_of yc0 ye0 yd0 yz0)
  have F0 := fun_mk (st := s_glawdice) l0 c0 k0
  have b0 := F0.binds (ps := p_glawdice) fun _ _ _ _ _ _ us hl => match us, hl with | [_, _], _ => rfl
  have F1 := fun_mk (st := s_glawroll) l1 c1 k1
  have b1 := F1.binds (ps := p_glawroll) fun _ _ _ _ _ _ us hl => match us, hl with | [_, _], _ => rfl
  have F2 := fun_mk (st := s_glawpick) l2 c2 k2
  have b2 := F2.binds (ps := p_glawpick) fun _ _ _ _ _ _ us hl => match us, hl with | [_, _], _ => rfl
  have F3 := fun_mk (st := s_glawrow) l3 c3 k3
  have b3 := F3.binds (ps := p_glawrow) fun _ _ _ _ _ _ us hl => match us, hl with | [_], _ => rfl
  have F4 := fun_mk (st := s_gisinteger) l4 c4 k4
  have b4 := F4.binds (ps := p_gisinteger) fun _ _ _ _ _ _ us hl => match us, hl with | [_], _ => rfl
  have F5 := fun_mk (st := s_gishand) l5 c5 k5
  have b5 := F5.binds (ps := p_gishand) fun _ _ _ _ _ _ us hl => match us, hl with | [_], _ => rfl
  have F6 := fun_mk (st := s_grequirehand) l6 c6 k6
  have b6 := F6.binds (ps := p_grequirehand) fun _ _ _ _ _ _ us hl => match us, hl with | [_], _ => rfl
  have F7 := fun_mk (st := s_gotherhand) l7 c7 k7
  have b7 := F7.binds (ps := p_gotherhand) fun _ _ _ _ _ _ us hl => match us, hl with | [_], _ => rfl
  have F8 := fun_mk (st := s_glawother) l8 c8 k8
  have b8 := F8.binds (ps := p_glawother) fun _ _ _ _ _ _ us hl => match us, hl with | [_], _ => rfl
  have F9 := fun_mk (st := s_glaw) l9 c9 k9
  have b9 := F9.binds (ps := p_glaw) fun _ _ _ _ _ _ us hl => match us, hl with | [_], _ => rfl
  refine ⟨PySem.W.fnOf "law" "law" (defArgs s_glaw) (defBody s_glaw) (defScope s_glaw) .none kV9 dc9 pm9 an9 cd9 ct9, fun s v => .of_eq rfl, fun base _ _ => ?_⟩
  have hG0 : Glo ⟨fun x => ([] : List (String × D)).lookup x, fun x => ([] : List (String × Ctr)).lookup x, noEx⟩ 0 l.prog w K mg base := glo_of bt trivial trivial
  have hR0 : FnG l.prog w K mg base 1 f0 _ p_glawdice (lift K cDice) := fn_pl F0 sc_glawdice hG0 b_glawdice ck_glawdice (by rintro as Q E ⟨_, _, rfl, _⟩; rfl) (go_dice _)
  have H0 : FnF 1 l.prog w K mg base ("_law_dice", cDice) := ⟨_, _, _, _, Nat.le_refl _, PySem.W.mg_of X G a0, k0, b0, hR0⟩
  have hG1 : Glo ⟨fun x => ([] : List (String × D)).lookup x, fun x => ([] : List (String × Ctr)).lookup x, noEx⟩ 0 l.prog w K mg base := glo_of bt trivial trivial
  have hR1 : FnG l.prog w K mg base 1 f1 _ p_glawroll (lift K cRoll) := fn_pl F1 sc_glawroll hG1 b_glawroll ck_glawroll (by rintro as Q E ⟨_, _, _, rfl, _⟩; rfl) (go_roll _)
  have H1 : FnF 1 l.prog w K mg base ("_law_roll", cRoll) := ⟨_, _, _, _, Nat.le_refl _, PySem.W.mg_of X G a1, k1, b1, hR1⟩
  have hG2 : Glo ⟨fun x => ([] : List (String × D)).lookup x, fun x => ([("_law_roll", cRoll)] : List (String × Ctr)).lookup x, noEx⟩ 1 l.prog w K mg base := glo_of bt trivial ⟨H1.mono (by decide), trivial⟩
  have hR2 : FnG l.prog w K mg base 2 f2 _ p_glawpick (lift K cPick) := fn_pl F2 sc_glawpick hG2 b_glawpick ck_glawpick (by rintro as Q E ⟨_, _, _, rfl, _⟩; rfl) (go_pick _ rfl)
  have H2 : FnF 2 l.prog w K mg base ("_law_pick", cPick) := ⟨_, _, _, _, Nat.le_refl _, PySem.W.mg_of X G a2, k2, b2, hR2⟩
  have hG3 : Glo G6 2 l.prog w K mg base := glo_of bt trivial ⟨H2.mono (by decide), H1.mono (by decide), trivial⟩
  have hR3 : FnG l.prog w K mg base 3 f3 _ p_glawrow (lift K cRow) := fn_pl F3 sc_glawrow hG3 b_glawrow ck_glawrow (by rintro as Q E ⟨_, _, rfl, _⟩; rfl) (go_row)
  have H3 : FnF 3 l.prog w K mg base ("_law_row", cRow) := ⟨_, _, _, _, Nat.le_refl _, PySem.W.mg_of X G a3, k3, b3, hR3⟩
  have hG4 : Glo G1 0 l.prog w K mg base := glo_of bt ⟨q0, trivial⟩ trivial
  have hR4 : FnG l.prog w K mg base 1 f4 _ p_gisinteger (lift K cInt) := fn_pl F4 sc_gisinteger hG4 b_gisinteger ck_gisinteger (by rintro as Q E ⟨_, rfl, _⟩; rfl) (go_int)
  have H4 : FnF 1 l.prog w K mg base ("is_integer", cInt) := ⟨_, _, _, _, Nat.le_refl _, PySem.W.mg_of X G a4, k4, b4, hR4⟩
  have hG5 : Glo G2 0 l.prog w K mg base := glo_of bt ⟨q1, trivial⟩ trivial
  have hR5 : FnG l.prog w K mg base 1 f5 _ p_gishand (lift K cHand) := fn_pl F5 sc_gishand hG5 b_gishand ck_gishand (by rintro as Q E ⟨_, rfl, _⟩; rfl) (go_hand)
  have H5 : FnF 1 l.prog w K mg base ("is_hand", cHand) := ⟨_, _, _, _, Nat.le_refl _, PySem.W.mg_of X G a5, k5, b5, hR5⟩
  have hG6 : Glo G3 1 l.prog w K mg base := glo_ex bt trivial ⟨H5.mono (by decide), trivial⟩ ⟨yw0, trivial⟩ ⟨(fun _ => yq0), trivial⟩
  have hR6 : FnG l.prog w K mg base 2 f6 _ p_grequirehand (lift K cReq) := fn_pl F6 sc_grequirehand hG6 b_grequirehand ck_grequirehand (by rintro as Q E ⟨_, rfl, _⟩; rfl) (go_req)
  have H6 : FnF 2 l.prog w K mg base ("require_hand", cReq) := ⟨_, _, _, _, Nat.le_refl _, PySem.W.mg_of X G a6, k6, b6, hR6⟩
  have hG7 : Glo G4 2 l.prog w K mg base := glo_of bt ⟨q2, q3, trivial⟩ ⟨H6.mono (by decide), trivial⟩
  have hR7 : FnG l.prog w K mg base 3 f7 _ p_gotherhand (lift K cOther) := fn_pl F7 sc_gotherhand hG7 b_gotherhand ck_gotherhand (by rintro as Q E ⟨_, rfl, _⟩; rfl) (go_other)
  have H7 : FnF 3 l.prog w K mg base ("other_hand", cOther) := ⟨_, _, _, _, Nat.le_refl _, PySem.W.mg_of X G a7, k7, b7, hR7⟩
  have hG8 : Glo G5 3 l.prog w K mg base := glo_ex bt trivial ⟨H7.mono (by decide), trivial⟩ ⟨yw0, trivial⟩ ⟨(fun _ => yq0), trivial⟩
  have hR8 : FnG l.prog w K mg base 4 f8 _ p_glawother (lift K cLOther) := fn_pl F8 sc_glawother hG8 b_glawother ck_glawother (by rintro as Q E ⟨_, rfl, _⟩; rfl) (go_lother)
  have H8 : FnF 4 l.prog w K mg base ("_law_other", cLOther) := ⟨_, _, _, _, Nat.le_refl _, PySem.W.mg_of X G a8, k8, b8, hR8⟩
  have hG9 : Glo G7 4 l.prog w K mg base := glo_of bt ⟨q1, trivial⟩ ⟨H0.mono (by decide), H3.mono (by decide), H4.mono (by decide), H5.mono (by decide), H8.mono (by decide), H7.mono (by decide), trivial⟩
  have hR9 : FnG l.prog w K mg base 5 fa _ p_glaw (lift K cLaw) := fn_pl F9 sc_glaw hG9 b_glaw ck_glaw (by rintro as Q E ⟨_, rfl, _⟩; rfl) (go_law)
  exact hR9
end
end Pl
open PySem PySem.W PyProof.Rows
set_option maxRecDepth 100000 in
set_option maxHeartbeats 0 in
theorem PySem.Challenge.cw_eitherhand_k02_hands_and_integers_judged_holds : PySem.Challenge.rw_eitherhand_k02_hands_and_integers_judged.Holds := by
  w_on; o_law; k_head; (case hw => w_witness2)
  k_fill
  refine Pl.walk_pl (k := 5) (n := 63) (x := "script") (c := Pl.cLaw) (l := PySem.Challenge.rw_eitherhand_k02_hands_and_integers_judged) rfl (by decide) rfl ⟨⟨rfl, by decide, by decide⟩, rfl⟩ (fun w h Y => PySem.W.kIn_of Y) ?F ?cc
  case cc => exact fun ns hn => ⟨ns, rfl, hn, rfl⟩
  case F =>
    intro w mg fa h KX G hmg
    refine' Pl.all_mk KX G hmg ?u_a0 ?u_l0 ?u_c0 ?u_k0 ?u_a1 ?u_l1 ?u_c1 ?u_k1 ?u_a2 ?u_l2 ?u_c2 ?u_k2 ?u_a3 ?u_l3 ?u_c3 ?u_k3 ?u_a4 ?u_l4 ?u_c4 ?u_k4 ?u_a5 ?u_l5 ?u_c5 ?u_k5 ?u_a6 ?u_l6 ?u_c6 ?u_k6 ?u_a7 ?u_l7 ?u_c7 ?u_k7 ?u_a8 ?u_l8 ?u_c8 ?u_k8 ?u_a9 ?u_l9 ?u_c9 ?u_k9 ?u_g0 ?u_g1 ?u_v1 ?u_g2 ?u_g3 ?u_y0 ?u_yc0 ?u_yd0 ?u_ye0 ?u_ya0 ?u_yb0 ?u_yz0 ?u_z0 ?u_z1 ?u_z2 ?u_z3 ?u_z4 ?u_z5 ?u_z6 ?u_z7 ?u_z8 ?u_z9 ?u_z10 ?u_z11 ?u_z12 ?u_z13 ?u_z14 ?u_z15 ?u_z16 ?u_z17 ?u_z18 ?u_z19
    (case u_a0 => k_is); (case u_l0 => k_is); (case u_c0 => k_is); (case u_k0 => k_is); (case u_a1 => k_is); (case u_l1 => k_is)
    (case u_c1 => k_is); (case u_k1 => k_is); (case u_a2 => k_is); (case u_l2 => k_is); (case u_c2 => k_is); (case u_k2 => k_is)
    (case u_a3 => k_is); (case u_l3 => k_is); (case u_c3 => k_is); (case u_k3 => k_is); (case u_a4 => k_is); (case u_l4 => k_is)
    (case u_c4 => k_is); (case u_k4 => k_is); (case u_a5 => k_is); (case u_l5 => k_is); (case u_c5 => k_is); (case u_k5 => k_is)
    (case u_a6 => k_is); (case u_l6 => k_is); (case u_c6 => k_is); (case u_k6 => k_is); (case u_a7 => k_is); (case u_l7 => k_is)
    (case u_c7 => k_is); (case u_k7 => k_is); (case u_a8 => k_is); (case u_l8 => k_is); (case u_c8 => k_is); (case u_k8 => k_is)
    (case u_a9 => k_is); (case u_l9 => k_is); (case u_c9 => k_is); (case u_k9 => k_is); (case u_g0 => k_is); (case u_g1 => k_is)
    (case u_v1 => k_is); (case u_g2 => k_is); (case u_g3 => k_is); (case u_y0 => k_is); (case u_yc0 => k_is); (case u_yd0 => k_is)
    (case u_ye0 => k_is); (case u_ya0 => k_exc); (case u_yb0 => k_is); (case u_yz0 => k_is); (case u_z0 => k_is); (case u_z1 => k_is)
    (case u_z2 => k_is); (case u_z3 => k_is); (case u_z4 => k_is); (case u_z5 => k_is); (case u_z6 => k_is); (case u_z7 => k_is)
    (case u_z8 => k_is); (case u_z9 => k_is); (case u_z10 => k_is); (case u_z11 => k_is); (case u_z12 => k_is); (case u_z13 => k_is)
    (case u_z14 => k_is); (case u_z15 => k_is); (case u_z16 => k_is); (case u_z17 => k_is); (case u_z18 => k_is); (case u_z19 => k_is)
