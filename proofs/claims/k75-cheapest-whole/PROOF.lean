import PyProof.Rows.All
import Wide.All
import OpenK.AllK
import Wide.FinOn
import HandS.ForMost
import HandS.Flow
import HandS.Conv
import HandS.TupAny
import HandS.NoneIn
import HandS.IsInst
import HandS.Defaults
import HandS.HeadHook1
import HandS.Iter
import HandS.TupLe
import KE.LtSeq
import KE.GoesNew
import KE.GoesNewDict
import HandS.Exc
import HandS.Deep
import PyProof.MinMaxWalk
import KE.KDictDisplayH
import KE.KDictCopyH
import KE.KDictOf
import KE.KDictWalk
import HandS.Head0
import HandS.Head1
import HandS.Head2
import HandS.HeadEnd
import HandS.HeadHook2
import PySem.Challenge.RW_hiredhands_k75_cheapest_whole
set_option Elab.async false
set_option linter.all false
set_option maxRecDepth 100000
set_option maxHeartbeats 0
namespace DL
open PySem PySem.Spec PyProof.Rows L2

/-- data: what a value is, without addresses -/
inductive D where
  | non | bl (b : Bool) | int (i : Int) | str (x : Str) | ty (n : String)
  | lst (xs : List D) | tup (xs : List D)
  | obj (c : Str) (ns : List Str) (xs : List D)
  | dic (ks : List (List Key)) (xs : List D)
  | dik (ks : List Key) (xs : List D)
  deriving Inhabited

mutual
def Rep (K : PySem.W.Frag) (H : Hp) : D → V → Prop
  | .non, v => v = .non
  | .bl b, v => v = .bl b
  | .int i, v => v = .int i
  | .str x, v => v = .str x
  | .ty n, v => v = .ty n
  | .lst ds, v => ∃ a vs, v = .ref a ∧ SqL K H a vs ∧ RepL K H ds vs
  | .tup ds, v => ∃ a vs, v = .ref a ∧ H a = some (.tup vs) ∧ RepL K H ds vs
  | .obj c ns ds, v => ∃ a dx vs, v = .ref a ∧ H a = some (.ins (He.ga K c) dx (ns.zip vs)) ∧ ns.length = ds.length ∧ RepL K H ds vs
  | .dic ks ds, v => ∃ a o vs, v = .ref a ∧ H a = some (.frz o (.dT (ks.zip vs))) ∧ ks.length = ds.length ∧ RepL K H ds vs
  | .dik ks ds, v => ∃ a o vs, v = .ref a ∧ H a = some (.frz o (.dK (ks.zip vs))) ∧ ks.length = ds.length ∧ RepL K H ds vs
def RepL (K : PySem.W.Frag) (H : Hp) : List D → List V → Prop
  | [], vs => vs = []
  | d :: ds, vs => ∃ v r, vs = v :: r ∧ Rep K H d v ∧ RepL K H ds r
end

theorem same_rd {H H' : Hp} {a : Addr} {u : HO} (e : Same H H') (h : Rd H a u) : Rd H' a u := by
  rcases h with h | ⟨o, h⟩
  · exact .inl (e _ _ h)
  · exact .inr ⟨o, e _ _ h⟩
theorem same_seqT {K : PySem.W.Frag} {H H' : Hp} {a : Addr} {xs : List V} (e : Same H H') (h : SqT K H a xs) : SqT K H' a xs := by
  rcases h with h | h
  · exact .inl (same_rd e h)
  · exact .inr h
theorem same_upd {H : Hp} {p : Addr} {o : HO} (h : H p = none) : Same H (upd H p o) := fun b x e => by
  rw [upd_ne (ne_of_none e h)]
  exact e

mutual
theorem Rep.mono {K : PySem.W.Frag} {H H' : Hp} (e : Same H H') : ∀ {d : D} {v : V}, Rep K H d v → Rep K H' d v
  | .non, _, h => h
  | .bl _, _, h => h
  | .int _, _, h => h
  | .str _, _, h => h
  | .ty _, _, h => h
  | .lst ds, v, h => by
    obtain ⟨a, vs, h1, h2, h3⟩ := h
    exact ⟨a, vs, h1, e.seq h2, RepL.mono e h3⟩
  | .tup ds, v, h => by
    obtain ⟨a, vs, h1, h2, h3⟩ := h
    exact ⟨a, vs, h1, e _ _ h2, RepL.mono e h3⟩
  | .obj c ns ds, v, h => by
    obtain ⟨a, dx, vs, h1, h2, h3, h4⟩ := h
    exact ⟨a, dx, vs, h1, e _ _ h2, h3, RepL.mono e h4⟩
  | .dic ks ds, v, h => by
    obtain ⟨a, o, vs, h1, h2, h3, h4⟩ := h
    exact ⟨a, o, vs, h1, e _ _ h2, h3, RepL.mono e h4⟩
  | .dik ks ds, v, h => by
    obtain ⟨a, o, vs, h1, h2, h3, h4⟩ := h
    exact ⟨a, o, vs, h1, e _ _ h2, h3, RepL.mono e h4⟩
theorem RepL.mono {K : PySem.W.Frag} {H H' : Hp} (e : Same H H') : ∀ {ds : List D} {vs : List V}, RepL K H ds vs → RepL K H' ds vs
  | [], _, h => h
  | d :: ds, vs, h => by
    obtain ⟨v, r, h1, h2, h3⟩ := h
    exact ⟨v, r, h1, Rep.mono e h2, RepL.mono e h3⟩
end

section
variable {K : PySem.W.Frag} {H : Hp}
theorem RepL.nil : RepL K H [] [] := by unfold RepL; rfl
theorem RepL.cons {d : D} {v : V} {ds : List D} {vs : List V} (h : Rep K H d v) (t : RepL K H ds vs) : RepL K H (d :: ds) (v :: vs) := by
  unfold RepL; exact ⟨v, vs, rfl, h, t⟩
theorem RepL.nil_inv {vs : List V} (h : RepL K H [] vs) : vs = [] := by unfold RepL at h; exact h
theorem RepL.cons_inv {d : D} {ds : List D} {vs : List V} (h : RepL K H (d :: ds) vs) : ∃ v r, vs = v :: r ∧ Rep K H d v ∧ RepL K H ds r := by
  unfold RepL at h; exact h
theorem RepL.len : ∀ {ds : List D} {vs : List V}, RepL K H ds vs → vs.length = ds.length
  | [], _, h => by rw [h.nil_inv]; rfl
  | d :: ds, vs, h => by
    obtain ⟨v, r, rfl, _, h3⟩ := h.cons_inv
    simp [RepL.len h3]
theorem RepL.get : ∀ {ds : List D} {vs : List V} {i : Nat} {d : D}, RepL K H ds vs → ds[i]? = some d → ∃ v, vs[i]? = some v ∧ Rep K H d v
  | [], _, _, _, _, e => by simp at e
  | d :: ds, vs, 0, x, h, e => by
    obtain ⟨v, r, rfl, h2, h3⟩ := h.cons_inv
    simp at e; subst e
    exact ⟨v, by simp, h2⟩
  | d :: ds, vs, i + 1, x, h, e => by
    obtain ⟨v, r, rfl, h2, h3⟩ := h.cons_inv
    obtain ⟨w, q1, q2⟩ := RepL.get (i := i) h3 (by simpa using e)
    exact ⟨w, by simpa using q1, q2⟩
theorem RepL.app : ∀ {ds es : List D} {vs ws : List V}, RepL K H ds vs → RepL K H es ws → RepL K H (ds ++ es) (vs ++ ws)
  | [], _, _, _, h, t => by rw [h.nil_inv]; exact t
  | d :: ds, es, vs, ws, h, t => by
    obtain ⟨v, r, rfl, h2, h3⟩ := h.cons_inv
    exact .cons h2 (RepL.app h3 t)
theorem RepL.one {d : D} {v : V} (h : Rep K H d v) : RepL K H [d] [v] := .cons h .nil
theorem RepL.take : ∀ {ds : List D} {vs : List V} (n : Nat), RepL K H ds vs → RepL K H (ds.take n) (vs.take n)
  | ds, vs, 0, _ => by simpa using RepL.nil
  | [], vs, n + 1, h => by rw [h.nil_inv]; exact .nil
  | d :: ds, vs, n + 1, h => by
    obtain ⟨v, r, rfl, h2, h3⟩ := h.cons_inv
    exact .cons h2 (RepL.take n h3)
theorem RepL.drop : ∀ {ds : List D} {vs : List V} (n : Nat), RepL K H ds vs → RepL K H (ds.drop n) (vs.drop n)
  | ds, vs, 0, h => h
  | [], vs, n + 1, h => by rw [h.nil_inv]; exact .nil
  | d :: ds, vs, n + 1, h => by
    obtain ⟨v, r, rfl, h2, h3⟩ := h.cons_inv
    exact RepL.drop n h3
theorem RepL.setAt {d : D} {v : V} (q : Rep K H d v) : ∀ {ds : List D} {vs : List V} (n : Nat), RepL K H ds vs → RepL K H (ds.set n d) (vs.set n v)
  | [], vs, n, h => by rw [h.nil_inv]; exact .nil
  | x :: ds, vs, 0, h => by
    obtain ⟨v, r, rfl, h2, h3⟩ := h.cons_inv
    exact .cons q h3
  | x :: ds, vs, n + 1, h => by
    obtain ⟨v, r, rfl, h2, h3⟩ := h.cons_inv
    exact .cons h2 (RepL.setAt q n h3)
theorem RepL.rev : ∀ {ds : List D} {vs : List V}, RepL K H ds vs → RepL K H ds.reverse vs.reverse
  | [], vs, h => by rw [h.nil_inv]; exact .nil
  | x :: ds, vs, h => by
    obtain ⟨v, r, rfl, h2, h3⟩ := h.cons_inv
    simp only [List.reverse_cons]
    exact (RepL.rev h3).app (.one h2)
theorem RepL.rep : ∀ {ds : List D} {vs : List V} (k : Nat), RepL K H ds vs → RepL K H (List.replicate k ds).flatten (List.replicate k vs).flatten
  | ds, vs, 0, h => by simpa using RepL.nil
  | ds, vs, k + 1, h => by
    simp only [List.replicate_succ, List.flatten_cons]
    exact h.app (RepL.rep k h)
theorem RepL.ints : ∀ {ns : List Int} {vs : List V}, RepL K H (ns.map D.int) vs ↔ vs = ns.map V.int
  | [], vs => by constructor; exact fun h => h.nil_inv; rintro rfl; exact .nil
  | n :: ns, vs => by
    constructor
    · intro h
      obtain ⟨v, r, rfl, h2, h3⟩ := h.cons_inv
      unfold Rep at h2
      rw [h2, RepL.ints.mp h3]; rfl
    · rintro rfl
      exact .cons (by unfold Rep; rfl) (RepL.ints.mpr rfl)
theorem RepL.bls : ∀ {ns : List Bool} {vs : List V}, RepL K H (ns.map D.bl) vs ↔ vs = ns.map V.bl
  | [], vs => by constructor; exact fun h => h.nil_inv; rintro rfl; exact .nil
  | n :: ns, vs => by
    constructor
    · intro h
      obtain ⟨v, r, rfl, h2, h3⟩ := h.cons_inv
      unfold Rep at h2
      rw [h2, RepL.bls.mp h3]; rfl
    · rintro rfl
      exact .cons (by unfold Rep; rfl) (RepL.bls.mpr rfl)
@[simp] theorem rep_int {i : Int} {v : V} : Rep K H (.int i) v ↔ v = .int i := by unfold Rep; exact Iff.rfl
@[simp] theorem rep_bl {i : Bool} {v : V} : Rep K H (.bl i) v ↔ v = .bl i := by unfold Rep; exact Iff.rfl
@[simp] theorem rep_str {i : Str} {v : V} : Rep K H (.str i) v ↔ v = .str i := by unfold Rep; exact Iff.rfl
@[simp] theorem rep_non {v : V} : Rep K H .non v ↔ v = .non := by unfold Rep; exact Iff.rfl
@[simp] theorem rep_ty {n : String} {v : V} : Rep K H (.ty n) v ↔ v = .ty n := by unfold Rep; exact Iff.rfl
theorem rep_lst {ds : List D} {v : V} : Rep K H (.lst ds) v ↔ ∃ a vs, v = .ref a ∧ SqL K H a vs ∧ RepL K H ds vs := by unfold Rep; exact Iff.rfl
theorem rep_tup {ds : List D} {v : V} : Rep K H (.tup ds) v ↔ ∃ a vs, v = .ref a ∧ H a = some (.tup vs) ∧ RepL K H ds vs := by unfold Rep; exact Iff.rfl
theorem rep_obj {c ns} {ds : List D} {v : V} : Rep K H (.obj c ns ds) v ↔ ∃ a dx vs, v = .ref a ∧ H a = some (.ins (He.ga K c) dx (ns.zip vs)) ∧ ns.length = ds.length ∧ RepL K H ds vs := by unfold Rep; exact Iff.rfl
theorem rep_dic {ks} {ds : List D} {v : V} : Rep K H (.dic ks ds) v ↔ ∃ a o vs, v = .ref a ∧ H a = some (.frz o (.dT (ks.zip vs))) ∧ ks.length = ds.length ∧ RepL K H ds vs := by unfold Rep; exact Iff.rfl
theorem rep_dik {ks} {ds : List D} {v : V} : Rep K H (.dik ks ds) v ↔ ∃ a o vs, v = .ref a ∧ H a = some (.frz o (.dK (ks.zip vs))) ∧ ks.length = ds.length ∧ RepL K H ds vs := by unfold Rep; exact Iff.rfl
end

/-! ### heaps: G the part that stays, H all -/
def isTupO : HO → Bool
  | .tup _ => true
  | _ => false
structure Grow (G H G' H' : Hp) : Prop where
  g : Same G G'
  h : Same H H'
  sub : Same G' H'
  fr : ∀ a o, H a = some o → isTupO o = false → G a = none → G' a = none
theorem Grow.refl {G H : Hp} (s : Same G H) : Grow G H G H := ⟨.refl _, .refl _, s, fun _ _ _ _ h => h⟩
theorem Grow.trans {G H G1 H1 G2 H2 : Hp} (a : Grow G H G1 H1) (b : Grow G1 H1 G2 H2) : Grow G H G2 H2 :=
  ⟨a.g.trans b.g, a.h.trans b.h, b.sub, fun x o h t g => b.fr x o (a.h x o h) t (a.fr x o h t g)⟩
/-- a new object joins the part that stays -/
theorem Grow.new {G H : Hp} {p : Addr} {o : HO} (s : Same G H) (n : H p = none) : Grow G H (upd G p o) (upd H p o) where
  g := same_upd (s.free n)
  h := same_upd n
  sub := fun b x e => by
    by_cases hb : b = p
    · subst hb; rw [upd_same] at e ⊢; exact e
    · rw [upd_ne hb] at e ⊢; exact s _ _ e
  fr := fun a u h t g => by
    rw [upd_ne]
    · exact g
    · rintro rfl; rw [n] at h; cases h
/-- a new object stays out of it -/
theorem Grow.out {G H : Hp} {p : Addr} {o : HO} (s : Same G H) (n : H p = none) : Grow G H G (upd H p o) where
  g := .refl _
  h := same_upd n
  sub := s.trans (same_upd n)
  fr := fun a o h t g => g

/-- a slot: data that stays; an object of the frame's own, whose parts stay -/
inductive Sl where
  | val (d : D) | own (d : D)
abbrev DEnv := List (Option Sl)

def ORep (K : PySem.W.Frag) (G H : Hp) (p : Addr) : D → Prop
  | .lst ds => ∃ vs, H p = some (.lst vs) ∧ RepL K G ds vs
  | .obj c ns ds => ∃ dx vs, H p = some (.ins (He.ga K c) dx (ns.zip vs)) ∧ ns.length = ds.length ∧ RepL K G ds vs
  | .dic ks ds => ∃ vs, H p = some (.dT (ks.zip vs)) ∧ ks.length = ds.length ∧ RepL K G ds vs
  | .dik ks ds => ∃ vs, H p = some (.dK (ks.zip vs)) ∧ ks.length = ds.length ∧ RepL K G ds vs
  | _ => False
theorem ORep.mono {K : PySem.W.Frag} {G H G' H' : Hp} {p : Addr} (g : Same G G') (h : H p ≠ none → H' p = H p) : ∀ {d : D}, ORep K G H p d → ORep K G' H' p d := by
  intro d q
  have e : ∀ {o}, H p = some o → H' p = some o := fun {o} e => by rw [h (by rw [e]; exact Option.some_ne_none o)]; exact e
  cases d with
  | lst ds => obtain ⟨vs, a, b⟩ := q; exact ⟨vs, e a, b.mono g⟩
  | obj c ns ds => obtain ⟨dx, vs, a, b, c⟩ := q; exact ⟨dx, vs, e a, b, c.mono g⟩
  | dic ks ds => obtain ⟨vs, a, b, c⟩ := q; exact ⟨vs, e a, b, c.mono g⟩
  | dik ks ds => obtain ⟨vs, a, b, c⟩ := q; exact ⟨vs, e a, b, c.mono g⟩
  | _ => exact q
theorem ORep.there {K : PySem.W.Frag} {G H : Hp} {p : Addr} {d : D} (q : ORep K G H p d) : H p ≠ none := by
  cases d with
  | lst ds => obtain ⟨vs, a, b⟩ := q; rw [a]; exact Option.some_ne_none _
  | obj c ns ds => obtain ⟨dx, vs, a, b, c⟩ := q; rw [a]; exact Option.some_ne_none _
  | dic ks ds => obtain ⟨vs, a, b, c⟩ := q; rw [a]; exact Option.some_ne_none _
  | dik ks ds => obtain ⟨vs, a, b, c⟩ := q; rw [a]; exact Option.some_ne_none _
  | _ => exact q.elim
theorem ORep.thereT {K : PySem.W.Frag} {G H : Hp} {p : Addr} {d : D} (q : ORep K G H p d) : ∃ o, H p = some o ∧ isTupO o = false := by
  cases d with
  | lst ds => obtain ⟨vs, a, b⟩ := q; exact ⟨_, a, rfl⟩
  | obj c ns ds => obtain ⟨dx, vs, a, b, c⟩ := q; exact ⟨_, a, rfl⟩
  | dic ks ds => obtain ⟨vs, a, b, c⟩ := q; exact ⟨_, a, rfl⟩
  | dik ks ds => obtain ⟨vs, a, b, c⟩ := q; exact ⟨_, a, rfl⟩
  | _ => exact q.elim
def isDicD : D → Bool
  | .dic _ _ => true
  | .dik _ _ => true
  | _ => false
/-- the own object, read in the whole heap -/
theorem ORep.rep {K : PySem.W.Frag} {G H : Hp} {p : Addr} (s : Same G H) : ∀ {d : D}, isDicD d = false → ORep K G H p d → Rep K H d (.ref p) := by
  intro d n q
  cases d with
  | lst ds => obtain ⟨vs, a, b⟩ := q; exact rep_lst.mpr ⟨p, vs, rfl, SqL.of a, b.mono s⟩
  | obj c ns ds => obtain ⟨dx, vs, a, b, c⟩ := q; exact rep_obj.mpr ⟨p, dx, vs, rfl, a, b, c.mono s⟩
  | dic ks ds => cases n
  | dik ks ds => cases n
  | _ => exact q.elim

/-- the frame's entry: the part that stays; the instance that __init__ fills -/
structure Ent where
  g : Hp
  slf : Option Addr := none
def isObjD : D → Bool
  | .obj _ _ _ => true
  | _ => false
/-- the frame: G0 H0 at its entry, G H now -/
structure DSt (K : PySem.W.Frag) (G0 : Ent) (H0 G H : Hp) (σ : L2.St) (ρ : DEnv) : Prop where
  gr : Grow G0.g H0 G H
  len : σ.length = ρ.length
  val : ∀ (i : Nat) (d : D), ρ[i]? = some (some (.val d)) → ∃ v, σ[i]? = some (some v) ∧ Rep K G d v
  own : ∀ (i : Nat) (d : D), ρ[i]? = some (some (.own d)) → ∃ p, σ[i]? = some (some (.ref p)) ∧ H0 p = none ∧ G p = none ∧ ORep K G H p d
  sep : ∀ (i j : Nat) (d e : D) (p : Addr), i ≠ j → ρ[i]? = some (some (.own d)) → ρ[j]? = some (some (.own e)) → σ[i]? = some (some (.ref p)) → σ[j]? = some (some (.ref p)) → False
  slf : ∀ (p : Addr) (d : D), G0.slf = some p → isObjD d = true → ρ[0]? = some (some (.own d)) → σ[0]? = some (some (.ref p))
section
variable {K : PySem.W.Frag} {G0 : Ent} {H0 G H G' H' : Hp} {σ : L2.St} {ρ : DEnv}
theorem DSt.grow (s : DSt K G0 H0 G H σ ρ) (g : Grow G H G' H') : DSt K G0 H0 G' H' σ ρ where
  gr := s.gr.trans g
  len := s.len
  val := fun i d e => let ⟨v, a, b⟩ := s.val i d e; ⟨v, a, b.mono g.g⟩
  own := fun i d e => by
    obtain ⟨p, a, b, c, q⟩ := s.own i d e
    obtain ⟨o, ho, ht⟩ := q.thereT
    refine ⟨p, a, b, g.fr p o ho ht c, q.mono g.g fun h => ?_⟩
    cases e : H p with
    | none => exact absurd e h
    | some o => exact g.h _ _ e
  sep := s.sep
  slf := s.slf
theorem DSt.sub (s : DSt K G0 H0 G H σ ρ) : Same G H := s.gr.sub
/-- a slot is stored -/
theorem DSt.setVal {i : Nat} {d : D} {v : V} (s : DSt K G0 H0 G H σ ρ) (r : Rep K G d v) : DSt K G0 H0 G H (σ.set i (some v)) (ρ.set i (some (.val d))) where
  gr := s.gr
  len := by simpa using s.len
  val := fun j e q => by
    by_cases h : i = j
    · subst h
      have hl : i < ρ.length := by have := (List.getElem?_eq_some_iff.mp q).1; simpa using this
      rw [List.getElem?_set_self hl] at q
      cases q
      exact ⟨v, by rw [List.getElem?_set_self (by rw [s.len]; exact hl)], r⟩
    · rw [List.getElem?_set_ne h] at q ⊢
      exact s.val j e q
  own := fun j e q => by
    by_cases h : i = j
    · subst h
      have hl : i < ρ.length := by have := (List.getElem?_eq_some_iff.mp q).1; simpa using this
      rw [List.getElem?_set_self hl] at q
      cases q
    · rw [List.getElem?_set_ne h] at q ⊢
      exact s.own j e q
  sep := fun j k e f p hjk q1 q2 q3 q4 => by
    have f1 : i ≠ j := fun h => by
      subst h
      have hl : i < ρ.length := by have := (List.getElem?_eq_some_iff.mp q1).1; simpa using this
      rw [List.getElem?_set_self hl] at q1
      cases q1
    have f2 : i ≠ k := fun h => by
      subst h
      have hl : i < ρ.length := by have := (List.getElem?_eq_some_iff.mp q2).1; simpa using this
      rw [List.getElem?_set_self hl] at q2
      cases q2
    rw [List.getElem?_set_ne f1] at q1 q3
    rw [List.getElem?_set_ne f2] at q2 q4
    exact s.sep j k e f p hjk q1 q2 q3 q4
  slf := fun p e h1 h2 q => by
    by_cases h : i = 0
    · subst h
      have hl : 0 < ρ.length := by have := (List.getElem?_eq_some_iff.mp q).1; simpa using this
      rw [List.getElem?_set_self hl] at q
      cases q
    · rw [List.getElem?_set_ne h] at q ⊢
      exact s.slf p e h1 h2 q
/-- an own object is stored: it stands in no own slot -/
theorem DSt.setOwn {i : Nat} {d : D} {p : Addr} (s : DSt K G0 H0 G H σ ρ) (h0 : H0 p = none) (hg : G p = none) (r : ORep K G H p d)
    (ne : ∀ (j : Nat) (e : D), j ≠ i → ρ[j]? = some (some (.own e)) → σ[j]? = some (some (.ref p)) → False) (hs : i ≠ 0 ∨ isObjD d = false) : DSt K G0 H0 G H (σ.set i (some (.ref p))) (ρ.set i (some (.own d))) where
  gr := s.gr
  len := by simpa using s.len
  val := fun j e q => by
    by_cases h : i = j
    · subst h
      have hl : i < ρ.length := by have := (List.getElem?_eq_some_iff.mp q).1; simpa using this
      rw [List.getElem?_set_self hl] at q
      cases q
    · rw [List.getElem?_set_ne h] at q ⊢
      exact s.val j e q
  own := fun j e q => by
    by_cases h : i = j
    · subst h
      have hl : i < ρ.length := by have := (List.getElem?_eq_some_iff.mp q).1; simpa using this
      rw [List.getElem?_set_self hl] at q
      cases q
      exact ⟨p, by rw [List.getElem?_set_self (by rw [s.len]; exact hl)], h0, hg, r⟩
    · rw [List.getElem?_set_ne h] at q ⊢
      exact s.own j e q
  sep := fun j k e f x hjk q1 q2 q3 q4 => by
    have hl : ∀ {m : Nat} {y}, (ρ.set i (some (Sl.own d)))[m]? = some y → m < ρ.length := fun {m y} q => by
      have := (List.getElem?_eq_some_iff.mp q).1; simpa using this
    by_cases f1 : i = j
    · subst f1
      have f2 : i ≠ k := hjk
      rw [List.getElem?_set_self (by rw [s.len]; exact hl q1)] at q3
      rw [List.getElem?_set_ne f2] at q2 q4
      cases q3
      exact ne k f (Ne.symm f2) q2 q4
    · rw [List.getElem?_set_ne f1] at q1 q3
      by_cases f2 : i = k
      · subst f2
        rw [List.getElem?_set_self (by rw [s.len]; exact hl q2)] at q4
        cases q4
        exact ne j e (Ne.symm f1) q1 q3
      · rw [List.getElem?_set_ne f2] at q2 q4
        exact s.sep j k e f x hjk q1 q2 q3 q4
  slf := fun p e h1 h2 q => by
    by_cases h : i = 0
    · subst h
      have hl : 0 < ρ.length := by have := (List.getElem?_eq_some_iff.mp q).1; simpa using this
      rw [List.getElem?_set_self hl] at q
      cases q
      rcases hs with hs | hs
      · exact absurd rfl hs
      · rw [hs] at h2; cases h2
    · rw [List.getElem?_set_ne h] at q ⊢
      exact s.slf p e h1 h2 q
/-- an own object, written -/
theorem DSt.write {i : Nat} {d d' : D} {p : Addr} {o : HO} (s : DSt K G0 H0 G H σ ρ) (e : ρ[i]? = some (some (.own d))) (ep : σ[i]? = some (some (.ref p))) (r : ORep K G (upd H p o) p d') (hs : isObjD d' = true → isObjD d = true := by intro h; first | rfl | cases h) :
    DSt K G0 H0 G (upd H p o) σ (ρ.set i (some (.own d'))) := by
  obtain ⟨p', ep', h0, hg, q⟩ := s.own i d e
  rw [ep] at ep'; cases ep'
  have hl : i < ρ.length := (List.getElem?_eq_some_iff.mp e).1
  refine ⟨⟨s.gr.g, fun a x h => ?_, fun a x h => ?_, s.gr.fr⟩, by simpa using s.len, fun j f z => ?_, fun j f z => ?_, fun j k f g x hjk z1 z2 z3 z4 => ?_, fun q f h1 h2 z => ?_⟩
  · rw [upd_ne (ne_of_none h h0)]; exact s.gr.h _ _ h
  · rw [upd_ne (ne_of_none h hg)]; exact s.gr.sub _ _ h
  · by_cases h : i = j
    · subst h
      rw [List.getElem?_set_self hl] at z
      cases z
    · rw [List.getElem?_set_ne h] at z
      exact s.val j f z
  · by_cases h : i = j
    · subst h
      rw [List.getElem?_set_self hl] at z
      cases z
      exact ⟨p, ep, h0, hg, r⟩
    · rw [List.getElem?_set_ne h] at z
      obtain ⟨p2, a, b, c, t⟩ := s.own j f z
      refine ⟨p2, a, b, c, t.mono (.refl _) fun _ => ?_⟩
      rw [upd_ne]
      rintro rfl
      exact s.sep i j d f p2 h e z ep a
  · have back : ∀ {m : Nat} {f : D}, (ρ.set i (some (Sl.own d')))[m]? = some (some (.own f)) → ∃ f', ρ[m]? = some (some (.own f')) := fun {m f} z => by
      by_cases h : i = m
      · subst h; exact ⟨d, e⟩
      · rw [List.getElem?_set_ne h] at z; exact ⟨f, z⟩
    obtain ⟨f', z1⟩ := back z1
    obtain ⟨g', z2⟩ := back z2
    exact s.sep j k f' g' x hjk z1 z2 z3 z4
  · by_cases h : i = 0
    · subst h
      rw [List.getElem?_set_self hl] at z
      cases z
      exact s.slf q d h1 (hs h2) e
    · rw [List.getElem?_set_ne h] at z
      exact s.slf q f h1 h2 z
/-- an own object is frozen: it joins what stays -/
theorem DSt.freeze {i : Nat} {d : D} (s : DSt K G0 H0 G H σ ρ) (e : ρ[i]? = some (some (.own d))) (nd : isDicD d = false) : ∃ G', DSt K G0 H0 G' H σ (ρ.set i (some (.val d))) ∧ Same G G' := by
  obtain ⟨p, ep, h0, hg, q⟩ := s.own i d e
  have hl : i < ρ.length := (List.getElem?_eq_some_iff.mp e).1
  obtain ⟨o, ho⟩ : ∃ o, H p = some o := by
    cases h : H p with
    | none => exact absurd h q.there
    | some o => exact ⟨o, rfl⟩
  have sg : Same G (upd G p o) := same_upd hg
  have sh : Same (upd G p o) H := fun b x z => by
    by_cases hb : b = p
    · subst hb; rw [upd_same] at z; rw [ho]; exact z
    · rw [upd_ne hb] at z; exact s.gr.sub _ _ z
  have rp : Rep K (upd G p o) d (.ref p) := by
    have q' : ORep K (upd G p o) (upd G p o) p d := by
      have q1 : ORep K (upd G p o) H p d := q.mono sg fun _ => rfl
      have eo : H p = (upd G p o) p := by rw [ho, upd_same]
      refine ORep.mono (.refl _) (fun _ => eo.symm) q1
    exact q'.rep (.refl _) nd
  refine ⟨upd G p o, ⟨⟨s.gr.g.trans sg, s.gr.h, sh, fun a y h t z => ?_⟩, by simpa using s.len, fun j f z => ?_, fun j f z => ?_, fun j k f g x hjk z1 z2 z3 z4 => ?_, fun q f h1 h2 z => ?_⟩, sg⟩
  · rw [upd_ne]
    · exact s.gr.fr a y h t z
    · rintro rfl; rw [h0] at h; cases h
  · by_cases h : i = j
    · subst h
      rw [List.getElem?_set_self hl] at z
      cases z
      exact ⟨_, ep, rp⟩
    · rw [List.getElem?_set_ne h] at z
      obtain ⟨v, a, b⟩ := s.val j f z
      exact ⟨v, a, b.mono sg⟩
  · by_cases h : i = j
    · subst h
      rw [List.getElem?_set_self hl] at z
      cases z
    · rw [List.getElem?_set_ne h] at z
      obtain ⟨p2, a, b, c, t⟩ := s.own j f z
      refine ⟨p2, a, b, ?_, t.mono sg fun _ => rfl⟩
      rw [upd_ne]
      · exact c
      · rintro rfl
        exact s.sep i j d f p2 h e z ep a
  · have back : ∀ {m : Nat} {f : D}, (ρ.set i (some (Sl.val d)))[m]? = some (some (.own f)) → ρ[m]? = some (some (.own f)) := fun {m f} z => by
      by_cases h : i = m
      · subst h
        rw [List.getElem?_set_self hl] at z
        cases z
      · rw [List.getElem?_set_ne h] at z; exact z
    exact s.sep j k f g x hjk (back z1) (back z2) z3 z4
  · by_cases h : i = 0
    · subst h
      rw [List.getElem?_set_self hl] at z
      cases z
    · rw [List.getElem?_set_ne h] at z
      exact s.slf q f h1 h2 z
/-- an own object joins what stays, as another thing (a dict is locked) -/
theorem DSt.freezeAs {i : Nat} {d : D} {p : Addr} {u : HO} (s : DSt K G0 H0 G H σ ρ) (e : ρ[i]? = some (some (.own d))) (ep : σ[i]? = some (some (.ref p))) (rp : Rep K (upd G p u) d (.ref p)) :
    DSt K G0 H0 (upd G p u) (upd H p u) σ (ρ.set i (some (.val d))) ∧ Same G (upd G p u) := by
  obtain ⟨p', ep', h0, hg, q⟩ := s.own i d e
  rw [ep] at ep'; cases ep'
  have hl : i < ρ.length := (List.getElem?_eq_some_iff.mp e).1
  have sg : Same G (upd G p u) := same_upd hg
  refine ⟨⟨⟨s.gr.g.trans sg, fun a x h => ?_, fun a x h => ?_, fun a y h t z => ?_⟩, by simpa using s.len, fun j f z => ?_, fun j f z => ?_, fun j k f g x hjk z1 z2 z3 z4 => ?_, fun q f h1 h2 z => ?_⟩, sg⟩
  · rw [upd_ne (ne_of_none h h0)]; exact s.gr.h _ _ h
  · by_cases hb : a = p
    · subst hb; rw [upd_same] at h ⊢; exact h
    · rw [upd_ne hb] at h ⊢; exact s.gr.sub _ _ h
  · rw [upd_ne]
    · exact s.gr.fr a y h t z
    · rintro rfl; rw [h0] at h; cases h
  · by_cases h : i = j
    · subst h
      rw [List.getElem?_set_self hl] at z
      cases z
      exact ⟨_, ep, rp⟩
    · rw [List.getElem?_set_ne h] at z
      obtain ⟨v, a, b⟩ := s.val j f z
      exact ⟨v, a, b.mono sg⟩
  · by_cases h : i = j
    · subst h
      rw [List.getElem?_set_self hl] at z
      cases z
    · rw [List.getElem?_set_ne h] at z
      obtain ⟨p2, a, b, c, t⟩ := s.own j f z
      have ne : p2 ≠ p := by
        rintro rfl
        exact s.sep i j d f p2 h e z ep a
      refine ⟨p2, a, b, ?_, t.mono sg fun _ => ?_⟩
      · rw [upd_ne ne]; exact c
      · rw [upd_ne ne]
  · have back : ∀ {m : Nat} {f : D}, (ρ.set i (some (Sl.val d)))[m]? = some (some (.own f)) → ρ[m]? = some (some (.own f)) := fun {m f} z => by
      by_cases h : i = m
      · subst h
        rw [List.getElem?_set_self hl] at z
        cases z
      · rw [List.getElem?_set_ne h] at z; exact z
    exact s.sep j k f g x hjk (back z1) (back z2) z3 z4
  · by_cases h : i = 0
    · subst h
      rw [List.getElem?_set_self hl] at z
      cases z
    · rw [List.getElem?_set_ne h] at z
      exact s.slf q f h1 h2 z
end
end DL
namespace DL
open PySem PySem.Spec PyProof.Rows L2

/-! ### weakening -/
theorem PE.imp {X : Cx} {e : Expr} {t t' : TE} (h : PE X e t) (q : ∀ σ H Q, t' σ H Q → t σ H Q) : PE X e t' := ⟨fun pins s σ H Q I w => h.run pins s σ H Q I (q σ H Q w)⟩
theorem PT.imp {X : Cx} {e : Expr} {t t' : TT} (h : PT X e t) (q : ∀ σ H Q, t' σ H Q → t σ H Q) : PT X e t' := ⟨fun pins s σ H Q I w => h.run pins s σ H Q I (q σ H Q w)⟩
theorem PA.imp {X : Cx} {e : List Expr} {t t' : TA} (h : PA X e t) (q : ∀ σ H Q, t' σ H Q → t σ H Q) : PA X e t' := ⟨fun pos pins s σ H Q I w => h.run pos pins s σ H Q I (q σ H Q w)⟩
theorem PS.imp {X : Cx} {e : Stmt} {t t' : TS} (h : PS X e t) (q : ∀ D σ H, t' D σ H → t D σ H) : PS X e t' := ⟨fun pins s σ H D I w => h.run pins s σ H D I (q D σ H w)⟩
theorem PSs.imp {X : Cx} {e : List Stmt} {t t' : TS} (h : PSs X e t) (q : ∀ D σ H, t' D σ H → t D σ H) : PSs X e t' := ⟨fun pins s σ H D I w => h.run pins s σ H D I (q D σ H w)⟩
theorem PG.imp {X : Cx} {e : Expr} {t t' : TG} (h : PG X e t) (q : ∀ v σ H Q, t' v σ H Q → t v σ H Q) : PG X e t' := ⟨fun pins s σ H v u Q I r w => h.run pins s σ H v u Q I r (q v σ H Q w)⟩
theorem PI.imp {X : Cx} {tg e : Expr} {t t' : TI} (h : PI X tg e t) (q : ∀ σ H R, t' σ H R → t σ H R) : PI X tg e t' := ⟨fun pins s σ H R I w => h.run pins s σ H R I (q σ H R w)⟩

/-! ### what an expression gives -/
/-- data that stays, or an own object, whole -/
def PRep (K : PySem.W.Frag) (G H : Hp) (d : D) (v : V) : Prop := Rep K G d v ∨ ∃ p, v = .ref p ∧ ORep K G H p d
theorem PRep.grow {K : PySem.W.Frag} {G H G' H' : Hp} {d : D} {v : V} (g : Grow G H G' H') (h : PRep K G H d v) : PRep K G' H' d v := by
  rcases h with h | ⟨p, e, h⟩
  · exact .inl (h.mono g.g)
  · refine .inr ⟨p, e, h.mono g.g fun n => ?_⟩
    cases z : H p with
    | none => exact absurd z n
    | some o => exact g.h _ _ z
theorem PRep.rep {K : PySem.W.Frag} {G H : Hp} {d : D} {v : V} (s : Same G H) (n : isDicD d = false) (h : PRep K G H d v) : Rep K H d v := by
  rcases h with h | ⟨p, e, h⟩
  · exact h.mono s
  · rw [e]; exact h.rep s n
/-- its parts stay -/
theorem PRep.lst {K : PySem.W.Frag} {G H : Hp} {ds : List D} {v : V} (s : Same G H) (h : PRep K G H (.lst ds) v) : ∃ a vs, v = .ref a ∧ SqL K H a vs ∧ RepL K G ds vs := by
  rcases h with h | ⟨p, e, h⟩
  · obtain ⟨a, vs, h1, h2, h3⟩ := rep_lst.mp h
    exact ⟨a, vs, h1, s.seq h2, h3⟩
  · obtain ⟨vs, h1, h2⟩ := h
    exact ⟨p, vs, e, SqL.of h1, h2⟩
theorem PRep.tup {K : PySem.W.Frag} {G H : Hp} {ds : List D} {v : V} (h : PRep K G H (.tup ds) v) : ∃ a vs, v = .ref a ∧ G a = some (.tup vs) ∧ RepL K G ds vs := by
  rcases h with h | ⟨p, e, h⟩
  · exact rep_tup.mp h
  · exact h.elim
theorem PRep.obj {K : PySem.W.Frag} {G H : Hp} {c ns} {ds : List D} {v : V} (s : Same G H) (h : PRep K G H (.obj c ns ds) v) : ∃ a dx vs, v = .ref a ∧ H a = some (.ins (He.ga K c) dx (ns.zip vs)) ∧ ns.length = ds.length ∧ RepL K G ds vs := by
  rcases h with h | ⟨p, e, h⟩
  · obtain ⟨a, dx, vs, h1, h2, h3, h4⟩ := rep_obj.mp h
    exact ⟨a, dx, vs, h1, s _ _ h2, h3, h4⟩
  · obtain ⟨dx, vs, h1, h2, h3⟩ := h
    exact ⟨p, dx, vs, e, h1, h2, h3⟩
theorem PRep.dic {K : PySem.W.Frag} {G H : Hp} {ks} {ds : List D} {v : V} (s : Same G H) (h : PRep K G H (.dic ks ds) v) : ∃ a vs, v = .ref a ∧ Rd H a (.dT (ks.zip vs)) ∧ ks.length = ds.length ∧ RepL K G ds vs := by
  rcases h with h | ⟨p, e, h⟩
  · obtain ⟨a, o, vs, h1, h2, h3, h4⟩ := rep_dic.mp h
    exact ⟨a, vs, h1, .inr ⟨o, s _ _ h2⟩, h3, h4⟩
  · obtain ⟨vs, h1, h2, h3⟩ := h
    exact ⟨p, vs, e, .inl h1, h2, h3⟩
theorem PRep.dik {K : PySem.W.Frag} {G H : Hp} {ks} {ds : List D} {v : V} (s : Same G H) (h : PRep K G H (.dik ks ds) v) : ∃ a vs, v = .ref a ∧ Rd H a (.dK (ks.zip vs)) ∧ ks.length = ds.length ∧ RepL K G ds vs := by
  rcases h with h | ⟨p, e, h⟩
  · obtain ⟨a, o, vs, h1, h2, h3, h4⟩ := rep_dik.mp h
    exact ⟨a, vs, h1, .inr ⟨o, s _ _ h2⟩, h3, h4⟩
  · obtain ⟨vs, h1, h2, h3⟩ := h
    exact ⟨p, vs, e, .inl h1, h2, h3⟩
section
variable {K : PySem.W.Frag} {G H : Hp} {v : V}
@[simp] theorem prep_int {i : Int} : PRep K G H (.int i) v ↔ v = .int i := by unfold PRep; simp [ORep]
@[simp] theorem prep_bl {i : Bool} : PRep K G H (.bl i) v ↔ v = .bl i := by unfold PRep; simp [ORep]
@[simp] theorem prep_str {i : Str} : PRep K G H (.str i) v ↔ v = .str i := by unfold PRep; simp [ORep]
@[simp] theorem prep_non : PRep K G H .non v ↔ v = .non := by unfold PRep; simp [ORep]
@[simp] theorem prep_ty {n : String} : PRep K G H (.ty n) v ↔ v = .ty n := by unfold PRep; simp [ORep]
end

abbrev FE := DEnv → Option D
abbrev FT := DEnv → Option Bool
abbrev FA := DEnv → Option (List D)
def liftE (K : PySem.W.Frag) (f : FE) : TE := fun σ H Q => ∃ G0 H0 G ρ d, DSt K G0 H0 G H σ ρ ∧ f ρ = some d ∧ ∀ v G' H', Grow G H G' H' → Rep K G' d v → Q v H'
def liftP (K : PySem.W.Frag) (f : FE) : TE := fun σ H Q => ∃ G0 H0 G ρ d, DSt K G0 H0 G H σ ρ ∧ f ρ = some d ∧ ∀ v G' H', Grow G H G' H' → PRep K G' H' d v → Q v H'
def liftF (K : PySem.W.Frag) (f : FE) : TE := fun σ H Q => ∃ G0 H0 G ρ d, DSt K G0 H0 G H σ ρ ∧ f ρ = some d ∧ ∀ p G' H', Grow G H G' H' → H p = none → G' p = none → ORep K G' H' p d → Q (.ref p) H'
def liftT (K : PySem.W.Frag) (f : FT) : TT := fun σ H Q => ∃ G0 H0 G ρ b, DSt K G0 H0 G H σ ρ ∧ f ρ = some b ∧ ∀ G' H', Grow G H G' H' → Q b H'
inductive PRepL (K : PySem.W.Frag) (G H : Hp) : List D → List V → Prop
  | nil : PRepL K G H [] []
  | cons {d v ds vs} : PRep K G H d v → PRepL K G H ds vs → PRepL K G H (d :: ds) (v :: vs)
theorem PRepL.of {K : PySem.W.Frag} {G H : Hp} : ∀ {ds : List D} {vs : List V}, RepL K G ds vs → PRepL K G H ds vs
  | [], vs, h => by rw [h.nil_inv]; exact .nil
  | d :: ds, vs, h => by
    obtain ⟨v, r, rfl, h2, h3⟩ := h.cons_inv
    exact .cons (.inl h2) (PRepL.of h3)
theorem PRepL.grow {K : PySem.W.Frag} {G H G' H' : Hp} {ds : List D} {vs : List V} (g : Grow G H G' H') (h : PRepL K G H ds vs) : PRepL K G' H' ds vs := by
  induction h with
  | nil => exact .nil
  | cons a _ ih => exact .cons (a.grow g) ih
theorem PRepL.len {K : PySem.W.Frag} {G H : Hp} {ds : List D} {vs : List V} (h : PRepL K G H ds vs) : vs.length = ds.length := by
  induction h with
  | nil => rfl
  | cons a _ ih => simp [ih]
def liftA (K : PySem.W.Frag) (f : FA) : TA := fun σ H Q => ∃ G0 H0 G ρ ds, DSt K G0 H0 G H σ ρ ∧ f ρ = some ds ∧ ∀ vs G' H', Grow G H G' H' → RepL K G' ds vs → Q vs H'
def liftPA (K : PySem.W.Frag) (f : FA) : TA := fun σ H Q => ∃ G0 H0 G ρ ds, DSt K G0 H0 G H σ ρ ∧ f ρ = some ds ∧ ∀ vs G' H', Grow G H G' H' → PRepL K G' H' ds vs → Q vs H'

/-- e gives data that stays; e is read (an own object may be it); e makes a new object -/
def DE (X : Cx) (e : Expr) (f : FE) : Prop := PE X e (liftE X.K f)
def DP (X : Cx) (e : Expr) (f : FE) : Prop := PE X e (liftP X.K f)
def DF (X : Cx) (e : Expr) (f : FE) : Prop := PE X e (liftF X.K f)
def DT (X : Cx) (e : Expr) (f : FT) : Prop := PT X e (liftT X.K f)
def DW (X : Cx) (e : Expr) (f : FT) : Prop := PW X e (liftT X.K f)
structure DAr (X : Cx) (es : List Expr) (f : FA) : Prop where
  run : PA X es (liftA X.K f)
  len : ∀ ρ ds, f ρ = some ds → ds.length = es.length
structure DPA (X : Cx) (es : List Expr) (f : FA) : Prop where
  run : PA X es (liftPA X.K f)
  len : ∀ ρ ds, f ρ = some ds → ds.length = es.length

section
variable {X : Cx} {e a b : Expr} {f fa fb : FE} {pos : Pos}
theorem DE.p (h : DE X e f) : DP X e f := PE.imp h fun σ H Q ⟨G0, H0, G, ρ, d, s, q, k⟩ => ⟨G0, H0, G, ρ, d, s, q, fun v G' H' g r => k v G' H' g (.inl r)⟩
theorem PE.lock {t : TE} (h : PE X e t) : PE X e (fun σ H Q => t σ H fun v H' => Q v H' ∨ ∃ d u, H' d = some u ∧ Mut (some u) ∧ ∀ od, Q v (upd H' d (.frz od u))) := ⟨fun pins s σ H Q I w =>
  thn (h.run pins s σ H _ I w) fun u s1 ⟨v, H1, I1, r, q⟩ => by
    rcases q with q | ⟨d, x, hd, mu, q⟩
    · exact ⟨v, H1, I1, r, q⟩
    · obtain ⟨od, I2⟩ := I1.lock hd mu
      exact ⟨v, _, I2, r, q od⟩⟩
/-- a new object joins what stays -/
theorem DF.toE (h : DF X e f) : DE X e f := PE.imp (PE.lock h) fun σ H Q ⟨G0, H0, G, ρ, d, s, q, k⟩ => ⟨G0, H0, G, ρ, d, s, q, fun p G' H' g n1 n2 r => by
  obtain ⟨o, ho⟩ : ∃ o, H' p = some o := by
    cases h : H' p with
    | none => exact absurd h r.there
    | some o => exact ⟨o, rfl⟩
  cases hd : isDicD d with
  | false =>
    have sg : Same G' (upd G' p o) := same_upd n2
    refine .inl (k (.ref p) (upd G' p o) H' ⟨g.g.trans sg, g.h, fun b x z => ?_, fun a y h t z => ?_⟩ ?_)
    · by_cases hb : b = p
      · subst hb; rw [upd_same] at z; rw [ho]; exact z
      · rw [upd_ne hb] at z; exact g.sub _ _ z
    · rw [upd_ne]
      · exact g.fr a y h t z
      · rintro rfl; rw [n1] at h; cases h
    · have q1 : ORep X.K (upd G' p o) H' p d := r.mono sg fun _ => rfl
      exact (ORep.mono (.refl _) (fun _ => by rw [upd_same, ho]) q1 : ORep X.K (upd G' p o) (upd G' p o) p d).rep (.refl _) hd
  | true =>
    have key : ∀ u : HO, Rep X.K (upd G' p u) d (.ref p) → Q (.ref p) (upd H' p u) := fun u ru => by
      refine k (.ref p) (upd G' p u) (upd H' p u) ⟨g.g.trans (same_upd n2), fun a x h => ?_, fun b x z => ?_, fun a y h t z => ?_⟩ ru
      · rw [upd_ne (ne_of_none h n1)]; exact g.h _ _ h
      · by_cases hb : b = p
        · subst hb; rw [upd_same] at z ⊢; exact z
        · rw [upd_ne hb] at z ⊢; exact g.sub _ _ z
      · rw [upd_ne]
        · exact g.fr a y h t z
        · rintro rfl; rw [n1] at h; cases h
    cases d with
    | dic ks ds =>
      obtain ⟨vs, h1, h2, h3⟩ := r
      exact .inr ⟨p, _, h1, True.intro, fun od => key _ (rep_dic.mpr ⟨p, od, vs, rfl, upd_same, h2, h3.mono (same_upd n2)⟩)⟩
    | dik ks ds =>
      obtain ⟨vs, h1, h2, h3⟩ := r
      exact .inr ⟨p, _, h1, True.intro, fun od => key _ (rep_dik.mpr ⟨p, od, vs, rfl, upd_same, h2, h3.mono (same_upd n2)⟩)⟩
    | _ => cases hd⟩
theorem DF.p (h : DF X e f) : DP X e f := h.toE.p

/-! ### names, constants -/
def eName (i : Nat) : FE := fun ρ => match ρ[i]? with
  | some (some (.val d)) => some d
  | _ => none
def pName (i : Nat) : FE := fun ρ => match ρ[i]? with
  | some (some (.val d)) => some d
  | some (some (.own d)) => some d
  | _ => none
theorem eName_inv {i : Nat} {ρ : DEnv} {d : D} (h : eName i ρ = some d) : ρ[i]? = some (some (.val d)) := by
  unfold eName at h
  split at h
  · rename_i z; cases h; exact z
  · cases h
theorem pName_inv {i : Nat} {ρ : DEnv} {d : D} (h : pName i ρ = some d) : ρ[i]? = some (some (.val d)) ∨ ρ[i]? = some (some (.own d)) := by
  unfold pName at h
  split at h
  · rename_i z; cases h; exact .inl z
  · rename_i z; cases h; exact .inr z
  · cases h
theorem de_name (i : Nat) {x : Str} (hN : X.N[i]? = some x := by rfl) (hv : Vis X.env.scope x := by first | exact Or.inl rfl | exact Or.inr (Or.inl rfl) | exact Or.inr (Or.inr rfl)) (hd : (x == ("__debug__" : Str)) = false := by decide)
    (hcd : (x == ("__classdict__" : Str)) = false := by decide) : DE X (.Name x pos) (eName i) := PE.imp (pe_var hN hv hd hcd) fun σ H Q ⟨G0, H0, G, ρ, d, s, q, k⟩ => by
  obtain ⟨v, e, r⟩ := s.val i d (eName_inv q)
  exact ⟨v, e, k v G H (.refl s.sub) r⟩
theorem dp_name (i : Nat) {x : Str} (hN : X.N[i]? = some x := by rfl) (hv : Vis X.env.scope x := by first | exact Or.inl rfl | exact Or.inr (Or.inl rfl) | exact Or.inr (Or.inr rfl)) (hd : (x == ("__debug__" : Str)) = false := by decide)
    (hcd : (x == ("__classdict__" : Str)) = false := by decide) : DP X (.Name x pos) (pName i) := PE.imp (pe_var hN hv hd hcd) fun σ H Q ⟨G0, H0, G, ρ, d, s, q, k⟩ => by
  rcases pName_inv q with z | z
  · obtain ⟨v, e, r⟩ := s.val i d z
    exact ⟨v, e, k v G H (.refl s.sub) (.inl r)⟩
  · obtain ⟨p, e, h0, hg, r⟩ := s.own i d z
    exact ⟨_, e, k _ G H (.refl s.sub) (.inr ⟨p, rfl, r⟩)⟩
def eK (d : D) : FE := fun _ => some d
theorem de_const {v : V} {d : D} (h : PE X e (tC v)) (r : ∀ G, Rep X.K G d v) : DE X e (eK d) := PE.imp h fun σ H Q ⟨G0, H0, G, ρ, d', s, q, k⟩ => by
  cases q
  exact k v G H (.refl s.sub) (r G)
theorem de_int {i j} : DE X (.Constant (.int i) j pos) (eK (.int i)) := de_const pe_int fun _ => rep_int.mpr rfl
theorem de_bl {i j} : DE X (.Constant (.bool i) j pos) (eK (.bl i)) := de_const pe_bl fun _ => rep_bl.mpr rfl
theorem de_non {j} : DE X (.Constant .none j pos) (eK .non) := de_const pe_non fun _ => rep_non.mpr rfl
theorem de_str {x j} : DE X (.Constant (.str x) j pos) (eK (.str x)) := de_const pe_str fun _ => rep_str.mpr rfl
theorem de_globInt {x : Str} {i : Int} (hg : Gl X x) (hm : ∃ t, X.mg x = some (.int i t)) (hd : (x == ("__debug__" : Str)) = false := by decide) : DE X (.Name x pos) (eK (.int i)) := by
  obtain ⟨t, hm⟩ := hm
  exact de_const (pe_glob (v := .int i) hg hm ⟨t, rfl⟩ hd) fun _ => rep_int.mpr rfl
theorem de_globStr {x z : Str} (hg : Gl X x) (hm : ∃ t, X.mg x = some (.str z t)) (hd : (x == ("__debug__" : Str)) = false := by decide) : DE X (.Name x pos) (eK (.str z)) := by
  obtain ⟨t, hm⟩ := hm
  exact de_const (pe_glob (v := .str z) hg hm ⟨t, rfl⟩ hd) fun _ => rep_str.mpr rfl

/-! ### operators by what they do to data -/
def eBin (g : D → D → Option D) (fa fb : FE) : FE := fun ρ => (fa ρ).bind fun x => (fb ρ).bind fun y => g x y
def eUn (g : D → Option D) (fa : FE) : FE := fun ρ => (fa ρ).bind g
theorem bind_inv {α β : Type} {o : Option α} {k : α → Option β} {b : β} (h : o.bind k = some b) : ∃ a, o = some a ∧ k a = some b := by
  cases o with
  | none => cases h
  | some a => exact ⟨a, rfl, h⟩
/-- a rule by values does g -/
def R2D (K : PySem.W.Frag) (r : R2) (g : D → D → Option D) : Prop :=
  ∀ (G H : Hp) (x y d : D) (v u : V) (Q : VK), Same G H → PRep K G H x v → PRep K G H y u → g x y = some d → (∀ w G' H', Grow G H G' H' → Rep K G' d w → Q w H') → r v u H Q
theorem liftP_two {K : PySem.W.Frag} {fa fb : FE} {g : D → D → Option D} {r : R2} (hg : R2D K r g) {σ : L2.St} {H : Hp} {Q : VK} (h : liftE K (eBin g fa fb) σ H Q) : tOp r (liftP K fa) (liftP K fb) σ H Q := by
  obtain ⟨G0, H0, G, ρ, d, s, q, k⟩ := h
  obtain ⟨x, ex, q⟩ := bind_inv q
  obtain ⟨y, ey, q⟩ := bind_inv q
  refine ⟨G0, H0, G, ρ, x, s, ex, fun v G1 H1 g1 r1 => ⟨G0, H0, G1, ρ, y, s.grow g1, ey, fun u G2 H2 g2 r2 => ?_⟩⟩
  exact hg G2 H2 x y d v u Q g2.sub (r1.grow g2) r2 q fun w G' H' g3 r3 => k w G' H' ((g1.trans g2).trans g3) r3
theorem de_op {op : Operator} {r : R2} {g : D → D → Option D} (hg : R2D X.K r g) (ho : OpR X (binaryOp op) r) (ha : DP X a fa) (hb : DP X b fb) : DE X (.BinOp a op b pos) (eBin g fa fb) :=
  PE.imp (pe_op ho ha hb) fun σ H Q h => liftP_two hg h
theorem de_cmp {op : CmpOp} {r : R2} {g : D → D → Option D} (hg : R2D X.K r g) (ho : OpR X (compareOp op) r) (ha : DP X a fa) (hb : DP X b fb) (hm : behindInMarks op b = false) : DE X (.Compare a [op] [b] pos) (eBin g fa fb) :=
  PE.imp (pe_cmpR ho ha hb hm) fun σ H Q h => liftP_two hg h
def tBool (f : FE) : FT := fun ρ => match f ρ with
  | some (.bl b) => some b
  | _ => none
theorem tBool_inv {f : FE} {ρ : DEnv} {b : Bool} (h : tBool f ρ = some b) : f ρ = some (.bl b) := by
  unfold tBool at h
  split at h
  · rename_i z; cases h; exact z
  · cases h
theorem dt_cmp {op : CmpOp} {r : R2} {g : D → D → Option D} (hg : R2D X.K r g) (ho : OpR X (compareOp op) r) (ha : DP X a fa) (hb : DP X b fb) (hm : behindInMarks op b = false) : DT X (.Compare a [op] [b] pos) (tBool (eBin g fa fb)) :=
  PT.imp (pt_cmpR ho ha hb hm) fun σ H Q ⟨G0, H0, G, ρ, c, s, q, k⟩ => by
    have q' := tBool_inv q
    refine liftP_two (Q := fun x H' => ∃ k, x = .bl k ∧ Q k H') hg ⟨G0, H0, G, ρ, _, s, q', fun v G' H' g r => ?_⟩
    exact ⟨c, rep_bl.mp r, k G' H' g⟩
/-- an expression whose value is a bool, as a test -/
theorem dt_val (h : DP X e f) (he : ∀ whole, isTrue e X.env whole = (do let v ← whole; standAt e.pos; holding [v] (truthy v)) := by intro _; rfl) : DT X e (tBool f) :=
  PT.imp (pt_val h he) fun σ H Q ⟨G0, H0, G, ρ, c, s, q, k⟩ => ⟨G0, H0, G, ρ, _, s, tBool_inv q, fun v G' H' g r => ⟨c, by simpa using r, k G' H' g⟩⟩
theorem de_un {op : UnaryOp} {r : V → Hp → VK → Prop} {g : D → Option D} (hg : ∀ (G H : Hp) (x d : D) (v : V) (Q : VK), Same G H → PRep X.K G H x v → g x = some d → (∀ w G' H', Grow G H G' H' → Rep X.K G' d w → Q w H') → r v H Q)
    (ho : UnR X (unaryOp op) r) (ha : DP X a fa) : DE X (.UnaryOp op a pos) (eUn g fa) :=
  PE.imp (pe_un ho ha) fun σ H Q ⟨G0, H0, G, ρ, d, s, q, k⟩ => by
    obtain ⟨x, ex, q⟩ := bind_inv q
    exact ⟨G0, H0, G, ρ, x, s, ex, fun v G1 H1 g1 r1 => hg G1 H1 x d v Q g1.sub r1 q fun w G' H' g2 r2 => k w G' H' (g1.trans g2) r2⟩

/-! #### ints -/
def g2I (k : Int → Int → Option D) : D → D → Option D
  | .int i, .int j => k i j
  | _, _ => none
theorem g2I_inv {k : Int → Int → Option D} {x y d : D} (h : g2I k x y = some d) : ∃ i j, x = .int i ∧ y = .int j ∧ k i j = some d := by
  unfold g2I at h
  split at h
  · exact ⟨_, _, rfl, rfl, h⟩
  · cases h
theorem r2d_int0 {K : PySem.W.Frag} (p : Int → Int → Int) : R2D K (rI0 fun i j => .int (p i j)) (g2I fun i j => some (.int (p i j))) := fun G H x y d v u Q s r1 r2 q k => by
  obtain ⟨i, j, rfl, rfl, q⟩ := g2I_inv q
  cases q
  exact ⟨i, j, by simpa using r1, by simpa using r2, k _ G H (.refl s) (rep_int.mpr rfl)⟩
theorem r2d_bl0 {K : PySem.W.Frag} (p : Int → Int → Bool) : R2D K (rI0 fun i j => .bl (p i j)) (g2I fun i j => some (.bl (p i j))) := fun G H x y d v u Q s r1 r2 q k => by
  obtain ⟨i, j, rfl, rfl, q⟩ := g2I_inv q
  cases q
  exact ⟨i, j, by simpa using r1, by simpa using r2, k _ G H (.refl s) (rep_bl.mpr rfl)⟩
theorem r2d_int {K : PySem.W.Frag} (C : Int → Int → Prop) [∀ i j, Decidable (C i j)] (p : Int → Int → Int) : R2D K (rI C fun i j => .int (p i j)) (g2I fun i j => if C i j then some (.int (p i j)) else none) := fun G H x y d v u Q s r1 r2 q k => by
  obtain ⟨i, j, rfl, rfl, q2⟩ := g2I_inv q
  by_cases c : C i j
  · rw [if_pos c] at q2
    cases q2
    exact ⟨i, j, by simpa using r1, by simpa using r2, c, k _ G H (.refl s) (rep_int.mpr rfl)⟩
  · rw [if_neg c] at q2; cases q2
/-- by bits, so that nothing is counted down -/
def cmulB (i j : Int) : Bool := Nat.ble i.natAbs 18446744073709551615 || Nat.ble j.natAbs 18446744073709551615
def cdivB (j : Int) : Bool := match j with
  | .ofNat n => Nat.ble 1 n && Nat.ble n 1073741823
  | .negSucc _ => false
def cpowB (i j : Int) : Bool := (match j with
  | .ofNat n => Nat.ble n 1000000
  | .negSucc _ => false) && Nat.ble i.natAbs 18446744073709551615
theorem cmulB_iff {i j : Int} : cmulB i j = true ↔ CMul i j := by
  unfold cmulB CMul
  rw [Bool.or_eq_true, Nat.ble_eq, Nat.ble_eq]
  constructor
  · rintro (h | h)
    · exact .inl ⟨by omega, by omega⟩
    · exact .inr ⟨by omega, by omega⟩
  · rintro (h | h)
    · exact .inl (by omega)
    · exact .inr (by omega)
theorem cdivB_iff {i j : Int} : cdivB j = true ↔ CDiv i j := by
  unfold cdivB CDiv
  cases j with
  | ofNat n =>
    show (Nat.ble 1 n && Nat.ble n 1073741823) = true ↔ _
    rw [Bool.and_eq_true, Nat.ble_eq, Nat.ble_eq]
    have : Int.ofNat n = (n : Int) := rfl
    rw [this]
    omega
  | negSucc n =>
    show false = true ↔ _
    have := Int.negSucc_lt_zero n
    constructor
    · intro h; cases h
    · rintro ⟨h, _⟩; omega
theorem cpowB_iff {i j : Int} : cpowB i j = true ↔ CPow i j := by
  unfold cpowB CPow
  cases j with
  | ofNat n =>
    show (Nat.ble n 1000000 && _) = true ↔ _
    rw [Bool.and_eq_true, Nat.ble_eq, Nat.ble_eq]
    have : Int.ofNat n = (n : Int) := rfl
    rw [this]
    omega
  | negSucc n =>
    show (false && _) = true ↔ _
    have := Int.negSucc_lt_zero n
    constructor
    · intro h; simp at h
    · rintro ⟨h, _⟩; omega
instance : ∀ i j, Decidable (CMul i j) := fun i j => decidable_of_iff _ cmulB_iff
instance : ∀ i j, Decidable (CDiv i j) := fun i j => decidable_of_iff _ (cdivB_iff (i := i))
instance : ∀ i j, Decidable (CPow i j) := fun i j => decidable_of_iff _ cpowB_iff
def gMulI : D → D → Option D := g2I fun i j => if CMul i j then some (.int (i * j)) else none
def gDiv : D → D → Option D := g2I fun i j => if CDiv i j then some (.int (i / j)) else none
def gMod : D → D → Option D := g2I fun i j => if 0 < j then some (.int (i % j)) else none
def gPow : D → D → Option D := g2I fun i j => if CPow i j then some (.int (i ^ j.toNat)) else none
def gSub : D → D → Option D := g2I fun i j => some (.int (i - j))
def gLt : D → D → Option D := g2I fun i j => some (.bl (decide (i < j)))
def gLe : D → D → Option D := g2I fun i j => some (.bl (decide (i ≤ j)))
def gGt : D → D → Option D := g2I fun i j => some (.bl (decide (j < i)))
def gGe : D → D → Option D := g2I fun i j => some (.bl (decide (j ≤ i)))
theorem de_sub (ha : DP X a fa) (hb : DP X b fb) : DE X (.BinOp a .Sub b pos) (eBin gSub fa fb) := de_op (r2d_int0 _) op_sub ha hb
theorem de_fdiv (ha : DP X a fa) (hb : DP X b fb) : DE X (.BinOp a .FloorDiv b pos) (eBin gDiv fa fb) := de_op (r2d_int _ _) op_fdiv ha hb
theorem de_mod (ha : DP X a fa) (hb : DP X b fb) : DE X (.BinOp a .Mod b pos) (eBin gMod fa fb) := de_op (r2d_int (fun _ j => 0 < j) _) op_mod ha hb
theorem de_pow (ha : DP X a fa) (hb : DP X b fb) : DE X (.BinOp a .Pow b pos) (eBin gPow fa fb) := de_op (r2d_int _ _) op_pow ha hb
theorem de_lt (ha : DP X a fa) (hb : DP X b fb) : DE X (.Compare a [.Lt] [b] pos) (eBin gLt fa fb) := de_cmp (r2d_bl0 _) op_lt ha hb (nomark _)
theorem de_le (ha : DP X a fa) (hb : DP X b fb) : DE X (.Compare a [.LtE] [b] pos) (eBin gLe fa fb) := de_cmp (r2d_bl0 _) op_le ha hb (nomark _)
theorem de_gt (ha : DP X a fa) (hb : DP X b fb) : DE X (.Compare a [.Gt] [b] pos) (eBin gGt fa fb) := de_cmp (r2d_bl0 _) op_gt ha hb (nomark _)
theorem de_ge (ha : DP X a fa) (hb : DP X b fb) : DE X (.Compare a [.GtE] [b] pos) (eBin gGe fa fb) := de_cmp (r2d_bl0 _) op_ge ha hb (nomark _)
theorem dt_lt (ha : DP X a fa) (hb : DP X b fb) : DT X (.Compare a [.Lt] [b] pos) (tBool (eBin gLt fa fb)) := dt_cmp (r2d_bl0 _) op_lt ha hb (nomark _)
theorem dt_le (ha : DP X a fa) (hb : DP X b fb) : DT X (.Compare a [.LtE] [b] pos) (tBool (eBin gLe fa fb)) := dt_cmp (r2d_bl0 _) op_le ha hb (nomark _)
theorem dt_gt (ha : DP X a fa) (hb : DP X b fb) : DT X (.Compare a [.Gt] [b] pos) (tBool (eBin gGt fa fb)) := dt_cmp (r2d_bl0 _) op_gt ha hb (nomark _)
theorem dt_ge (ha : DP X a fa) (hb : DP X b fb) : DT X (.Compare a [.GtE] [b] pos) (tBool (eBin gGe fa fb)) := dt_cmp (r2d_bl0 _) op_ge ha hb (nomark _)
def gNeg : D → Option D
  | .int i => some (.int (-i))
  | _ => none
theorem de_neg (ha : DP X a fa) : DE X (.UnaryOp .USub a pos) (eUn gNeg fa) := de_un (fun G H x d v Q s r q k => by
  unfold gNeg at q
  split at q
  · cases q
    exact ⟨_, by simpa using r, k _ G H (.refl s) (rep_int.mpr rfl)⟩
  · cases q) un_neg ha

/-! #### None -/
def isNon : D → Bool
  | .non => true
  | _ => false
def gIsN : D → D → Option D
  | x, .non => some (.bl (isNon x))
  | _, _ => none
theorem prep_isnon {K : PySem.W.Frag} {G H : Hp} {x : D} {v : V} (r : PRep K G H x v) : (decide (v = .non)) = isNon x := by
  rcases r with r | ⟨p, e, r⟩
  · cases x with
    | non => simp at r; subst r; rfl
    | bl _ => simp at r; subst r; rfl
    | int _ => simp at r; subst r; rfl
    | str _ => simp at r; subst r; rfl
    | ty _ => simp at r; subst r; rfl
    | lst _ => obtain ⟨a, _, e, _⟩ := rep_lst.mp r; subst e; rfl
    | tup _ => obtain ⟨a, _, e, _⟩ := rep_tup.mp r; subst e; rfl
    | obj _ _ _ => obtain ⟨a, _, _, e, _⟩ := rep_obj.mp r; subst e; rfl
    | dic _ _ => obtain ⟨a, _, _, e, _⟩ := rep_dic.mp r; subst e; rfl
    | dik _ _ => obtain ⟨a, _, _, e, _⟩ := rep_dik.mp r; subst e; rfl
  · subst e
    cases x with
    | non => exact r.elim
    | _ => rfl
def gNotN : D → D → Option D
  | x, .non => some (.bl (!isNon x))
  | _, _ => none
theorem de_isN {j p2} (ha : DP X a fa) : DE X (.Compare a [.Is] [.Constant .none j p2] pos) (eBin gIsN fa (eK .non)) := de_cmp (fun G H x y d v u Q s r1 r2 q k => by
  cases y <;> first | cases q | skip
  refine ⟨by simpa using r2, ?_⟩
  rw [prep_isnon r1]
  exact k _ G H (.refl s) (rep_bl.mpr rfl)) op_isN ha de_non.p (nomark _)
theorem de_notN {j p2} (ha : DP X a fa) : DE X (.Compare a [.IsNot] [.Constant .none j p2] pos) (eBin gNotN fa (eK .non)) := de_cmp (fun G H x y d v u Q s r1 r2 q k => by
  cases y <;> first | cases q | skip
  refine ⟨by simpa using r2, ?_⟩
  rw [prep_isnon r1]
  exact k _ G H (.refl s) (rep_bl.mpr rfl)) op_notN ha de_non.p (nomark _)

/-! ### tests joined -/
variable {tA tB : FT} {rest : List Expr}
def tAnd (t u : FT) : FT := fun ρ => (t ρ).bind fun b => if b then u ρ else some false
def tOr (t u : FT) : FT := fun ρ => (t ρ).bind fun b => if b then some true else u ρ
def tNot (t : FT) : FT := fun ρ => (t ρ).map (!·)
theorem PW.imp {X : Cx} {e : Expr} {t t' : TT} (h : PW X e t) (q : ∀ σ H Q, t' σ H Q → t σ H Q) : PW X e t' := ⟨fun w pins s σ H Q I z => h.run w pins s σ H Q I (q σ H Q z)⟩
theorem DW.t (h : DW X e tA) : DT X e tA := L2.PW.pt h
theorem dw_and1 (ha : DT X a tA) : DW X (.BoolOp .And [a] pos) tA := pw_and1 ha
theorem dw_or1 (ha : DT X a tA) : DW X (.BoolOp .Or [a] pos) tA := pw_or1 ha
theorem dw_and (ha : DT X a tA) (hb : DW X (.BoolOp .And (b :: rest) pos) tB) : DW X (.BoolOp .And (a :: b :: rest) pos) (tAnd tA tB) :=
  PW.imp (pw_and ha hb) fun σ H Q ⟨G0, H0, G, ρ, c, s, q, k⟩ => by
    obtain ⟨x, ex, q⟩ := bind_inv q
    refine ⟨G0, H0, G, ρ, x, s, ex, fun G1 H1 g1 => ?_⟩
    cases x with
    | true => exact iteT ⟨G0, H0, G1, ρ, c, s.grow g1, q, fun G' H' g2 => k G' H' (g1.trans g2)⟩
    | false => cases q; exact iteF (k G1 H1 g1)
theorem dw_or (ha : DT X a tA) (hb : DW X (.BoolOp .Or (b :: rest) pos) tB) : DW X (.BoolOp .Or (a :: b :: rest) pos) (tOr tA tB) :=
  PW.imp (pw_or ha hb) fun σ H Q ⟨G0, H0, G, ρ, c, s, q, k⟩ => by
    obtain ⟨x, ex, q⟩ := bind_inv q
    refine ⟨G0, H0, G, ρ, x, s, ex, fun G1 H1 g1 => ?_⟩
    cases x with
    | false => exact iteF ⟨G0, H0, G1, ρ, c, s.grow g1, q, fun G' H' g2 => k G' H' (g1.trans g2)⟩
    | true => cases q; exact iteT (k G1 H1 g1)
theorem dt_not (ha : DT X a tA) : DT X (.UnaryOp .Not a pos) (tNot tA) :=
  PT.imp (pt_not ha) fun σ H Q ⟨G0, H0, G, ρ, c, s, q, k⟩ => by
    unfold tNot at q
    cases ex : tA ρ with
    | none => rw [ex] at q; cases q
    | some x =>
      rw [ex] at q; cases q
      exact ⟨G0, H0, G, ρ, x, s, ex, k⟩
/-- as values, all of them bools -/
def eOfT (t : FT) : FE := fun ρ => (t ρ).map D.bl
theorem de_one {op} (h : DE X a fa) : DE X (.BoolOp op [a] pos) fa := pe_one h
def eAnd (fa fb : FE) : FE := fun ρ => (tBool fa ρ).bind fun b => if b then fb ρ else some (.bl false)
def eOr (fa fb : FE) : FE := fun ρ => (tBool fa ρ).bind fun b => if b then some (.bl true) else fb ρ
def eNot (fa : FE) : FE := fun ρ => (tBool fa ρ).map fun b => .bl (!b)
theorem de_and (ha : DE X a fa) (hb : DE X (.BoolOp .And (b :: rest) pos) fb) : DE X (.BoolOp .And (a :: b :: rest) pos) (eAnd fa fb) :=
  PE.imp (pe_and ha hb) fun σ H Q ⟨G0, H0, G, ρ, d, s, q, k⟩ => by
    obtain ⟨x, ex, q⟩ := bind_inv q
    refine ⟨G0, H0, G, ρ, _, s, tBool_inv ex, fun v G1 H1 g1 r1 => ⟨x, rep_bl.mp r1, ?_⟩⟩
    cases x with
    | true => exact iteT ⟨G0, H0, G1, ρ, d, s.grow g1, q, fun v G' H' g2 => k v G' H' (g1.trans g2)⟩
    | false => cases q; exact iteF (k _ G1 H1 g1 (rep_bl.mpr rfl))
theorem de_or (ha : DE X a fa) (hb : DE X (.BoolOp .Or (b :: rest) pos) fb) : DE X (.BoolOp .Or (a :: b :: rest) pos) (eOr fa fb) :=
  PE.imp (pe_or ha hb) fun σ H Q ⟨G0, H0, G, ρ, d, s, q, k⟩ => by
    obtain ⟨x, ex, q⟩ := bind_inv q
    refine ⟨G0, H0, G, ρ, _, s, tBool_inv ex, fun v G1 H1 g1 r1 => ⟨x, rep_bl.mp r1, ?_⟩⟩
    cases x with
    | false => exact iteF ⟨G0, H0, G1, ρ, d, s.grow g1, q, fun v G' H' g2 => k v G' H' (g1.trans g2)⟩
    | true => cases q; exact iteT (k _ G1 H1 g1 (rep_bl.mpr rfl))
theorem de_not (ha : DE X a fa) : DE X (.UnaryOp .Not a pos) (eNot fa) :=
  PE.imp (pe_not ha) fun σ H Q ⟨G0, H0, G, ρ, d, s, q, k⟩ => by
    unfold eNot at q
    cases ex : tBool fa ρ with
    | none => rw [ex] at q; cases q
    | some x =>
      rw [ex] at q; cases q
      exact ⟨G0, H0, G, ρ, _, s, tBool_inv ex, fun v G1 H1 g1 r1 => ⟨x, rep_bl.mp r1, k _ G1 H1 g1 (rep_bl.mpr rfl)⟩⟩
def eIf (t : FT) (fa fb : FE) : FE := fun ρ => (t ρ).bind fun b => if b then fa ρ else fb ρ
theorem de_ifExp {c : Expr} (hc : DT X c tA) (ha : DE X a fa) (hb : DE X b fb) : DE X (.IfExp c a b pos) (eIf tA fa fb) :=
  PE.imp (pe_ifExp hc ha hb) fun σ H Q ⟨G0, H0, G, ρ, d, s, q, k⟩ => by
    obtain ⟨x, ex, q⟩ := bind_inv q
    refine ⟨G0, H0, G, ρ, x, s, ex, fun G1 H1 g1 => ?_⟩
    cases x with
    | true => exact iteT ⟨G0, H0, G1, ρ, d, s.grow g1, q, fun v G' H' g2 => k v G' H' (g1.trans g2)⟩
    | false => exact iteF ⟨G0, H0, G1, ρ, d, s.grow g1, q, fun v G' H' g2 => k v G' H' (g1.trans g2)⟩

/-! ### argument lists, displays -/
variable {es : List Expr} {fs : FA}
def aNil : FA := fun _ => some []
def aCons (f : FE) (fs : FA) : FA := fun ρ => (f ρ).bind fun d => (fs ρ).bind fun ds => some (d :: ds)
theorem da_nil : DAr X [] aNil := ⟨PA.imp pa_nil fun σ H Q ⟨G0, H0, G, ρ, d, s, q, k⟩ => by
  cases q; exact k [] G H (.refl s.sub) .nil, fun ρ ds h => by cases h; rfl⟩
theorem aCons_len {ρ : DEnv} {ds : List D} {n : Nat} (hl : ∀ ρ ds, fs ρ = some ds → ds.length = n) (h : aCons f fs ρ = some ds) : ds.length = n + 1 := by
  obtain ⟨x, ex, h⟩ := bind_inv h
  obtain ⟨y, ey, h⟩ := bind_inv h
  cases h
  simp [hl _ _ ey]
theorem da_cons (ha : DE X e f) (hr : DAr X es fs) (hs : starEach (e :: es) X.env = (false, eval e X.env) :: starEach es X.env := by rfl) : DAr X (e :: es) (aCons f fs) :=
  ⟨PA.imp (pa_cons ha hr.run hs) fun σ H Q ⟨G0, H0, G, ρ, d, s, q, k⟩ => by
    obtain ⟨x, ex, q⟩ := bind_inv q
    obtain ⟨y, ey, q⟩ := bind_inv q
    cases q
    exact ⟨G0, H0, G, ρ, x, s, ex, fun v G1 H1 g1 r1 => ⟨G0, H0, G1, ρ, y, s.grow g1, ey, fun vs G2 H2 g2 r2 => k _ G2 H2 (g1.trans g2) (.cons (r1.mono g2.g) r2)⟩⟩,
   fun ρ ds h => aCons_len hr.len h⟩
theorem dpa_nil : DPA X [] aNil := ⟨PA.imp pa_nil fun σ H Q ⟨G0, H0, G, ρ, d, s, q, k⟩ => by
  cases q; exact k [] G H (.refl s.sub) .nil, fun ρ ds h => by cases h; rfl⟩
theorem dpa_cons (ha : DP X e f) (hr : DPA X es fs) (hs : starEach (e :: es) X.env = (false, eval e X.env) :: starEach es X.env := by rfl) : DPA X (e :: es) (aCons f fs) :=
  ⟨PA.imp (pa_cons ha hr.run hs) fun σ H Q ⟨G0, H0, G, ρ, d, s, q, k⟩ => by
    obtain ⟨x, ex, q⟩ := bind_inv q
    obtain ⟨y, ey, q⟩ := bind_inv q
    cases q
    exact ⟨G0, H0, G, ρ, x, s, ex, fun v G1 H1 g1 r1 => ⟨G0, H0, G1, ρ, y, s.grow g1, ey, fun vs G2 H2 g2 r2 => k _ G2 H2 (g1.trans g2) (.cons (r1.grow g2) r2)⟩⟩,
   fun ρ ds h => aCons_len hr.len h⟩
def eTup (fs : FA) : FE := fun ρ => (fs ρ).map D.tup
def eLst (fs : FA) : FE := fun ρ => (fs ρ).map D.lst
theorem map_inv {α β : Type} {o : Option α} {k : α → β} {b : β} (h : o.map k = some b) : ∃ a, o = some a ∧ k a = b := by
  cases o with
  | none => cases h
  | some a => exact ⟨a, rfl, Option.some.inj h⟩
theorem short {n : Nat} (h : n ≤ 1000) : n ≤ sizeLine := Nat.le_of_lt (small1000 h)
theorem de_tup {x1} (h : DAr X es fs) (hl : es.length ≤ 1000 := by decide) : DE X (.Tuple es x1 pos) (eTup fs) :=
  PE.imp (pe_tup h.run) fun σ H Q ⟨G0, H0, G, ρ, d, s, q, k⟩ => by
    obtain ⟨ds, e1, rfl⟩ := map_inv q
    refine ⟨G0, H0, G, ρ, ds, s, e1, fun vs G1 H1 g1 r1 => ⟨short (by rw [r1.len, h.len _ _ e1]; exact hl), fun p np => ?_⟩⟩
    have gr : Grow G1 H1 _ _ := Grow.new (o := .tup vs) g1.sub np
    exact k _ _ _ (g1.trans gr) (rep_tup.mpr ⟨p, vs, rfl, upd_same, r1.mono gr.g⟩)
theorem df_lst (h : DAr X es fs) (hl : es.length ≤ 1000 := by decide) : DF X (.List es pos) (eLst fs) :=
  PE.imp (pe_lst h.run) fun σ H Q ⟨G0, H0, G, ρ, d, s, q, k⟩ => by
    obtain ⟨ds, e1, rfl⟩ := map_inv q
    refine ⟨G0, H0, G, ρ, ds, s, e1, fun vs G1 H1 g1 r1 => ⟨short (by rw [r1.len, h.len _ _ e1]; exact hl), fun p np => ?_⟩⟩
    have gr : Grow G1 H1 G1 _ := Grow.out (o := .lst vs) g1.sub np
    refine k p G1 _ (g1.trans gr) ?_ (g1.sub.free np) ⟨vs, upd_same, r1⟩
    exact g1.h.free np
end
end DL
namespace DL
open PySem PySem.Spec PyProof.Rows L2

/-! ### data compared -/
mutual
def plain : Nat → D → Bool
  | _, .non => true
  | _, .bl _ => true
  | _, .int _ => true
  | _, .str x => PyData.strOk x
  | n + 1, .lst ds => plainL n ds
  | n + 1, .tup ds => plainL n ds
  | _, _ => false
def plainL : Nat → List D → Bool
  | _, [] => true
  | n, d :: ds => plain n d && plainL n ds
end
theorem plain_nd {n : Nat} {d : D} (h : plain n d = true) : isDicD d = false := by
  cases d <;> first | rfl | (cases n <;> simp [plain] at h)
mutual
def toPy : D → PyData
  | .bl b => .bool b
  | .int i => .int i
  | .str x => .str x
  | .lst ds => .list (toPyL ds)
  | .tup ds => .tuple (toPyL ds)
  | _ => .none
def toPyL : List D → List PyData
  | [] => []
  | d :: ds => toPy d :: toPyL ds
end
def eqD (x y : D) : Bool := PyData.eqv (toPy x) (toPy y)
def eqDL (x y : List D) : Bool := PyData.eqvAll (toPyL x) (toPyL y)

theorem eqD_int {a b : Int} : eqD (.int a) (.int b) = (a == b) := by unfold eqD; simp [toPy, PyData.eqv]
theorem eqD_lst {a b : List D} : eqD (.lst a) (.lst b) = eqDL a b := by unfold eqD eqDL; simp [toPy, PyData.eqv]
theorem eqD_tup {a b : List D} : eqD (.tup a) (.tup b) = eqDL a b := by unfold eqD eqDL; simp [toPy, PyData.eqv]
theorem eqDL_nil : eqDL [] [] = true := by unfold eqDL; simp [toPyL, PyData.eqvAll]
theorem eqDL_nc {y : D} {ys : List D} : eqDL [] (y :: ys) = false := by unfold eqDL; simp [toPyL, PyData.eqvAll]
theorem eqDL_cn {y : D} {ys : List D} : eqDL (y :: ys) [] = false := by unfold eqDL; simp [toPyL, PyData.eqvAll]
theorem eqDL_cc {x y : D} {xs ys : List D} : eqDL (x :: xs) (y :: ys) = (eqD x y && eqDL xs ys) := by unfold eqDL eqD; simp [toPyL, PyData.eqvAll]
mutual
theorem plain_can : ∀ {n : Nat} {d : D}, plain n d = true → (toPy d).canLay0 = true ∧ (toPy d).depth ≤ n
  | n, .non, _ => by simp [toPy, PyData.canLay0, PyData.depth]
  | n, .bl _, _ => by simp [toPy, PyData.canLay0, PyData.depth]
  | n, .int _, _ => by simp [toPy, PyData.canLay0, PyData.depth]
  | n, .str x, h => by
    have h' : PyData.strOk x = true := by cases n <;> simpa [plain] using h
    simp [toPy, PyData.canLay0, PyData.depth, h']
  | n + 1, .lst ds, h => by
    have q := plainL_can (n := n) (ds := ds) (by simpa [plain] using h)
    simp [toPy, PyData.canLay0, PyData.depth, q.1]
    exact q.2
  | n + 1, .tup ds, h => by
    have q := plainL_can (n := n) (ds := ds) (by simpa [plain] using h)
    simp [toPy, PyData.canLay0, PyData.depth, q.1]
    exact q.2
  | 0, .lst ds, h => by simp [plain] at h
  | 0, .tup ds, h => by simp [plain] at h
  | n, .ty _, h => by cases n <;> simp [plain] at h
  | n, .obj _ _ _, h => by cases n <;> simp [plain] at h
  | n, .dic _ _, h => by cases n <;> simp [plain] at h
  | n, .dik _ _, h => by cases n <;> simp [plain] at h
theorem plainL_can : ∀ {n : Nat} {ds : List D}, plainL n ds = true → PyData.canLayAll0 (toPyL ds) = true ∧ PyData.depthAll (toPyL ds) ≤ n
  | n, [], _ => by simp [toPyL, PyData.canLayAll0, PyData.depthAll]
  | n, d :: ds, h => by
    have h' : plain n d = true ∧ plainL n ds = true := by simpa [plainL] using h
    have q1 := plain_can h'.1
    have q2 := plainL_can h'.2
    simp only [toPyL, PyData.canLayAll0, PyData.depthAll, q1.1, q2.1, Bool.and_self, true_and]
    omega
end
mutual
theorem rep_dp {K : PySem.W.Frag} {H : Hp} : ∀ {n : Nat} {d : D} {v : V}, plain n d = true → Rep K H d v → Dp K H v (toPy d)
  | n, .non, v, _, h => by simp at h; subst h; simpa [toPy] using Dp.non
  | n, .bl b, v, _, h => by simp at h; subst h; simpa [toPy] using Dp.bl b
  | n, .int i, v, _, h => by simp at h; subst h; simpa [toPy] using Dp.int i
  | n, .str x, v, _, h => by simp at h; subst h; simpa [toPy] using Dp.str x
  | n + 1, .lst ds, v, hp, h => by
    obtain ⟨a, vs, rfl, h2, h3⟩ := rep_lst.mp h
    simpa [toPy] using Dp.lst h2 (repL_dp (n := n) (by simpa [plain] using hp) h3)
  | n + 1, .tup ds, v, hp, h => by
    obtain ⟨a, vs, rfl, h2, h3⟩ := rep_tup.mp h
    simpa [toPy] using Dp.tup (SqT.of h2) (repL_dp (n := n) (by simpa [plain] using hp) h3)
  | 0, .lst ds, _, h, _ => by simp [plain] at h
  | 0, .tup ds, _, h, _ => by simp [plain] at h
  | n, .ty _, _, h, _ => by cases n <;> simp [plain] at h
  | n, .obj _ _ _, _, h, _ => by cases n <;> simp [plain] at h
  | n, .dic _ _, _, h, _ => by cases n <;> simp [plain] at h
  | n, .dik _ _, _, h, _ => by cases n <;> simp [plain] at h
theorem repL_dp {K : PySem.W.Frag} {H : Hp} : ∀ {n : Nat} {ds : List D} {vs : List V}, plainL n ds = true → RepL K H ds vs → DpAll K H vs (toPyL ds)
  | n, [], vs, _, h => by rw [h.nil_inv]; simpa [toPyL] using DpAll.nil
  | n, d :: ds, vs, hp, h => by
    obtain ⟨v, r, rfl, h2, h3⟩ := h.cons_inv
    have h' : plain n d = true ∧ plainL n ds = true := by simpa [plainL] using hp
    simpa [toPyL] using DpAll.cons (rep_dp h'.1 h2) (repL_dp h'.2 h3)
end

section
variable {X : Cx} {pins : List (Addr × Obj)} {σ : L2.St} {H : Hp} {s : Shared}
theorem eqAtD (I : Inv X pins σ H s) {n : Nat} {x y : D} {v u : V} {a b : Value} {A : Around} (p1 : plain n x = true) (p2 : plain n y = true) (r1 : Rep X.K H x v) (r2 : Rep X.K H y u) (q1 : RelV v a) (q2 : RelV u b) (hu : A.units + n < cLine) :
    SeqAt.EqAt A s a b (eqD x y) := by
  obtain ⟨as, h1⟩ := Dp.reads I _ v a (rep_dp p1 r1) q1
  obtain ⟨bs, h2⟩ := Dp.reads I _ u b (rep_dp p2 r2) q2
  have c1 := plain_can p1
  have c2 := plain_can p2
  exact SeqAt.eqAt_reads _ _ A s a b as bs h1 h2 c1.1 c2.1 (by omega)
end

/-! ### data ordered -/
inductive Or4 where | lt | le | gt | ge
  deriving DecidableEq
def Or4.op : Or4 → CmpOp
  | .lt => .Lt | .le => .LtE | .gt => .Gt | .ge => .GtE
def Or4.rel : Or4 → Int → Int → Bool
  | .lt, i, j => decide (i < j) | .le, i, j => decide (i ≤ j) | .gt, i, j => decide (j < i) | .ge, i, j => decide (j ≤ i)
mutual
def ordD : Or4 → D → D → Option Bool
  | o, .int a, .int b => some (o.rel a b)
  | o, .tup xs, .tup ys => ordL o xs ys
  | .lt, .lst xs, .lst ys => ordL .lt xs ys
  | _, _, _ => none
def ordL : Or4 → List D → List D → Option Bool
  | o, [], [] => some (o.rel 0 0)
  | o, [], _ :: _ => some (o.rel 0 1)
  | o, _ :: _, [] => some (o.rel 1 0)
  | o, x :: xs, y :: ys => (ordL o xs ys).bind fun t => if eqD x y then some t else ordD o x y
end
theorem rel_succ {o : Or4} {n m : Nat} : o.rel ((n + 1 : Nat) : Int) ((m + 1 : Nat) : Int) = o.rel (n : Int) (m : Int) := by
  cases o <;> simp [Or4.rel]
theorem lexAt_ordL {o : Or4} : ∀ {xs ys : List D} {k : Bool} (e r : Nat → Bool) (i : Nat) (z : Bool), z = o.rel (xs.length : Nat) (ys.length : Nat) → ordL o xs ys = some k →
    (∀ j (h1 : j < xs.length) (h2 : j < ys.length), e (i + j) = eqD xs[j] ys[j]) → (∀ j (h1 : j < xs.length) (h2 : j < ys.length) k', eqD xs[j] ys[j] = false → ordD o xs[j] ys[j] = some k' → r (i + j) = k') →
    Ob.lexAt e r z i (min xs.length ys.length) = k
  | [], [], k, e, r, i, z, hz, h, _, _ => by
    simp [ordL] at h
    simp only [List.length_nil, Nat.min_self, Ob.lexAt]
    rw [hz, ← h]; rfl
  | [], y :: ys, k, e, r, i, z, hz, h, _, _ => by
    simp [ordL] at h
    simp only [List.length_nil, Nat.zero_min, Ob.lexAt]
    rw [hz, ← h]
    cases o <;> simp [Or4.rel] <;> omega
  | x :: xs, [], k, e, r, i, z, hz, h, _, _ => by
    simp [ordL] at h
    simp only [List.length_nil, Nat.min_zero, Ob.lexAt]
    rw [hz, ← h]
    cases o <;> simp [Or4.rel] <;> omega
  | x :: xs, y :: ys, k, e, r, i, z, hz, h, he, hr => by
    have e0 : e i = eqD x y := he 0 (by simp) (by simp)
    have hm : min (x :: xs).length (y :: ys).length = min xs.length ys.length + 1 := by simp only [List.length_cons]; omega
    rw [hm, Ob.lexAt_succ, e0]
    have hz' : z = o.rel (xs.length : Nat) (ys.length : Nat) := by rw [hz]; exact rel_succ
    have h : (ordL o xs ys).bind (fun t => if eqD x y then some t else ordD o x y) = some k := by simpa [ordL] using h
    obtain ⟨t, ht, h⟩ := bind_inv h
    cases q : eqD x y with
    | true =>
      rw [if_pos rfl]
      refine lexAt_ordL e r (i + 1) z hz' (by rw [ht]; simpa [q] using h) (fun j h1 h2 => ?_) (fun j h1 h2 k' z1 z2 => ?_)
      · have := he (j + 1) (by simpa using h1) (by simpa using h2)
        simpa [Nat.add_assoc, Nat.add_comm 1 j] using this
      · have := hr (j + 1) (by simpa using h1) (by simpa using h2) k' (by simpa using z1) (by simpa using z2)
        simpa [Nat.add_assoc, Nat.add_comm 1 j] using this
    | false =>
      rw [if_neg Bool.false_ne_true]
      exact hr 0 (by simp) (by simp) k q (by simpa [q] using h)
theorem firstLt_lexAt {e r : Nat → Bool} {z : Bool} : ∀ (k i : Nat), SeqAt.firstLt e r z (List.range' i k) = Ob.lexAt e r z i k
  | 0, i => rfl
  | k + 1, i => by
    rw [List.range'_succ, SeqAt.firstLt, Ob.lexAt_succ, firstLt_lexAt k (i + 1)]
section
variable {X : Cx} {pins : List (Addr × Obj)} {σ : L2.St} {H : Hp} {s : Shared}
theorem plainL_get : ∀ {n : Nat} {ds : List D} {j : Nat} {d : D}, plainL n ds = true → ds[j]? = some d → plain n d = true
  | n, [], j, d, _, e => by simp at e
  | n, x :: ds, 0, d, h, e => by
    simp at e; subst e
    have h' : plain n x = true ∧ plainL n ds = true := by simpa [plainL] using h
    exact h'.1
  | n, x :: ds, j + 1, d, h, e => by
    have h' : plain n x = true ∧ plainL n ds = true := by simpa [plainL] using h
    exact plainL_get h'.2 (by simpa using e)
theorem ordD_ok (I : Inv X pins σ H s) : ∀ (n : Nat) (o : Or4) (x y : D) (v u : V) (a b : Value) (A : Around) (k : Bool), plain n x = true → plain n y = true → Rep X.K H x v → Rep X.K H y u → RelV v a → RelV u b → A.units + n + n < cLine → ordD o x y = some k → Ob.RcOp o.op A s a b k := by
  intro n
  induction n with
  | zero =>
    intro o x y v u a b A k p1 p2 r1 r2 q1 q2 hu ho
    cases x <;> cases y <;> first | (simp [plain] at p1; done) | (simp [plain] at p2; done) | (cases o <;> simp [ordD] at ho; done) | skip
    rename_i i j
    simp [ordD] at ho
    simp at r1 r2
    subst r1 r2
    obtain ⟨t, rfl⟩ := q1
    obtain ⟨t', rfl⟩ := q2
    subst ho
    cases o
    · exact Ob.RcOp.lt_int _ _ _ _
    · exact Ob.RcOp.le_int _ _ _ _
    · exact Ob.RcOp.gt_int _ _ _ _
    · exact Ob.RcOp.ge_int _ _ _ _
  | succ n ih =>
    intro o x y v u a b A k p1 p2 r1 r2 q1 q2 hu ho
    have hin : A.in1.units = A.units + 1 := rfl
    -- the items of two sequences, place by place
    have each : ∀ {xs ys : List D} {vs us : List V} {as bs : List Value}, plainL n xs = true → plainL n ys = true → RepL X.K H xs vs → RepL X.K H ys us → Vals vs as → Vals us bs →
        (∀ j (h1 : j < as.toArray.size) (h2 : j < bs.toArray.size), SeqAt.EqAt A.in1 s as.toArray[j] bs.toArray[j] (eqD (xs.getD j .non) (ys.getD j .non))) ∧
        (∀ j (h1 : j < as.toArray.size) (h2 : j < bs.toArray.size) k', ordD o (xs.getD j .non) (ys.getD j .non) = some k' → Ob.RcOp o.op A.in1 s as.toArray[j] bs.toArray[j] k') := by
      intro xs ys vs us as bs c1 c2 d1 d2 e1 e2
      have item : ∀ {xs : List D} {vs : List V} {as : List Value}, plainL n xs = true → RepL X.K H xs vs → Vals vs as → ∀ j (h1 : j < as.toArray.size), ∃ v, plain n (xs.getD j .non) = true ∧ Rep X.K H (xs.getD j .non) v ∧ RelV v as.toArray[j] := by
        intro xs vs as c d e j h1
        have l1 : j < as.length := by simpa using h1
        have l2 : j < vs.length := by rw [e.length]; exact l1
        have l3 : j < xs.length := by rw [← d.len]; exact l2
        have g : xs[j]? = some (xs.getD j .non) := by simp [l3]
        obtain ⟨v, z1, z2⟩ := d.get g
        obtain ⟨w, y1, y2⟩ := e.get z1
        refine ⟨v, plainL_get c g, z2, ?_⟩
        have : as.toArray[j] = w := by
          have q : as[j]? = some w := y1
          rw [List.getElem?_eq_getElem l1] at q
          simpa using q
        rw [this]; exact y2
      refine ⟨fun j h1 h2 => ?_, fun j h1 h2 k' hk => ?_⟩
      · obtain ⟨v1, a1, a2, a3⟩ := item c1 d1 e1 j h1
        obtain ⟨v2, b1, b2, b3⟩ := item c2 d2 e2 j h2
        exact eqAtD I a1 b1 a2 b2 a3 b3 (by rw [hin]; omega)
      · obtain ⟨v1, a1, a2, a3⟩ := item c1 d1 e1 j h1
        obtain ⟨v2, b1, b2, b3⟩ := item c2 d2 e2 j h2
        exact ih o _ _ v1 v2 _ _ A.in1 k' a1 b1 a2 b2 a3 b3 (by rw [hin]; omega) hk
    have fin : ∀ {xs ys : List D} {vs us : List V} {as bs : List Value}, RepL X.K H xs vs → RepL X.K H ys us → Vals vs as → Vals us bs → ordL o xs ys = some k → ∀ z, z = o.rel (as.toArray.size : Nat) (bs.toArray.size : Nat) →
        Ob.lexAt (fun j => eqD (xs.getD j .non) (ys.getD j .non)) (fun j => (ordD o (xs.getD j .non) (ys.getD j .non)).getD false) z 0 (min as.toArray.size bs.toArray.size) = k := by
      intro xs ys vs us as bs d1 d2 e1 e2 hk z hz
      have l1 : as.toArray.size = xs.length := by simp [← e1.length, d1.len]
      have l2 : bs.toArray.size = ys.length := by simp [← e2.length, d2.len]
      rw [l1, l2]
      refine lexAt_ordL _ _ 0 z (by rw [hz, l1, l2]) hk (fun j h1 h2 => ?_) (fun j h1 h2 k' z1 z2 => ?_)
      · simp [h1, h2]
      · simp [h1, h2, z2]
    have full : ∀ {xs ys : List D} {o : Or4} {k : Bool}, ordL o xs ys = some k → ∀ j (h1 : j < xs.length) (h2 : j < ys.length), eqD (xs.getD j .non) (ys.getD j .non) = false → ∃ k', ordD o (xs.getD j .non) (ys.getD j .non) = some k' := by
      intro xs
      induction xs with
      | nil => intro ys o k _ j h1; simp at h1
      | cons x xs ihx =>
        intro ys o k hk j h1 h2 hn
        cases ys with
        | nil => simp at h2
        | cons y ys =>
          have hk : (ordL o xs ys).bind (fun t => if eqD x y then some t else ordD o x y) = some k := by simpa [ordL] using hk
          obtain ⟨t, ht, hk⟩ := bind_inv hk
          cases j with
          | zero =>
            have hn' : eqD x y = false := by simpa using hn
            exact ⟨k, by simpa [hn'] using hk⟩
          | succ j =>
            obtain ⟨k', z⟩ := ihx ht j (by simpa using h1) (by simpa using h2) (by simpa using hn)
            exact ⟨k', by simpa using z⟩
    have both : ∀ {xs ys : List D} {vs us : List V} {as bs : List Value}, plainL n xs = true → plainL n ys = true → RepL X.K H xs vs → RepL X.K H ys us → Vals vs as → Vals us bs → ordL o xs ys = some k →
        (∀ j (h1 : j < as.toArray.size) (h2 : j < bs.toArray.size), (fun j => eqD (xs.getD j .non) (ys.getD j .non)) j = false → Ob.RcOp o.op A.in1 s as.toArray[j] bs.toArray[j] ((fun j => (ordD o (xs.getD j .non) (ys.getD j .non)).getD false) j)) := by
      intro xs ys vs us as bs c1 c2 d1 d2 e1 e2 hk j h1 h2 hn
      have l1 : as.toArray.size = xs.length := by simp [← e1.length, d1.len]
      have l2 : bs.toArray.size = ys.length := by simp [← e2.length, d2.len]
      obtain ⟨k', z⟩ := full hk j (by omega) (by omega) hn
      have := (each c1 c2 d1 d2 e1 e2).2 j h1 h2 k' z
      show Ob.RcOp o.op A.in1 s _ _ ((ordD o (xs.getD j .non) (ys.getD j .non)).getD false)
      rw [z]; exact this
    cases x <;> cases y <;> first | (simp [plain] at p1; done) | (simp [plain] at p2; done) | (cases o <;> simp [ordD] at ho; done) | skip
    · rename_i i j
      simp [ordD] at ho
      simp at r1 r2
      subst r1 r2
      obtain ⟨t, rfl⟩ := q1
      obtain ⟨t', rfl⟩ := q2
      subst ho
      cases o
      · exact Ob.RcOp.lt_int _ _ _ _
      · exact Ob.RcOp.le_int _ _ _ _
      · exact Ob.RcOp.gt_int _ _ _ _
      · exact Ob.RcOp.ge_int _ _ _ _
    · rename_i xs ys
      cases o with
      | lt =>
        obtain ⟨p, vs, rfl, hs1, hr1⟩ := rep_lst.mp r1
        obtain ⟨q, us, rfl, hs2, hr2⟩ := rep_lst.mp r2
        cases q1
        cases q2
        obtain ⟨as, e1, hl1, _⟩ := I.list hs1
        obtain ⟨bs, e2, hl2, _⟩ := I.list hs2
        have c1 : plainL n xs = true := by simpa [plain] using p1
        have c2 : plainL n ys = true := by simpa [plain] using p2
        have hk : ordL .lt xs ys = some k := by simpa [ordD] using ho
        have R := SeqAt.RcLt.lists (A := A) (s := s) hl1.isList hl2.isList (by omega) (each c1 c2 hr1 hr2 e1 e2).1 (both c1 c2 hr1 hr2 e1 e2 hk)
        rw [List.range_eq_range', firstLt_lexAt, fin hr1 hr2 e1 e2 hk _ (by simp [Or4.rel])] at R
        exact R
      | _ => simp [ordD] at ho
    · rename_i xs ys
      obtain ⟨p, vs, rfl, hs1, hr1⟩ := rep_tup.mp r1
      obtain ⟨q, us, rfl, hs2, hr2⟩ := rep_tup.mp r2
      cases q1
      cases q2
      obtain ⟨as, e1, hl1, _⟩ := I.tuple (SqT.of hs1)
      obtain ⟨bs, e2, hl2, _⟩ := I.tuple (SqT.of hs2)
      have c1 : plainL n xs = true := by simpa [plain] using p1
      have c2 : plainL n ys = true := by simpa [plain] using p2
      have hk : ordL o xs ys = some k := by simpa [ordD] using ho
      have E := (each c1 c2 hr1 hr2 e1 e2).1
      have B := both c1 c2 hr1 hr2 e1 e2 hk
      have F := fin hr1 hr2 e1 e2 hk
      have hu' : A.units < cLine := by omega
      cases o with
      | lt => have R := Ob.RcOp.tuples_lt (A := A) (s := s) hl1 hl2 hu' E B; rw [F _ (by simp [Or4.rel])] at R; exact R
      | le => have R := Ob.RcOp.tuples_le (A := A) (s := s) hl1 hl2 hu' E B; rw [F _ (by simp [Or4.rel])] at R; exact R
      | gt => have R := Ob.RcOp.tuples_gt (A := A) (s := s) hl1 hl2 hu' E B; rw [F _ (by simp [Or4.rel])] at R; exact R
      | ge => have R := Ob.RcOp.tuples_ge (A := A) (s := s) hl1 hl2 hu' E B; rw [F _ (by simp [Or4.rel])] at R; exact R
end
end DL
namespace DL
open PySem PySem.Spec PyProof.Rows L2

section
variable {X : Cx} {e a b : Expr} {f fa fb : FE} {pos : Pos} {es : List Expr} {fs : FA}

/-! ### == != and the orders of data -/
def gEq (x y : D) : Option D := if plain 20 x && plain 20 y then some (.bl (eqD x y)) else none
def gNe (x y : D) : Option D := if plain 20 x && plain 20 y then some (.bl (!eqD x y)) else none
def gOrd (o : Or4) (x y : D) : Option D := if plain 20 x && plain 20 y then (ordD o x y).map .bl else none
theorem shaped_of {n : Nat} {d : D} (h : plain n d = true) (hn : n ≤ 64) : SeqAt.shaped (toPy d) = true := by
  have q := plain_can h
  unfold SeqAt.shaped
  rw [q.1, Bool.true_and]
  exact decide_eq_true (Nat.le_trans q.2 hn)
theorem r2d_eq {K : PySem.W.Frag} : R2D K (rEqD K) gEq := fun G H x y d v u Q s r1 r2 q k => by
  unfold gEq at q
  split at q
  · rename_i c
    obtain ⟨c1, c2⟩ := Bool.and_eq_true_iff.mp c
    cases q
    exact ⟨_, _, rep_dp c1 (r1.rep s (plain_nd c1)), rep_dp c2 (r2.rep s (plain_nd c2)), shaped_of c1 (by decide), shaped_of c2 (by decide), k _ G H (.refl s) (rep_bl.mpr rfl)⟩
  · cases q
theorem r2d_ne {K : PySem.W.Frag} : R2D K (rNeD K) gNe := fun G H x y d v u Q s r1 r2 q k => by
  unfold gNe at q
  split at q
  · rename_i c
    obtain ⟨c1, c2⟩ := Bool.and_eq_true_iff.mp c
    cases q
    exact ⟨_, _, rep_dp c1 (r1.rep s (plain_nd c1)), rep_dp c2 (r2.rep s (plain_nd c2)), shaped_of c1 (by decide), shaped_of c2 (by decide), k _ G H (.refl s) (rep_bl.mpr rfl)⟩
  · cases q
def rOrd (K : PySem.W.Frag) (o : Or4) : R2 := fun v u H Q => ∃ x y k, plain 20 x = true ∧ plain 20 y = true ∧ Rep K H x v ∧ Rep K H y u ∧ ordD o x y = some k ∧ Q (.bl k) H
theorem op_ord {k : Nat} (hr : Room k X.A) (o : Or4) : OpR X (compareOp o.op) (rOrd X.K o) := by
  intro pins s σ H v u a b Q I r1 r2 h
  obtain ⟨x, y, k, p1, p2, h1, h2, ho, q⟩ := h
  have hu := hr.units
  have R := ordD_ok I 20 o x y v u a b X.A k p1 p2 h1 h2 r1 r2 (by omega) ho X.prog X.w X.xe (EP X pins σ Q) ⟨.bl k, H, I, rfl, q⟩
  cases o <;> exact R
theorem r2d_ord {K : PySem.W.Frag} (o : Or4) : R2D K (rOrd K o) (gOrd o) := fun G H x y d v u Q s r1 r2 q k => by
  unfold gOrd at q
  split at q
  · rename_i c
    obtain ⟨c1, c2⟩ := Bool.and_eq_true_iff.mp c
    obtain ⟨t, e1, e2⟩ := map_inv q
    subst e2
    exact ⟨x, y, t, c1, c2, r1.rep s (plain_nd c1), r2.rep s (plain_nd c2), e1, k _ G H (.refl s) (rep_bl.mpr rfl)⟩
  · cases q
theorem de_eq {k : Nat} (hr : Room k X.A) (ha : DP X a fa) (hb : DP X b fb) : DE X (.Compare a [.Eq] [b] pos) (eBin gEq fa fb) := de_cmp r2d_eq (op_eqD hr.units) ha hb (nomark _)
theorem de_ne {k : Nat} (hr : Room k X.A) (ha : DP X a fa) (hb : DP X b fb) : DE X (.Compare a [.NotEq] [b] pos) (eBin gNe fa fb) := de_cmp r2d_ne (op_neD hr.units) ha hb (nomark _)
theorem dt_eq {k : Nat} (hr : Room k X.A) (ha : DP X a fa) (hb : DP X b fb) : DT X (.Compare a [.Eq] [b] pos) (tBool (eBin gEq fa fb)) := dt_cmp r2d_eq (op_eqD hr.units) ha hb (nomark _)
theorem dt_ne {k : Nat} (hr : Room k X.A) (ha : DP X a fa) (hb : DP X b fb) : DT X (.Compare a [.NotEq] [b] pos) (tBool (eBin gNe fa fb)) := dt_cmp r2d_ne (op_neD hr.units) ha hb (nomark _)
/-- the orders, of whole numbers or of data -/
theorem de_ord {k : Nat} (hr : Room k X.A) (o : Or4) (ha : DP X a fa) (hb : DP X b fb) (h : behindInMarks o.op b = false) : DE X (.Compare a [o.op] [b] pos) (eBin (gOrd o) fa fb) := de_cmp (r2d_ord o) (op_ord hr o) ha hb h
theorem dt_ord {k : Nat} (hr : Room k X.A) (o : Or4) (ha : DP X a fa) (hb : DP X b fb) (h : behindInMarks o.op b = false) : DT X (.Compare a [o.op] [b] pos) (tBool (eBin (gOrd o) fa fb)) := dt_cmp (r2d_ord o) (op_ord hr o) ha hb h
theorem de_oLt {k : Nat} (hr : Room k X.A) (ha : DP X a fa) (hb : DP X b fb) : DE X (.Compare a [.Lt] [b] pos) (eBin (gOrd .lt) fa fb) := de_ord hr .lt ha hb (nomark _)
theorem de_oLe {k : Nat} (hr : Room k X.A) (ha : DP X a fa) (hb : DP X b fb) : DE X (.Compare a [.LtE] [b] pos) (eBin (gOrd .le) fa fb) := de_ord hr .le ha hb (nomark _)
theorem de_oGt {k : Nat} (hr : Room k X.A) (ha : DP X a fa) (hb : DP X b fb) : DE X (.Compare a [.Gt] [b] pos) (eBin (gOrd .gt) fa fb) := de_ord hr .gt ha hb (nomark _)
theorem de_oGe {k : Nat} (hr : Room k X.A) (ha : DP X a fa) (hb : DP X b fb) : DE X (.Compare a [.GtE] [b] pos) (eBin (gOrd .ge) fa fb) := de_ord hr .ge ha hb (nomark _)
theorem dt_oLt {k : Nat} (hr : Room k X.A) (ha : DP X a fa) (hb : DP X b fb) : DT X (.Compare a [.Lt] [b] pos) (tBool (eBin (gOrd .lt) fa fb)) := dt_ord hr .lt ha hb (nomark _)
theorem dt_oLe {k : Nat} (hr : Room k X.A) (ha : DP X a fa) (hb : DP X b fb) : DT X (.Compare a [.LtE] [b] pos) (tBool (eBin (gOrd .le) fa fb)) := dt_ord hr .le ha hb (nomark _)
theorem dt_oGt {k : Nat} (hr : Room k X.A) (ha : DP X a fa) (hb : DP X b fb) : DT X (.Compare a [.Gt] [b] pos) (tBool (eBin (gOrd .gt) fa fb)) := dt_ord hr .gt ha hb (nomark _)
theorem dt_oGe {k : Nat} (hr : Room k X.A) (ha : DP X a fa) (hb : DP X b fb) : DT X (.Compare a [.GtE] [b] pos) (tBool (eBin (gOrd .ge) fa fb)) := dt_ord hr .ge ha hb (nomark _)
@[simp] theorem gEq_int {i j : Int} : gEq (.int i) (.int j) = some (.bl (i == j)) := by unfold gEq; simp [plain, eqD_int]
@[simp] theorem gNe_int {i j : Int} : gNe (.int i) (.int j) = some (.bl (!(i == j))) := by unfold gNe; simp [plain, eqD_int]
@[simp] theorem gOrd_lt {i j : Int} : gOrd .lt (.int i) (.int j) = some (.bl (decide (i < j))) := by unfold gOrd; simp [plain, ordD, Or4.rel]
@[simp] theorem gOrd_le {i j : Int} : gOrd .le (.int i) (.int j) = some (.bl (decide (i ≤ j))) := by unfold gOrd; simp [plain, ordD, Or4.rel]
@[simp] theorem gOrd_gt {i j : Int} : gOrd .gt (.int i) (.int j) = some (.bl (decide (j < i))) := by unfold gOrd; simp [plain, ordD, Or4.rel]
@[simp] theorem gOrd_ge {i j : Int} : gOrd .ge (.int i) (.int j) = some (.bl (decide (j ≤ i))) := by unfold gOrd; simp [plain, ordD, Or4.rel]

/-! ### a op b op' c -/
def eChain (g g' : D → D → Option D) (fa fb fc : FE) : FE := fun ρ => (fa ρ).bind fun x => (fb ρ).bind fun y => (g x y).bind fun z => match z with
  | .bl true => (fc ρ).bind fun w => g' y w
  | .bl false => some (.bl false)
  | _ => none
theorem liftChain {K : PySem.W.Frag} {fc : FE} {g g' : D → D → Option D} {r r' : R2} (hg : R2D K r g) (hg' : R2D K r' g') {σ : L2.St} {H : Hp} {Q : VK} (h : liftE K (eChain g g' fa fb fc) σ H Q) : tChain r r' (liftP K fa) (liftP K fb) (liftP K fc) σ H Q := by
  obtain ⟨G0, H0, G, ρ, d, s, q, k⟩ := h
  obtain ⟨x, ex, q⟩ := bind_inv q
  obtain ⟨y, ey, q⟩ := bind_inv q
  obtain ⟨z, ez, q⟩ := bind_inv q
  refine ⟨G0, H0, G, ρ, x, s, ex, fun v G1 H1 g1 r1 => ⟨G0, H0, G1, ρ, y, s.grow g1, ey, fun u G2 H2 g2 r2 => ?_⟩⟩
  refine hg G2 H2 x y z v u _ g2.sub (r1.grow g2) r2 ez fun t G3 H3 g3 r3 => ?_
  have s3 : DSt K G0 H0 G3 H3 σ ρ := s.grow ((g1.trans g2).trans g3)
  cases z <;> first | cases q | skip
  rename_i c
  refine ⟨c, rep_bl.mp r3, ?_⟩
  cases c with
  | false =>
    cases q
    exact iteF (k _ G3 H3 ((g1.trans g2).trans g3) (rep_bl.mpr rfl))
  | true =>
    obtain ⟨w, ew, q⟩ := bind_inv q
    refine iteT ⟨G0, H0, G3, ρ, w, s3, ew, fun t' G4 H4 g4 r4 => ?_⟩
    exact hg' G4 H4 y w d u t' Q g4.sub ((r2.grow g3).grow g4) r4 q fun t5 G5 H5 g5 r5 => k t5 G5 H5 (((g1.trans g2).trans g3).trans (g4.trans g5)) r5
theorem de_chain {c : Expr} {fc : FE} {op op' : CmpOp} {g g' : D → D → Option D} {r r' : R2} (hg : R2D X.K r g) (hg' : R2D X.K r' g') (ho : OpR X (compareOp op) r) (ho' : OpR X (compareOp op') r') (ha : DP X a fa) (hb : DP X b fb) (hc : DP X c fc)
    (hm : lastMarks [op, op'] [b, c] = false := by with_unfolding_all rfl) : DE X (.Compare a [op, op'] [b, c] pos) (eChain g g' fa fb fc) :=
  PE.imp (pe_chain ho ho' ha hb hc hm) fun σ H Q h => liftChain hg hg' h
theorem dt_chain {c : Expr} {fc : FE} {op op' : CmpOp} {g g' : D → D → Option D} {r r' : R2} (hg : R2D X.K r g) (hg' : R2D X.K r' g') (ho : OpR X (compareOp op) r) (ho' : OpR X (compareOp op') r') (ha : DP X a fa) (hb : DP X b fb) (hc : DP X c fc)
    (hm : lastMarks [op, op'] [b, c] = false := by with_unfolding_all rfl) : DT X (.Compare a [op, op'] [b, c] pos) (tBool (eChain g g' fa fb fc)) :=
  PT.imp (pt_chain ho ho' ha hb hc hm) fun σ H Q ⟨G0, H0, G, ρ, c, s, q, k⟩ =>
    liftChain (Q := fun x H' => ∃ k, x = .bl k ∧ Q k H') hg hg' ⟨G0, H0, G, ρ, _, s, tBool_inv q, fun v G' H' g r => ⟨c, rep_bl.mp r, k G' H' g⟩⟩
end
end DL
namespace DL
open PySem PySem.Spec PyProof.Rows L2

section
variable {X : Cx} {e a b : Expr} {f fa fb : FE} {pos : Pos} {es : List Expr} {fs : FA}

/-! ### + -/
def rCatL (K : PySem.W.Frag) : R2 := fun x y H Q => ∃ l b xs zs, x = .ref l ∧ y = .ref b ∧ SqL K H l xs ∧ SqL K H b zs ∧ xs.length + zs.length ≤ sizeLine ∧ ∀ p, H p = none → Q (.ref p) (upd H p (.lst (xs ++ zs)))
theorem op_catL : OpR X (binaryOp .Add) (rCatL X.K) := by
  intro pins s σ H x y v u Q I rx ry h
  obtain ⟨l, b, xs, zs, rfl, rfl, h1, h2, hz, q⟩ := h
  cases rx
  cases ry
  obtain ⟨its, r, ⟨⟨cls, dd, data, sl⟩, n, ho, hc, _, hd⟩, _⟩ := I.list h1
  obtain ⟨its2, r2, ⟨⟨cls2, dd2, data2, sl2⟩, n2, ho2, hc2, _, hd2⟩, _⟩ := I.list h2
  simp only at hc hd hc2 hd2
  subst hc hd hc2 hd2
  have l1 := r.length
  have l2 := r2.length
  refine concat_meets ⟨_, ho, rfl⟩ ⟨_, ho2, rfl⟩ noFill_list_add seq_list_add PySem.F.slot_list_add PySem.F.entry_list_add (PySem.F.args_list_add_2 _ _) (list_addW l b its.toArray its2.toArray n n2 dd dd2 sl sl2 (by simp; omega)) ⟨ho, ho2, ?_⟩
  have ea : its.toArray ++ its2.toArray = (its ++ its2).toArray := by simp
  rw [ea]
  exact ⟨.ref _, _, I.lnew (t' := s.toks) (r.append r2) (by rw [List.length_append]; omega), rfl, q _ I.fresh⟩
def gAdd : D → D → Option D
  | .int i, .int j => some (.int (i + j))
  | .lst xs, .lst ys => if xs.length + ys.length ≤ sizeLine then some (.lst (xs ++ ys)) else none
  | .tup xs, .tup ys => if xs.length + ys.length ≤ sizeLine then some (.tup (xs ++ ys)) else none
  | .str x, .str y => if x.length + y.length ≤ sizeLine then some (.str (x ++ y)) else none
  | _, _ => none
def rAddS : R2 := fun x y H Q => ∃ i j, x = .str i ∧ y = .str j ∧ i.length + j.length ≤ sizeLine ∧ Q (.str (i ++ j)) H
theorem repL_emp {K : PySem.W.Frag} {H : Hp} {ds : List D} {vs : List V} (h : RepL K H ds vs) : vs = [] ↔ ds = [] := by
  have l := h.len
  constructor
  · rintro rfl; exact List.eq_nil_of_length_eq_zero (by simpa using l.symm)
  · rintro rfl; exact h.nil_inv
theorem r2d_add {K : PySem.W.Frag} : R2D K (fun x y H Q => rI0 (fun i j => .int (i + j)) x y H Q ∨ (rCatL K x y H Q ∨ (rCatA K x y H Q ∨ rAddS x y H Q))) gAdd := fun G H x y d v u Q s r1 r2 q k => by
  unfold gAdd at q
  split at q
  · cases q
    exact .inl ⟨_, _, by simpa using r1, by simpa using r2, k _ G H (.refl s) (rep_int.mpr rfl)⟩
  · rename_i xs ys
    split at q
    · rename_i c
      cases q
      obtain ⟨l, vs, rfl, h1, t1⟩ := r1.lst s
      obtain ⟨b, us, rfl, h2, t2⟩ := r2.lst s
      refine .inr (.inl ⟨l, b, vs, us, rfl, rfl, h1, h2, by rw [t1.len, t2.len]; exact c, fun p np => ?_⟩)
      have g := Grow.new (o := .lst (vs ++ us)) s np
      exact k _ _ _ g (rep_lst.mpr ⟨p, _, rfl, SqL.of upd_same, (t1.app t2).mono g.g⟩)
    · cases q
  · rename_i xs ys
    split at q
    · rename_i c
      cases q
      obtain ⟨l, vs, rfl, h1, t1⟩ := r1.tup
      obtain ⟨b, us, rfl, h2, t2⟩ := r2.tup
      refine .inr (.inr (.inl ⟨l, b, vs, us, rfl, rfl, SqT.of (s _ _ h1), SqT.of (s _ _ h2), by rw [t1.len, t2.len]; exact c, fun z => ?_, fun z1 z => ?_, fun z1 z2 p np => ?_⟩))
      · have := (repL_emp t1).mp z
        subst this
        exact k _ G H (.refl s) (rep_tup.mpr ⟨b, us, rfl, h2, t2⟩)
      · have := (repL_emp t2).mp z
        subst this
        exact k _ G H (.refl s) (rep_tup.mpr ⟨l, vs, rfl, h1, by simpa using t1⟩)
      · have g := Grow.new (o := .tup (vs ++ us)) s np
        exact k _ _ _ g (rep_tup.mpr ⟨p, _, rfl, upd_same, (t1.app t2).mono g.g⟩)
    · cases q
  · rename_i x y
    split at q
    · rename_i c
      cases q
      exact .inr (.inr (.inr ⟨_, _, by simpa using r1, by simpa using r2, c, k _ G H (.refl s) (rep_str.mpr rfl)⟩))
    · cases q
  · cases q
theorem de_add (ha : DP X a fa) (hb : DP X b fb) : DE X (.BinOp a .Add b pos) (eBin gAdd fa fb) :=
  de_op r2d_add (op_add.or (op_catL.or (op_catA.or op_add_str))) ha hb
/-- two lists joined: a new one -/
def gCat : D → D → Option D
  | .lst xs, .lst ys => if xs.length + ys.length ≤ sizeLine then some (.lst (xs ++ ys)) else none
  | _, _ => none
theorem df_cat (ha : DP X a fa) (hb : DP X b fb) : DF X (.BinOp a .Add b pos) (eBin gCat fa fb) :=
  PE.imp (pe_op op_catL ha hb) fun σ H Q ⟨G0, H0, G, ρ, d, s, q, k⟩ => by
    obtain ⟨x, ex, q⟩ := bind_inv q
    obtain ⟨y, ey, q⟩ := bind_inv q
    refine ⟨G0, H0, G, ρ, x, s, ex, fun v G1 H1 g1 r1 => ⟨G0, H0, G1, ρ, y, s.grow g1, ey, fun u G2 H2 g2 r2 => ?_⟩⟩
    have r1 := r1.grow g2
    unfold gCat at q
    split at q
    · rename_i xs ys
      split at q
      · rename_i c
        cases q
        obtain ⟨l, vs, rfl, h1, t1⟩ := r1.lst g2.sub
        obtain ⟨b, us, rfl, h2, t2⟩ := r2.lst g2.sub
        refine ⟨l, b, vs, us, rfl, rfl, h1, h2, by rw [t1.len, t2.len]; exact c, fun p np => ?_⟩
        have g := Grow.out (o := .lst (vs ++ us)) g2.sub np
        exact k p G2 _ ((g1.trans g2).trans g) (g1.h.free (g2.h.free np)) (g2.sub.free np) ⟨_, upd_same, t1.app t2⟩
      · cases q
    · cases q

/-! ### * -/
def gMul : D → D → Option D := gMulI
theorem de_mul (ha : DP X a fa) (hb : DP X b fb) : DE X (.BinOp a .Mult b pos) (eBin gMul fa fb) := de_op (r2d_int _ _) op_mul ha hb
/-- [..] * n -/
def gRep : D → D → Option D
  | .lst xs, .int k => if -(2 ^ 63) ≤ k ∧ k < 2 ^ 63 ∧ xs.length * k.toNat ≤ sizeLine then some (.lst (List.replicate k.toNat xs).flatten) else none
  | _, _ => none
theorem gRep_inv {x y d : D} (h : gRep x y = some d) : ∃ xs k, x = .lst xs ∧ y = .int k ∧ (-(2 ^ 63) ≤ k ∧ k < 2 ^ 63 ∧ xs.length * k.toNat ≤ sizeLine) ∧ d = .lst (List.replicate k.toNat xs).flatten := by
  unfold gRep at h
  split at h
  · split at h
    · rename_i c
      cases h
      exact ⟨_, _, rfl, rfl, c, rfl⟩
    · cases h
  · cases h
theorem df_rep (ha : DF X a fa) (hb : DP X b fb) : DF X (.BinOp a .Mult b pos) (eBin gRep fa fb) :=
  PE.imp (pe_op op_rep ha hb) fun σ H Q ⟨G0, H0, G, ρ, d, s, q, k⟩ => by
    obtain ⟨x, ex, q⟩ := bind_inv q
    obtain ⟨y, ey, q⟩ := bind_inv q
    refine ⟨G0, H0, G, ρ, x, s, ex, fun l G1 H1 g1 n1 n2 r1 => ⟨G0, H0, G1, ρ, y, s.grow g1, ey, fun u G2 H2 g2 r2 => ?_⟩⟩
    obtain ⟨xs, i, rfl, rfl, ⟨c1, c2, c3⟩, rfl⟩ := gRep_inv q
    obtain ⟨vs, h1, t1⟩ := r1
    refine ⟨l, i, vs, rfl, by simpa using r2, g2.h _ _ h1, c1, c2, by rw [t1.len]; exact c3, fun p np => ?_⟩
    have g := Grow.out (o := .lst (List.replicate i.toNat vs).flatten) g2.sub np
    exact k p G2 _ ((g1.trans g2).trans g) (g1.h.free (g2.h.free np)) (g2.sub.free np) ⟨_, upd_same, (t1.mono g2.g).rep _⟩

/-! ### places and parts -/
def gIx : D → D → Option D
  | .lst xs, .int i => atI xs i
  | .tup xs, .int i => atI xs i
  | .str z, .int i => if z.length ≤ sizeLine then (atI z.cps.toList i).map fun c => .str ⟨#[c]⟩ else none
  | _, _ => none
theorem repL_at {K : PySem.W.Frag} {H : Hp} {ds : List D} {vs : List V} {i : Int} {d : D} (h : RepL K H ds vs) (e : atI ds i = some d) : ∃ v, atI vs i = some v ∧ Rep K H d v := by
  unfold atI at e ⊢
  rw [h.len]
  cases q : ixN ds.length i with
  | none => rw [q] at e; cases e
  | some j =>
    rw [q] at e
    exact h.get e
theorem r2d_ix {K : PySem.W.Frag} : R2D K (rIx K) gIx := fun G H x y d v u Q s r1 r2 q k => by
  unfold gIx at q
  split at q
  · rename_i xs i
    obtain ⟨l, vs, rfl, h1, t1⟩ := r1.lst s
    obtain ⟨w, e1, e2⟩ := repL_at t1 q
    exact .inl ⟨l, vs, i, w, rfl, by simpa using r2, h1, e1, k _ G H (.refl s) e2⟩
  · rename_i xs i
    obtain ⟨l, vs, rfl, h1, t1⟩ := r1.tup
    obtain ⟨w, e1, e2⟩ := repL_at t1 q
    exact .inr (.inl ⟨l, vs, i, w, rfl, by simpa using r2, SqT.of (s _ _ h1), e1, k _ G H (.refl s) e2⟩)
  · rename_i z i
    split at q
    · rename_i c
      obtain ⟨t, e1, e2⟩ := map_inv q
      subst e2
      exact .inr (.inr ⟨z, i, t, by simpa using r1, by simpa using r2, c, e1, k _ G H (.refl s) (rep_str.mpr rfl)⟩)
    · cases q
  · cases q
theorem de_ix (ha : DP X a fa) (hb : DP X b fb) (hs : PlainIx b := by exact fun _ _ => rfl) : DE X (.Subscript a b pos) (eBin gIx fa fb) :=
  PE.imp (pe_ix ix_seq ha hb hs) fun σ H Q h => liftP_two r2d_ix h

abbrev FO := DEnv → Option (Option Int)
def liftO (K : PySem.W.Frag) (f : FO) : TO := fun σ H Q => ∃ G0 H0 G ρ d, DSt K G0 H0 G H σ ρ ∧ f ρ = some d ∧ ∀ G' H', Grow G H G' H' → Q d H'
def DO (X : Cx) (e : Option Expr) (f : FO) : Prop := PO X e (liftO X.K f)
theorem PO.imp {e : Option Expr} {t t' : TO} (h : PO X e t) (q : ∀ σ H Q, t' σ H Q → t σ H Q) : PO X e t' := ⟨fun pins s σ H Q I z => h.run pins s σ H Q I (q σ H Q z)⟩
def oNone : FO := fun _ => some none
def oSome (f : FE) : FO := fun ρ => match f ρ with
  | some (.int i) => some (some i)
  | _ => none
theorem do_none : DO X none oNone := PO.imp po_none fun σ H Q ⟨G0, H0, G, ρ, d, s, q, k⟩ => by cases q; exact k G H (.refl s.sub)
theorem do_some (h : DE X e f) : DO X (some e) (oSome f) := PO.imp (po_some h) fun σ H Q ⟨G0, H0, G, ρ, d, s, q, k⟩ => by
  unfold oSome at q
  split at q
  · rename_i i z
    cases q
    exact ⟨G0, H0, G, ρ, _, s, z, fun v G' H' g r => ⟨i, rep_int.mp r, k G' H' g⟩⟩
  · cases q
def cutD (xs : List D) (lo hi : Option Int) : List D := (xs.drop (HT.sIx xs.length 0 lo)).take (HT.sIx xs.length xs.length hi - HT.sIx xs.length 0 lo)
theorem repL_cut {K : PySem.W.Frag} {H : Hp} {ds : List D} {vs : List V} {lo hi : Option Int} (h : RepL K H ds vs) : RepL K H (cutD ds lo hi) (cutV vs lo hi) := by
  unfold cutD cutV
  rw [h.len]
  exact (h.drop _).take _
theorem cutD_all {xs : List D} {lo hi : Option Int} (h : HT.sIx xs.length 0 lo = 0 ∧ HT.sIx xs.length xs.length hi = xs.length) : cutD xs lo hi = xs := by
  unfold cutD
  rw [h.1, h.2]
  simp
def gSl (x : D) (lo hi : Option Int) : Option D := match x with
  | .lst xs => some (.lst (cutD xs lo hi))
  | .tup xs => some (.tup (cutD xs lo hi))
  | _ => none
def eSl (fa : FE) (fl fh : FO) : FE := fun ρ => (fa ρ).bind fun x => (fl ρ).bind fun l => (fh ρ).bind fun h => gSl x l h
theorem de_slice {lo hi : Option Expr} {p2 : Pos} {fl fh : FO} (ha : DP X a fa) (hl : DO X lo fl) (hh : DO X hi fh) : DE X (.Subscript a (.Slice lo hi none p2) pos) (eSl fa fl fh) :=
  PE.imp (pe_slice (sl_list.or sl_tupA) ha hl hh) fun σ H Q ⟨G0, H0, G, ρ, d, s, q, k⟩ => by
    obtain ⟨x, ex, q⟩ := bind_inv q
    obtain ⟨l, el, q⟩ := bind_inv q
    obtain ⟨h, eh, q⟩ := bind_inv q
    refine ⟨G0, H0, G, ρ, x, s, ex, fun v G1 H1 g1 r1 => ⟨G0, H0, G1, ρ, l, s.grow g1, el, fun G2 H2 g2 => ⟨G0, H0, G2, ρ, h, (s.grow g1).grow g2, eh, fun G3 H3 g3 => ?_⟩⟩⟩
    have r1 := (r1.grow g2).grow g3
    have gg := (g1.trans g2).trans g3
    unfold gSl at q
    split at q
    · cases q
      obtain ⟨p, vs, rfl, h1, t1⟩ := r1.lst g3.sub
      refine .inl ⟨p, vs, rfl, h1, fun o no => ?_⟩
      have g := Grow.new (o := .lst (cutV vs l h)) g3.sub no
      exact k _ _ _ (gg.trans g) (rep_lst.mpr ⟨o, _, rfl, SqL.of upd_same, (repL_cut t1).mono g.g⟩)
    · cases q
      obtain ⟨p, vs, rfl, h1, t1⟩ := r1.tup
      refine .inr ⟨p, vs, rfl, SqT.of (g3.sub _ _ h1), fun z => ?_, fun z o no => ?_⟩
      · rw [t1.len] at z
        exact k _ G3 H3 gg (rep_tup.mpr ⟨p, vs, rfl, h1, by rw [cutD_all z]; exact t1⟩)
      · have g := Grow.new (o := .tup (cutV vs l h)) g3.sub no
        exact k _ _ _ (gg.trans g) (rep_tup.mpr ⟨o, _, rfl, upd_same, (repL_cut t1).mono g.g⟩)
    · cases q
/-- a list's part: a new list -/
def gSlL (x : D) (lo hi : Option Int) : Option D := match x with
  | .lst xs => some (.lst (cutD xs lo hi))
  | _ => none
def eSlL (fa : FE) (fl fh : FO) : FE := fun ρ => (fa ρ).bind fun x => (fl ρ).bind fun l => (fh ρ).bind fun h => gSlL x l h
theorem df_slice {lo hi : Option Expr} {p2 : Pos} {fl fh : FO} (ha : DP X a fa) (hl : DO X lo fl) (hh : DO X hi fh) : DF X (.Subscript a (.Slice lo hi none p2) pos) (eSlL fa fl fh) :=
  PE.imp (pe_slice sl_list ha hl hh) fun σ H Q ⟨G0, H0, G, ρ, d, s, q, k⟩ => by
    obtain ⟨x, ex, q⟩ := bind_inv q
    obtain ⟨l, el, q⟩ := bind_inv q
    obtain ⟨h, eh, q⟩ := bind_inv q
    refine ⟨G0, H0, G, ρ, x, s, ex, fun v G1 H1 g1 r1 => ⟨G0, H0, G1, ρ, l, s.grow g1, el, fun G2 H2 g2 => ⟨G0, H0, G2, ρ, h, (s.grow g1).grow g2, eh, fun G3 H3 g3 => ?_⟩⟩⟩
    have r1 := (r1.grow g2).grow g3
    have gg := (g1.trans g2).trans g3
    unfold gSlL at q
    split at q
    · cases q
      obtain ⟨p, vs, rfl, h1, t1⟩ := r1.lst g3.sub
      refine ⟨p, vs, rfl, h1, fun o no => ?_⟩
      have g := Grow.out (o := .lst (cutV vs l h)) g3.sub no
      exact k o G3 _ (gg.trans g) (gg.h.free no) (g3.sub.free no) ⟨_, upd_same, repL_cut t1⟩
    · cases q

/-! ### fields -/
/-- the class of an instance: its name, what of the text it must have -/
structure CFact (K : PySem.W.Frag) (c f : Str) : Prop where
  cls : Cls K (He.ga K c)
  no : NoAttr K (He.ga K c) f
def lookD : List Str → List D → Str → Option D
  | n :: ns, d :: ds, f => if f = n then some d else lookD ns ds f
  | _, _, _ => none
theorem look_rep {K : PySem.W.Frag} {H : Hp} {f : Str} {d : D} : ∀ {ns : List Str} {ds : List D} {vs : List V}, RepL K H ds vs → lookD ns ds f = some d → ∃ v, (ns.zip vs).lookup f = some v ∧ Rep K H d v
  | [], ds, vs, h, e => by cases ds <;> simp [lookD] at e
  | n :: ns, [], vs, h, e => by simp [lookD] at e
  | n :: ns, x :: ds, vs, h, e => by
    obtain ⟨v, r, rfl, h2, h3⟩ := h.cons_inv
    unfold lookD at e
    by_cases c : f = n
    · rw [if_pos c] at e
      cases e
      exact ⟨v, by simp [List.lookup_cons, c], h2⟩
    · rw [if_neg c] at e
      obtain ⟨w, q1, q2⟩ := look_rep h3 e
      refine ⟨w, ?_, q2⟩
      rw [List.zip_cons_cons, List.lookup_cons]
      have : (f == n) = false := by simpa using c
      rw [this]; exact q1
def eFld (cs : List Str) (f : Str) (fa : FE) : FE := fun ρ => (fa ρ).bind fun x => match x with
  | .obj c ns ds => if c ∈ cs then lookD ns ds f else none
  | _ => none
theorem de_fld {f : Str} (cs : List Str) (hc : ∀ c ∈ cs, CFact X.K c f) (ha : DP X a fa) (hb : attributeBase a f X.env (eval a X.env) = eval a X.env := by rfl) : DE X (.Attribute a f pos) (eFld cs f fa) :=
  PE.imp (pe_fld ha hb) fun σ H Q ⟨G0, H0, G, ρ, d, s, q, k⟩ => by
    obtain ⟨x, ex, q⟩ := bind_inv q
    refine ⟨G0, H0, G, ρ, x, s, ex, fun v G1 H1 g1 r1 => ?_⟩
    split at q
    · rename_i c ns ds
      split at q
      · rename_i hm
        obtain ⟨p, dx, vs, rfl, h1, h2, h3⟩ := r1.obj g1.sub
        obtain ⟨w, e1, e2⟩ := look_rep h3 q
        have F := hc c hm
        exact ⟨p, _, dx, _, w, rfl, h1, F.cls, F.no, e1, k _ G1 H1 g1 e2⟩
      · cases q
    · cases q
end
end DL
namespace DL
open PySem PySem.Spec PyProof.Rows L2

section
variable {X : Cx} {e a b : Expr} {f fa fb : FE} {pos p : Pos} {es : List Expr} {fs : FA}

/-! ### built-in functions by what they do to data -/
def eCB (g : List D → Option D) (fs : FA) : FE := fun ρ => (fs ρ).bind g
def C1D (K : PySem.W.Frag) (r : List V → Hp → VK → Prop) (g : List D → Option D) : Prop :=
  ∀ (G H : Hp) (ds : List D) (d : D) (vs : List V) (Q : VK), Same G H → PRepL K G H ds vs → g ds = some d → (∀ w G' H', Grow G H G' H' → Rep K G' d w → Q w H') → r vs H Q
/-- .. that make a new object -/
def C1F (K : PySem.W.Frag) (r : List V → Hp → VK → Prop) (g : List D → Option D) : Prop :=
  ∀ (G H : Hp) (ds : List D) (d : D) (vs : List V) (Q : VK), Same G H → PRepL K G H ds vs → g ds = some d → (∀ p G' H', Grow G H G' H' → H p = none → G' p = none → ORep K G' H' p d → Q (.ref p) H') → r vs H Q
theorem liftCB {K : PySem.W.Frag} {r : List V → Hp → VK → Prop} {g : List D → Option D} (hg : C1D K r g) {σ : L2.St} {H : Hp} {Q : VK} (h : liftE K (eCB g fs) σ H Q) : tCB r (liftPA K fs) σ H Q := by
  obtain ⟨G0, H0, G, ρ, d, s, q, k⟩ := h
  obtain ⟨ds, ed, q⟩ := bind_inv q
  exact ⟨G0, H0, G, ρ, ds, s, ed, fun vs G1 H1 g1 r1 => hg G1 H1 ds d vs Q g1.sub r1 q fun w G' H' g2 r2 => k w G' H' (g1.trans g2) r2⟩
theorem liftCF {K : PySem.W.Frag} {r : List V → Hp → VK → Prop} {g : List D → Option D} (hg : C1F K r g) {σ : L2.St} {H : Hp} {Q : VK} (h : liftF K (eCB g fs) σ H Q) : tCB r (liftPA K fs) σ H Q := by
  obtain ⟨G0, H0, G, ρ, d, s, q, k⟩ := h
  obtain ⟨ds, ed, q⟩ := bind_inv q
  exact ⟨G0, H0, G, ρ, ds, s, ed, fun vs G1 H1 g1 r1 => hg G1 H1 ds d vs Q g1.sub r1 q fun w G' H' g2 n1 n2 r2 => k w G' H' (g1.trans g2) (g1.h.free n1) n2 r2⟩
section
variable {id T : String} {x : Str} {r : List V → Hp → VK → Prop} {g : List D → Option D}
theorem de_cb (hg : C1D X.K r g) (hc : CallR X (.builtin id) r) (hx : Gl X x) (hm : X.mg x = none) (hv : bootBuiltins x = some (.builtin id)) (ha : DPA X (e :: es) fs) (hn : x ≠ "__name__" := by decide) (hdb : (x == ("__debug__" : Str)) = false := by decide)
    (he : starEach (e :: es) X.env = (false, eval e X.env) :: starEach es X.env := by rfl) (hpl : (backTo pos (starEach es X.env)).any (·.1) = false := by rfl) : DE X (.Call (.Name x p) (e :: es) [] pos) (eCB g fs) :=
  PE.imp (pe_callB hc hx hm hv ha.run hn hdb he hpl) fun σ H Q h => liftCB hg h
theorem de_ct (hg : C1D X.K r g) (hc : CallR X (.type T) r) (hx : Gl X x) (hm : X.mg x = none) (hv : bootBuiltins x = some (.type T)) (ha : DPA X (e :: es) fs) (hn : x ≠ "__name__" := by decide) (hdb : (x == ("__debug__" : Str)) = false := by decide)
    (he : starEach (e :: es) X.env = (false, eval e X.env) :: starEach es X.env := by rfl) (hpl : (backTo pos (starEach es X.env)).any (·.1) = false := by rfl) : DE X (.Call (.Name x p) (e :: es) [] pos) (eCB g fs) :=
  PE.imp (pe_callTy hc hx hm hv ha.run hn hdb he hpl) fun σ H Q h => liftCB hg h
theorem df_cb (hg : C1F X.K r g) (hc : CallR X (.builtin id) r) (hx : Gl X x) (hm : X.mg x = none) (hv : bootBuiltins x = some (.builtin id)) (ha : DPA X (e :: es) fs) (hn : x ≠ "__name__" := by decide) (hdb : (x == ("__debug__" : Str)) = false := by decide)
    (he : starEach (e :: es) X.env = (false, eval e X.env) :: starEach es X.env := by rfl) (hpl : (backTo pos (starEach es X.env)).any (·.1) = false := by rfl) : DF X (.Call (.Name x p) (e :: es) [] pos) (eCB g fs) :=
  PE.imp (pe_callB hc hx hm hv ha.run hn hdb he hpl) fun σ H Q h => liftCF hg h
theorem df_ct (hg : C1F X.K r g) (hc : CallR X (.type T) r) (hx : Gl X x) (hm : X.mg x = none) (hv : bootBuiltins x = some (.type T)) (ha : DPA X (e :: es) fs) (hn : x ≠ "__name__" := by decide) (hdb : (x == ("__debug__" : Str)) = false := by decide)
    (he : starEach (e :: es) X.env = (false, eval e X.env) :: starEach es X.env := by rfl) (hpl : (backTo pos (starEach es X.env)).any (·.1) = false := by rfl) : DF X (.Call (.Name x p) (e :: es) [] pos) (eCB g fs) :=
  PE.imp (pe_callTy hc hx hm hv ha.run hn hdb he hpl) fun σ H Q h => liftCF hg h
end
theorem PRepL.nil_inv {K : PySem.W.Frag} {G H : Hp} {vs : List V} (h : PRepL K G H [] vs) : vs = [] := by cases h; rfl
theorem PRepL.cons_inv {K : PySem.W.Frag} {G H : Hp} {d : D} {ds : List D} {vs : List V} (h : PRepL K G H (d :: ds) vs) : ∃ v r, vs = v :: r ∧ PRep K G H d v ∧ PRepL K G H ds r := by
  cases h with | cons a b => exact ⟨_, _, rfl, a, b⟩
theorem PRepL.one_inv {K : PySem.W.Frag} {G H : Hp} {d : D} {vs : List V} (h : PRepL K G H [d] vs) : ∃ v, vs = [v] ∧ PRep K G H d v := by
  obtain ⟨v, r, rfl, h1, h2⟩ := h.cons_inv
  exact ⟨v, by rw [h2.nil_inv], h1⟩
theorem PRepL.two_inv {K : PySem.W.Frag} {G H : Hp} {d d' : D} {vs : List V} (h : PRepL K G H [d, d'] vs) : ∃ v v', vs = [v, v'] ∧ PRep K G H d v ∧ PRep K G H d' v' := by
  obtain ⟨v, r, rfl, h1, h2⟩ := h.cons_inv
  obtain ⟨v', rfl, h3⟩ := h2.one_inv
  exact ⟨v, v', rfl, h1, h3⟩

/-! #### len -/
def gLen : List D → Option D
  | [.lst ds] => some (.int ds.length)
  | [.tup ds] => some (.int ds.length)
  | [.str z] => if z.length ≤ sizeLine then some (.int z.length) else none
  | _ => none
theorem c1_len {K : PySem.W.Frag} : C1D K (fun xs H Q => ∃ x n, xs = [x] ∧ LenV K x H n ∧ Q (.int n) H) gLen := fun G H ds d vs Q s r q k => by
  unfold gLen at q
  split at q
  · cases q
    obtain ⟨v, rfl, h⟩ := r.one_inv
    obtain ⟨a, us, rfl, h1, h2⟩ := h.lst s
    exact ⟨_, _, rfl, .inl ⟨us, h1, rfl⟩, by rw [h2.len]; exact k _ G H (.refl s) (rep_int.mpr rfl)⟩
  · cases q
    obtain ⟨v, rfl, h⟩ := r.one_inv
    obtain ⟨a, us, rfl, h1, h2⟩ := h.tup
    exact ⟨_, _, rfl, .inr ⟨us, SqT.of (s _ _ h1), rfl⟩, by rw [h2.len]; exact k _ G H (.refl s) (rep_int.mpr rfl)⟩
  · split at q
    · rename_i c
      cases q
      obtain ⟨v, rfl, h⟩ := r.one_inv
      exact ⟨_, _, rfl, by rw [prep_str.mp h]; exact ⟨c, rfl⟩, k _ G H (.refl s) (rep_int.mpr rfl)⟩
    · cases q
  · cases q
theorem de_len (hx : Gl X "len") (hm : X.mg "len" = none) (ha : DP X a fa) (h1 : starEach [a] X.env = [(false, eval a X.env)] := by rfl) : DE X (.Call (.Name "len" p) [a] [] pos) (eCB gLen (aCons fa aNil)) :=
  de_cb c1_len call_len hx hm PySem.boot_len (dpa_cons ha dpa_nil h1) (he := h1)

/-! #### whole numbers in a row -/
def asInts : List D → Option (List Int)
  | [] => some []
  | .int i :: ds => (asInts ds).map (i :: ·)
  | _ :: _ => none
theorem asInts_inv : ∀ {ds : List D} {ns : List Int}, asInts ds = some ns → ds = ns.map D.int
  | [], ns, h => by cases h; rfl
  | d :: ds, ns, h => by
    cases d <;> simp only [asInts] at h <;> first | cases h | skip
    obtain ⟨ms, e1, e2⟩ := map_inv h
    subst e2
    rw [asInts_inv e1]; rfl
@[simp] theorem asInts_map {ns : List Int} : asInts (ns.map D.int) = some ns := by
  induction ns with
  | nil => rfl
  | cons n ns ih => simp [asInts, ih]
def asBools : List D → Option (List Bool)
  | [] => some []
  | .bl i :: ds => (asBools ds).map (i :: ·)
  | _ :: _ => none
theorem asBools_inv : ∀ {ds : List D} {ns : List Bool}, asBools ds = some ns → ds = ns.map D.bl
  | [], ns, h => by cases h; rfl
  | d :: ds, ns, h => by
    cases d <;> simp only [asBools] at h <;> first | cases h | skip
    obtain ⟨ms, e1, e2⟩ := map_inv h
    subst e2
    rw [asBools_inv e1]; rfl
@[simp] theorem asBools_map {ns : List Bool} : asBools (ns.map D.bl) = some ns := by
  induction ns with
  | nil => rfl
  | cons n ns ih => simp [asBools, ih]

/-! #### sum -/
theorem iter_tupI {prog : Program} {w : World} {A : Around} {E : Value → Shared → Prop} {s : Shared} {l : Addr} {items : Array Value} {Q : Value → Shared → Prop} (ht : s.heap.IsTuple l items)
    (h : ∀ s₂ : Shared, s₂ = { s with heap := s.heap.push { cls := .type "tuple_iterator", data := .fields #[.ref l, .int 0 0] } } →
      (s₂.heap.IsTupleIter s.heap.objs.size l 0 ∧ s₂.heap.IsTuple l items) → (∀ b ∈ [s.heap.objs.size, l], b < s₂.heap.objs.size) → l ≠ s.heap.objs.size → Q (.ref s.heap.objs.size) s₂) :
    wpAny (model prog w) A (pyIter (.ref l)) Q E s := by
  have hlt : l < s.heap.objs.size := by obtain ⟨_, z, _⟩ := ht; exact Heap.lt_size z
  refine wpAny_pyIter_tuple ht (h _ rfl ⟨⟨_, Heap.get?_push_size _ rfl, rfl, rfl⟩, ht.push _⟩ (fun b hb => ?_) (Nat.ne_of_lt hlt))
  show b < (s.heap.push _).objs.size
  rw [Heap.size_push]
  simp only [List.mem_cons, List.not_mem_nil, or_false] at hb
  rcases hb with hb | hb
  · rw [hb]; exact Nat.lt_succ_self _
  · rw [hb]; exact Nat.lt_succ_of_lt hlt
theorem old_keptT {s : Shared} {o : Obj} {h' : Heap} (hk : ∀ b u, b ∉ [s.heap.objs.size] → (s.heap.push o).get? b = some u → h'.get? b = some u) : ∀ b u, s.heap.get? b = some u → h'.get? b = some u := fun b u z => by
  refine hk b u (fun hm => ?_) (Heap.get?_push_of_some _ z)
  simp only [List.mem_cons, List.not_mem_nil, or_false] at hm
  have q := Heap.lt_size z
  rw [hm] at q
  exact Nat.lt_irrefl _ q
theorem sum_rawT {prog : Program} {w : World} {A : Around} {E : Value → Shared → Prop} {s : Shared} {l : Addr} {its : List Value} {ns : List Int} {Q : Value → Shared → Prop} (hh : A.handled = none) (ht : s.heap.IsTuple l its.toArray) (hi : IntsAre its ns)
    (h : ∀ h' tk t', (∀ b o, s.heap.get? b = some o → h'.get? b = some o) → Q (.int ns.sum t') { s with heap := h', toks := tk }) : wpAny (model prog w) A (call (.builtin "sum") [.ref l]) Q E s := by
  obtain ⟨xs, z⟩ := hi.allInts.items
  have hn : numsOf (intItems xs).toList = ns := by rw [← z]; exact hi.numsOf
  rw [nums_intItems] at hn
  rw [z] at ht
  refine call_sum_walkG (iter_tupI ht fun s₂ z2 st hfp hlI => ?_)
  subst z2
  refine ⟨_, _, _, _, _, _, numAt xs, rfl, Walks.tuple (A := A.in1) hh _ l hlI (intItems xs), st, hfp, (fun _ _ => intItems_at), fun h' tk t' hk => ?_⟩
  have q := h h' tk t' (old_keptT hk)
  rw [preSum_eq, List.take_of_length_le (by simp [intItems]), hn]
  exact q
def rSumT (K : PySem.W.Frag) : List V → Hp → VK → Prop := fun vs H Q => ∃ (a : Addr) (ns : List Int), vs = [V.ref a] ∧ SqT K H a (ns.map V.int) ∧ Q (.int ns.sum) H
theorem cr_sumT (hc : X.calm = true) : CallR X (.builtin "sum") (rSumT X.K) := by
  intro pins s σ H vs us Q I r h
  obtain ⟨a, ns, rfl, hs, q⟩ := h
  obtain ⟨its, rv, hl, _⟩ := I.tuple hs
  rw [Vals.ref1 r]
  exact sum_rawT (I.ok.hd hc) hl rv.ints fun h' tk t' hk => ⟨.int _, H, I.kept hk, ⟨_, rfl⟩, q⟩
def gSum : List D → Option D
  | [.lst ds] => (asInts ds).map fun ns => .int ns.sum
  | [.tup ds] => (asInts ds).map fun ns => .int ns.sum
  | _ => none
theorem c1_sum {K : PySem.W.Frag} : C1D K (fun xs H Q => rSum K xs H Q ∨ rSumT K xs H Q) gSum := fun G H ds d vs Q s r q k => by
  unfold gSum at q
  split at q
  · obtain ⟨ns, e1, e2⟩ := map_inv q
    subst e2
    obtain ⟨v, rfl, h⟩ := r.one_inv
    obtain ⟨a, us, rfl, h1, h2⟩ := h.lst s
    have e3 := asInts_inv e1
    subst e3
    have e4 := RepL.ints.mp h2
    subst e4
    exact .inl ⟨a, ns, rfl, h1, k _ G H (.refl s) (rep_int.mpr rfl)⟩
  · obtain ⟨ns, e1, e2⟩ := map_inv q
    subst e2
    obtain ⟨v, rfl, h⟩ := r.one_inv
    obtain ⟨a, us, rfl, h1, h2⟩ := h.tup
    have e3 := asInts_inv e1
    subst e3
    have e4 := RepL.ints.mp h2
    subst e4
    exact .inr ⟨a, ns, rfl, SqT.of (s _ _ h1), k _ G H (.refl s) (rep_int.mpr rfl)⟩
  · cases q
theorem de_sum (hc : X.calm = true) (hx : Gl X "sum") (hm : X.mg "sum" = none) (ha : DP X a fa) (h1 : starEach [a] X.env = [(false, eval a X.env)] := by rfl) : DE X (.Call (.Name "sum" p) [a] [] pos) (eCB gSum (aCons fa aNil)) :=
  de_cb c1_sum ((cr_sum hc).or (cr_sumT hc)) hx hm (by decide +kernel) (dpa_cons ha dpa_nil h1) (he := h1)

/-! #### max, min -/
def gMax2 : List D → Option D
  | [.int i, .int j] => some (.int (if j > i then j else i))
  | _ => none
def gMin2 : List D → Option D
  | [.int i, .int j] => some (.int (if j < i then j else i))
  | _ => none
theorem de_max2 (hc : X.calm = true) (hx : Gl X "max") (hm : X.mg "max" = none) (ha : DP X a fa) (hb : DP X b fb) (h1 : starEach [b] X.env = [(false, eval b X.env)] := by rfl) (h2 : starEach [a, b] X.env = (false, eval a X.env) :: starEach [b] X.env := by rfl)
    (h3 : (backTo pos (starEach [b] X.env)).any (·.1) = false := by rfl) : DE X (.Call (.Name "max" p) [a, b] [] pos) (eCB gMax2 (aCons fa (aCons fb aNil))) :=
  de_cb (fun G H ds d vs Q s r q k => by
    unfold gMax2 at q
    split at q
    · cases q
      obtain ⟨v, u, rfl, r1, r2⟩ := r.two_inv
      exact ⟨_, _, by rw [prep_int.mp r1, prep_int.mp r2], k _ G H (.refl s) (rep_int.mpr rfl)⟩
    · cases q) (call_max2 hc) hx hm (by decide +kernel) (dpa_cons ha (dpa_cons hb dpa_nil h1) h2) (he := h2) (hpl := h3)
theorem de_min2 (hc : X.calm = true) (hx : Gl X "min") (hm : X.mg "min" = none) (ha : DP X a fa) (hb : DP X b fb) (h1 : starEach [b] X.env = [(false, eval b X.env)] := by rfl) (h2 : starEach [a, b] X.env = (false, eval a X.env) :: starEach [b] X.env := by rfl)
    (h3 : (backTo pos (starEach [b] X.env)).any (·.1) = false := by rfl) : DE X (.Call (.Name "min" p) [a, b] [] pos) (eCB gMin2 (aCons fa (aCons fb aNil))) :=
  de_cb (fun G H ds d vs Q s r q k => by
    unfold gMin2 at q
    split at q
    · cases q
      obtain ⟨v, u, rfl, r1, r2⟩ := r.two_inv
      exact ⟨_, _, by rw [prep_int.mp r1, prep_int.mp r2], k _ G H (.refl s) (rep_int.mpr rfl)⟩
    · cases q) (call_min2 hc) hx hm (by decide +kernel) (dpa_cons ha (dpa_cons hb dpa_nil h1) h2) (he := h2) (hpl := h3)
def maxI : List Int → Int
  | [] => 0
  | [a] => a
  | a :: l => max a (maxI l)
def minI : List Int → Int
  | [] => 0
  | [a] => a
  | a :: l => min a (minI l)
theorem maxI_mem : ∀ {l : List Int}, l ≠ [] → maxI l ∈ l ∧ ∀ y ∈ l, y ≤ maxI l
  | [], h => absurd rfl h
  | [a], _ => by simp [maxI]
  | a :: b :: l, _ => by
    obtain ⟨h1, h2⟩ := maxI_mem (l := b :: l) (by simp)
    have e : maxI (a :: b :: l) = max a (maxI (b :: l)) := rfl
    rw [e]
    constructor
    · by_cases c : a ≤ maxI (b :: l)
      · rw [Int.max_eq_right c]; exact List.mem_cons_of_mem _ h1
      · rw [Int.max_eq_left (by omega)]; exact List.mem_cons_self
    · intro y hy
      rcases List.mem_cons.mp hy with rfl | hy
      · omega
      · have := h2 y hy; omega
theorem minI_mem : ∀ {l : List Int}, l ≠ [] → minI l ∈ l ∧ ∀ y ∈ l, minI l ≤ y
  | [], h => absurd rfl h
  | [a], _ => by simp [minI]
  | a :: b :: l, _ => by
    obtain ⟨h1, h2⟩ := minI_mem (l := b :: l) (by simp)
    have e : minI (a :: b :: l) = min a (minI (b :: l)) := rfl
    rw [e]
    constructor
    · by_cases c : a ≤ minI (b :: l)
      · rw [Int.min_eq_left c]; exact List.mem_cons_self
      · rw [Int.min_eq_right (by omega)]; exact List.mem_cons_of_mem _ h1
    · intro y hy
      rcases List.mem_cons.mp hy with rfl | hy
      · omega
      · have := h2 y hy; omega
def gMaxL : List D → Option D
  | [.lst ds] => (asInts ds).bind fun ns => if ns = [] then none else some (.int (maxI ns))
  | _ => none
def gMinL : List D → Option D
  | [.lst ds] => (asInts ds).bind fun ns => if ns = [] then none else some (.int (minI ns))
  | _ => none
theorem de_maxL (hc : X.calm = true) (hx : Gl X "max") (hm : X.mg "max" = none) (ha : DP X a fa) (h1 : starEach [a] X.env = [(false, eval a X.env)] := by rfl) : DE X (.Call (.Name "max" p) [a] [] pos) (eCB gMaxL (aCons fa aNil)) :=
  de_cb (fun G H ds d vs Q s r q k => by
    unfold gMaxL at q
    split at q
    · obtain ⟨ns, e1, q⟩ := bind_inv q
      split at q
      · cases q
      · rename_i c
        cases q
        obtain ⟨v, rfl, h⟩ := r.one_inv
        obtain ⟨a, us, rfl, h1, h2⟩ := h.lst s
        have e3 := asInts_inv e1
        subst e3
        have e4 := RepL.ints.mp h2
        subst e4
        refine ⟨a, ns, rfl, h1, List.length_pos_iff.mpr c, fun m hm1 hm2 => ?_⟩
        obtain ⟨t1, t2⟩ := maxI_mem c
        have : m = maxI ns := Int.le_antisymm (t2 m hm1) (hm2 _ t1)
        subst this
        exact k _ G H (.refl s) (rep_int.mpr rfl)
    · cases q) (cr_max hc) hx hm (by decide +kernel) (dpa_cons ha dpa_nil h1) (he := h1)
theorem de_minL (hc : X.calm = true) (hx : Gl X "min") (hm : X.mg "min" = none) (ha : DP X a fa) (h1 : starEach [a] X.env = [(false, eval a X.env)] := by rfl) : DE X (.Call (.Name "min" p) [a] [] pos) (eCB gMinL (aCons fa aNil)) :=
  de_cb (fun G H ds d vs Q s r q k => by
    unfold gMinL at q
    split at q
    · obtain ⟨ns, e1, q⟩ := bind_inv q
      split at q
      · cases q
      · rename_i c
        cases q
        obtain ⟨v, rfl, h⟩ := r.one_inv
        obtain ⟨a, us, rfl, h1, h2⟩ := h.lst s
        have e3 := asInts_inv e1
        subst e3
        have e4 := RepL.ints.mp h2
        subst e4
        refine ⟨a, ns, rfl, h1, List.length_pos_iff.mpr c, fun m hm1 hm2 => ?_⟩
        obtain ⟨t1, t2⟩ := minI_mem c
        have : m = minI ns := Int.le_antisymm (hm2 _ t1) (t2 m hm1)
        subst this
        exact k _ G H (.refl s) (rep_int.mpr rfl)
    · cases q) (cr_min hc) hx hm (by decide +kernel) (dpa_cons ha dpa_nil h1) (he := h1)

/-! #### sorted, of whole numbers -/
def insI (x : Int) : List Int → List Int
  | [] => [x]
  | y :: l => if x ≤ y then x :: y :: l else y :: insI x l
def sortI : List Int → List Int
  | [] => []
  | x :: l => insI x (sortI l)
theorem insI_perm (x : Int) : ∀ l : List Int, (insI x l).Perm (x :: l)
  | [] => .refl _
  | y :: l => by
    unfold insI
    split
    · exact .refl _
    · exact ((insI_perm x l).cons y).trans (.swap x y l)
theorem sortI_perm : ∀ l : List Int, (sortI l).Perm l
  | [] => .refl _
  | x :: l => (insI_perm x _).trans ((sortI_perm l).cons x)
theorem insI_sorted (x : Int) : ∀ {l : List Int}, l.Pairwise (· ≤ ·) → (insI x l).Pairwise (· ≤ ·)
  | [], _ => by simp [insI]
  | y :: l, h => by
    obtain ⟨h1, h2⟩ := List.pairwise_cons.mp h
    unfold insI
    split
    · rename_i c
      refine List.pairwise_cons.mpr ⟨fun z hz => ?_, h⟩
      rcases List.mem_cons.mp hz with rfl | hz
      · exact c
      · exact Int.le_trans c (h1 z hz)
    · rename_i c
      refine List.pairwise_cons.mpr ⟨fun z hz => ?_, insI_sorted x h2⟩
      rcases List.mem_cons.mp ((insI_perm x l).mem_iff.mp hz) with rfl | hz
      · omega
      · exact h1 z hz
theorem sortI_sorted : ∀ l : List Int, (sortI l).Pairwise (· ≤ ·)
  | [] => .nil
  | x :: l => insI_sorted x (sortI_sorted l)
theorem sort_uniq : ∀ {l m : List Int}, l.Pairwise (· ≤ ·) → m.Pairwise (· ≤ ·) → l.Perm m → l = m
  | [], m, _, _, h => (List.nil_perm.mp h).symm
  | x :: l, [], _, _, h => by simpa using h.length_eq
  | x :: l, y :: m, h1, h2, h => by
    obtain ⟨a1, a2⟩ := List.pairwise_cons.mp h1
    obtain ⟨b1, b2⟩ := List.pairwise_cons.mp h2
    have e : x = y := by
      have m1 : x ∈ y :: m := h.mem_iff.mp List.mem_cons_self
      have m2 : y ∈ x :: l := h.mem_iff.mpr List.mem_cons_self
      rcases List.mem_cons.mp m1 with z | z
      · exact z
      · rcases List.mem_cons.mp m2 with w | w
        · exact w.symm
        · exact Int.le_antisymm (a1 y w) (b1 x z)
    subst e
    rw [sort_uniq a2 b2 ((List.perm_cons x).mp h)]
def gSorted : List D → Option D
  | [.lst ds] => (asInts ds).bind fun ns => if ns.length < 64 then some (.lst ((sortI ns).map .int)) else none
  | _ => none
theorem c1_sorted {K : PySem.W.Frag} : C1F K (rSorted K) gSorted := fun G H ds d vs Q s r q k => by
  unfold gSorted at q
  split at q
  · obtain ⟨ns, e1, q⟩ := bind_inv q
    split at q
    · rename_i c
      cases q
      obtain ⟨v, rfl, h⟩ := r.one_inv
      obtain ⟨a, us, rfl, h1, h2⟩ := h.lst s
      have e3 := asInts_inv e1
      subst e3
      have e4 := RepL.ints.mp h2
      subst e4
      refine ⟨a, ns, rfl, h1, c, fun ns' p hp hs np => ?_⟩
      have : ns' = sortI ns := sort_uniq hs (sortI_sorted ns) (hp.trans (sortI_perm ns).symm)
      subst this
      have g := Grow.out (o := .lst ((sortI ns).map V.int)) s np
      exact k p G _ g np (s.free np) ⟨_, upd_same, RepL.ints.mpr rfl⟩
    · cases q
  · cases q
theorem df_sorted (hx : Gl X "sorted") (hm : X.mg "sorted" = none) (ha : DP X a fa) (h1 : starEach [a] X.env = [(false, eval a X.env)] := by rfl) : DF X (.Call (.Name "sorted" p) [a] [] pos) (eCB gSorted (aCons fa aNil)) :=
  df_cb c1_sorted cr_sorted hx hm (by decide +kernel) (dpa_cons ha dpa_nil h1) (he := h1)

/-! #### tuple, list -/
def gTuple : List D → Option D
  | [.lst ds] => some (.tup ds)
  | [.tup ds] => some (.tup ds)
  | _ => none
theorem de_tupleOf (hx : Gl X "tuple") (hm : X.mg "tuple" = none) (ha : DP X a fa) (h1 : starEach [a] X.env = [(false, eval a X.env)] := by rfl) : DE X (.Call (.Name "tuple" p) [a] [] pos) (eCB gTuple (aCons fa aNil)) :=
  de_ct (fun G H ds d vs Q s r q k => by
    unfold gTuple at q
    split at q
    · cases q
      obtain ⟨v, rfl, h⟩ := r.one_inv
      obtain ⟨a, us, rfl, h1, h2⟩ := h.lst s
      refine ⟨a, us, rfl, .inl ⟨h1, fun l nl => ?_⟩⟩
      have g := Grow.new (o := .tup us) s nl
      exact k _ _ _ g (rep_tup.mpr ⟨l, us, rfl, upd_same, h2.mono g.g⟩)
    · cases q
      obtain ⟨v, rfl, h⟩ := r.one_inv
      obtain ⟨a, us, rfl, h1, h2⟩ := h.tup
      exact ⟨a, us, rfl, .inr ⟨SqT.of (s _ _ h1), k _ G H (.refl s) (rep_tup.mpr ⟨a, us, rfl, h1, h2⟩)⟩⟩
    · cases q) call_tuple_of hx hm (by decide +kernel) (dpa_cons ha dpa_nil h1) (he := h1)
def gList : List D → Option D
  | [.lst ds] => some (.lst ds)
  | [.tup ds] => some (.lst ds)
  | _ => none
theorem df_listOf (hx : Gl X "list") (hm : X.mg "list" = none) (ha : DP X a fa) (h1 : starEach [a] X.env = [(false, eval a X.env)] := by rfl) : DF X (.Call (.Name "list" p) [a] [] pos) (eCB gList (aCons fa aNil)) :=
  df_ct (fun G H ds d vs Q s r q k => by
    unfold gList at q
    split at q
    · cases q
      obtain ⟨v, rfl, h⟩ := r.one_inv
      obtain ⟨a, us, rfl, h1, h2⟩ := h.lst s
      refine ⟨a, us, rfl, .inl h1, fun l nl => ?_⟩
      have g := Grow.out (o := .lst us) s nl
      exact k l G _ g nl (s.free nl) ⟨us, upd_same, h2⟩
    · cases q
      obtain ⟨v, rfl, h⟩ := r.one_inv
      obtain ⟨a, us, rfl, h1, h2⟩ := h.tup
      refine ⟨a, us, rfl, .inr (SqT.of (s _ _ h1)), fun l nl => ?_⟩
      have g := Grow.out (o := .lst us) s nl
      exact k l G _ g nl (s.free nl) ⟨us, upd_same, h2⟩
    · cases q) call_list_of hx hm (by decide +kernel) (dpa_cons ha dpa_nil h1) (he := h1)

/-! #### int, all, any -/
def gInt : List D → Option D
  | [.int i] => some (.int i)
  | [.bl b] => some (.int (if b then 1 else 0))
  | _ => none
theorem de_intOf (hx : Gl X "int") (hm : X.mg "int" = none) (ha : DP X a fa) (h1 : starEach [a] X.env = [(false, eval a X.env)] := by rfl) : DE X (.Call (.Name "int" p) [a] [] pos) (eCB gInt (aCons fa aNil)) :=
  de_ct (fun G H ds d vs Q s r q k => by
    unfold gInt at q
    split at q
    · cases q
      obtain ⟨v, rfl, h⟩ := r.one_inv
      exact .inl ⟨_, by rw [prep_int.mp h], k _ G H (.refl s) (rep_int.mpr rfl)⟩
    · cases q
      obtain ⟨v, rfl, h⟩ := r.one_inv
      exact .inr ⟨_, by rw [prep_bl.mp h], k _ G H (.refl s) (rep_int.mpr rfl)⟩
    · cases q) call_int1 hx hm (by decide +kernel) (dpa_cons ha dpa_nil h1) (he := h1)
def gAll : List D → Option D
  | [.lst ds] => (asBools ds).map fun bs => .bl (bs.all id)
  | _ => none
def gAny : List D → Option D
  | [.lst ds] => (asBools ds).map fun bs => .bl (bs.any id)
  | _ => none
theorem de_all (hc : X.calm = true) (hx : Gl X "all") (hm : X.mg "all" = none) (ha : DP X a fa) (h1 : starEach [a] X.env = [(false, eval a X.env)] := by rfl) : DE X (.Call (.Name "all" p) [a] [] pos) (eCB gAll (aCons fa aNil)) :=
  de_cb (fun G H ds d vs Q s r q k => by
    unfold gAll at q
    split at q
    · obtain ⟨ns, e1, e2⟩ := map_inv q
      subst e2
      obtain ⟨v, rfl, h⟩ := r.one_inv
      obtain ⟨a, us, rfl, h1, h2⟩ := h.lst s
      have e3 := asBools_inv e1
      subst e3
      have e4 := RepL.bls.mp h2
      subst e4
      exact ⟨a, ns, rfl, h1, k _ G H (.refl s) (rep_bl.mpr rfl)⟩
    · cases q) (cr_all hc) hx hm (by decide +kernel) (dpa_cons ha dpa_nil h1) (he := h1)
theorem de_any (hc : X.calm = true) (hx : Gl X "any") (hm : X.mg "any" = none) (ha : DP X a fa) (h1 : starEach [a] X.env = [(false, eval a X.env)] := by rfl) : DE X (.Call (.Name "any" p) [a] [] pos) (eCB gAny (aCons fa aNil)) :=
  de_cb (fun G H ds d vs Q s r q k => by
    unfold gAny at q
    split at q
    · obtain ⟨ns, e1, e2⟩ := map_inv q
      subst e2
      obtain ⟨v, rfl, h⟩ := r.one_inv
      obtain ⟨a, us, rfl, h1, h2⟩ := h.lst s
      have e3 := asBools_inv e1
      subst e3
      have e4 := RepL.bls.mp h2
      subst e4
      exact ⟨a, ns, rfl, h1, k _ G H (.refl s) (rep_bl.mpr rfl)⟩
    · cases q) (cr_any hc) hx hm (by decide +kernel) (dpa_cons ha dpa_nil h1) (he := h1)

/-! #### isinstance with a built-in type -/
def kindD : D → Option String
  | .non => some "NoneType"
  | .bl _ => some "bool"
  | .int _ => some "int"
  | .str _ => some "str"
  | .lst _ => some "list"
  | .tup _ => some "tuple"
  | _ => none
theorem kind_nd {d : D} {t : String} (h : kindD d = some t) : isDicD d = false := by
  cases d <;> first | rfl | (simp [kindD] at h)
theorem kind_tyx {K : PySem.W.Frag} {H : Hp} {d : D} {v : V} {t : String} (h : kindD d = some t) (r : Rep K H d v) : TyX K H v (.type t) := by
  cases d <;> simp only [kindD] at h <;> first | (cases h; done) | skip
  · cases h; simp at r; subst r; exact .base .non
  · cases h; simp at r; subst r; exact .base (.bl _)
  · cases h; simp at r; subst r; exact .base (.int _)
  · cases h; simp at r; subst r; exact .base (.str _)
  · cases h
    obtain ⟨a, vs, rfl, h1, h2⟩ := rep_lst.mp r
    rcases h1 with (h1 | ⟨o, h1⟩) | ⟨o, its, n, h1, h3, _⟩
    · exact .base (.lst h1)
    · exact .base (.frz h1)
    · exact .kList h1 h3
  · cases h
    obtain ⟨a, vs, rfl, h1, h2⟩ := rep_tup.mp r
    exact .base (.tup h1)
def gIsi : List D → Option D
  | [d, .ty n] => (kindD d).bind fun t => (kitB t n).map .bl
  | _ => none
theorem de_isi (hx : Gl X "isinstance") (hm : X.mg "isinstance" = none) (ha : DP X a fa) (hb : DP X b fb) (h1 : starEach [b] X.env = [(false, eval b X.env)] := by rfl) (h2 : starEach [a, b] X.env = (false, eval a X.env) :: starEach [b] X.env := by rfl)
    (h3 : (backTo pos (starEach [b] X.env)).any (·.1) = false := by rfl) : DE X (.Call (.Name "isinstance" p) [a, b] [] pos) (eCB gIsi (aCons fa (aCons fb aNil))) :=
  de_cb (fun G H ds d vs Q s r q k => by
    unfold gIsi at q
    split at q
    · obtain ⟨t, e1, q⟩ := bind_inv q
      obtain ⟨c, e2, e3⟩ := map_inv q
      subst e3
      obtain ⟨v, u, rfl, r1, r2⟩ := r.two_inv
      rw [prep_ty.mp r2]
      exact ⟨v, _, _, _, c, rfl, .ty _, kind_tyx e1 (r1.rep s (kind_nd e1)), kit_ty e2, k _ G H (.refl s) (rep_bl.mpr rfl)⟩
    · cases q) call_isi hx hm (by decide +kernel) (dpa_cons ha (dpa_cons hb dpa_nil h1) h2) (he := h2) (hpl := h3)
theorem de_type {x : Str} {n : String} (hx : Gl X x) (hm : X.mg x = none) (hv : bootBuiltins x = some (.type n)) (hn : x ≠ "__name__" := by decide) (hdb : (x == ("__debug__" : Str)) = false := by decide) : DE X (.Name x pos) (eK (.ty n)) :=
  de_const (pe_bltn (v := .ty n) hx hm hv rfl hn hdb) fun _ => rep_ty.mpr rfl
end
end DL
namespace DL
open PySem PySem.Spec PyProof.Rows L2

/-- how a statement ends -/
inductive R where
  | nx (ρ : DEnv) | rt (d : D) | bk (ρ : DEnv) | ct (ρ : DEnv) | bad
abbrev FS := DEnv → R
def postS (K : PySem.W.Frag) (G0 : Ent) (H0 G : Hp) (D : Ends) : R → Prop
  | .nx ρ => ∀ σ G' H, DSt K G0 H0 G' H σ ρ → Same G G' → D.nx σ H
  | .rt d => ∀ v G' H, Grow G0.g H0 G' H → Rep K G' d v → D.rt v H
  | .bk ρ => ∀ σ G' H, DSt K G0 H0 G' H σ ρ → Same G G' → D.bk σ H
  | .ct ρ => ∀ σ G' H, DSt K G0 H0 G' H σ ρ → Same G G' → D.ct σ H
  | .bad => False
theorem postS.mono {K : PySem.W.Frag} {G0 : Ent} {H0 G G' : Hp} {D : Ends} (g : Same G G') : ∀ {r : R}, postS K G0 H0 G D r → postS K G0 H0 G' D r
  | .nx ρ, q => fun σ G2 H s g2 => q σ G2 H s (g.trans g2)
  | .rt d, q => q
  | .bk ρ, q => fun σ G2 H s g2 => q σ G2 H s (g.trans g2)
  | .ct ρ, q => fun σ G2 H s g2 => q σ G2 H s (g.trans g2)
  | .bad, q => q
def liftS (K : PySem.W.Frag) (f : FS) : TS := fun D σ H => ∃ G0 H0 G ρ, DSt K G0 H0 G H σ ρ ∧ postS K G0 H0 G D (f ρ)
def DS (X : Cx) (st : Stmt) (f : FS) : Prop := PS X st (liftS X.K f)
def DSs (X : Cx) (st : List Stmt) (f : FS) : Prop := PSs X st (liftS X.K f)

section
variable {X : Cx} {st : Stmt} {rest : List Stmt} {e a b : Expr} {f g : FS} {fa fb : FE} {pos pos' : Pos}
def xPass : FS := .nx
def xSeq (f g : FS) : FS := fun ρ => match f ρ with
  | .nx ρ' => g ρ'
  | r => r
theorem dss_nil : DSs X [] xPass := PSs.imp pss_nil fun D σ H ⟨G0, H0, G, ρ, s, q⟩ => q σ G H s (.refl _)
theorem dss_cons (h1 : DS X st f) (h2 : DSs X rest g) : DSs X (st :: rest) (xSeq f g) := PSs.imp (pss_cons h1 h2) fun D σ H ⟨G0, H0, G, ρ, s, q⟩ => by
  refine ⟨G0, H0, G, ρ, s, ?_⟩
  unfold xSeq at q
  cases z : f ρ with
  | nx ρ' => rw [z] at q; exact fun σ' G' H' s' g => ⟨G0, H0, G', ρ', s', q.mono g⟩
  | rt d => rw [z] at q; exact q
  | bk ρ' => rw [z] at q; exact q
  | ct ρ' => rw [z] at q; exact q
  | bad => rw [z] at q; exact q
theorem dss_one (h1 : DS X st f) : DSs X [st] f := PSs.imp (pss_one h1) fun D σ H h => h
theorem ds_pass : DS X (.Pass pos) xPass := PS.imp ps_pass fun D σ H ⟨G0, H0, G, ρ, s, q⟩ => q σ G H s (.refl _)
theorem ds_break : DS X (.Break pos) R.bk := PS.imp ps_break fun D σ H ⟨G0, H0, G, ρ, s, q⟩ => q σ G H s (.refl _)
theorem ds_continue : DS X (.Continue pos) R.ct := PS.imp ps_continue fun D σ H ⟨G0, H0, G, ρ, s, q⟩ => q σ G H s (.refl _)
/-- what is not come to -/
def xNever : FS := fun _ => .bad
theorem ds_never : DS X st xNever := PS.imp ps_never fun D σ H ⟨G0, H0, G, ρ, s, q⟩ => q
theorem dss_never {sts : List Stmt} : DSs X sts xNever := PSs.imp pss_never fun D σ H ⟨G0, H0, G, ρ, s, q⟩ => q
/-- own objects join what stays -/
def frzAt (i : Nat) (ρ : DEnv) : DEnv := match ρ[i]? with
  | some (some (.own d)) => ρ.set i (some (.val d))
  | _ => ρ
theorem PS.lock {t : TS} (h : PS X st t) : PS X st (fun D σ H => t D σ H ∨ ∃ d u, H d = some u ∧ Mut (some u) ∧ ∀ od, t D σ (upd H d (.frz od u))) := ⟨fun pins s σ H D I w => by
  rcases w with w | ⟨d, u, hd, mu, w⟩
  · exact h.run pins s σ H D I w
  · obtain ⟨od, I2⟩ := I.lock hd mu
    exact h.run pins s σ _ D I2 (w od)⟩
def xFrz1 (i : Nat) (f : FS) : FS := fun ρ => f (frzAt i ρ)
theorem ds_frz1 (i : Nat) (h : DS X st f) : DS X st (xFrz1 i f) := PS.imp (PS.lock h) fun D σ H ⟨G0, H0, G, ρ, s, q⟩ => by
  unfold xFrz1 frzAt at q
  split at q
  · rename_i d z
    cases hd : isDicD d with
    | false =>
      obtain ⟨G', s', g⟩ := s.freeze z hd
      exact .inl ⟨G0, H0, G', _, s', q.mono g⟩
    | true =>
      obtain ⟨p, ep, h0, hg, r⟩ := s.own i d z
      cases d with
      | dic ks ds =>
        obtain ⟨vs, h1, h2, h3⟩ := r
        refine .inr ⟨p, _, h1, True.intro, fun od => ?_⟩
        obtain ⟨s', g⟩ := s.freezeAs z ep (u := .frz od (.dT (ks.zip vs))) (rep_dic.mpr ⟨p, od, vs, rfl, upd_same, h2, h3.mono (same_upd hg)⟩)
        exact ⟨G0, H0, _, _, s', q.mono g⟩
      | dik ks ds =>
        obtain ⟨vs, h1, h2, h3⟩ := r
        refine .inr ⟨p, _, h1, True.intro, fun od => ?_⟩
        obtain ⟨s', g⟩ := s.freezeAs z ep (u := .frz od (.dK (ks.zip vs))) (rep_dik.mpr ⟨p, od, vs, rfl, upd_same, h2, h3.mono (same_upd hg)⟩)
        exact ⟨G0, H0, _, _, s', q.mono g⟩
      | _ => cases hd
  · exact .inl ⟨G0, H0, G, ρ, s, q⟩
def xFrz : List Nat → FS → FS
  | [], f => f
  | i :: l, f => xFrz1 i (xFrz l f)
theorem ds_frz : ∀ (l : List Nat), DS X st f → DS X st (xFrz l f)
  | [], h => h
  | i :: l, h => ds_frz1 i (ds_frz l h)
theorem DSt.frz {K : PySem.W.Frag} {G0 : Ent} {H0 G H : Hp} {σ : L2.St} {ρ : DEnv} (s : DSt K G0 H0 G H σ ρ) (i : Nat) (hn : ∀ d, ρ[i]? = some (some (.own d)) → isDicD d = false) : ∃ G', DSt K G0 H0 G' H σ (frzAt i ρ) ∧ Same G G' := by
  unfold frzAt
  split
  · rename_i d z; exact s.freeze z (hn _ z)
  · exact ⟨G, s, .refl _⟩

/-! ### if, return, expressions -/
def xIf (t : FT) (f g : FS) : FS := fun ρ => match t ρ with
  | some true => f ρ
  | some false => g ρ
  | none => .bad
theorem ds_if {c : Expr} {p q : List Stmt} {t : FT} (hc : DT X c t) (ha : DSs X p f) (hb : DSs X q g) : DS X (.If c p q pos) (xIf t f g) := PS.imp (ps_if hc ha hb) fun D σ H ⟨G0, H0, G, ρ, s, q⟩ => by
  unfold xIf at q
  cases z : t ρ with
  | none => rw [z] at q; exact q.elim
  | some b =>
    rw [z] at q
    refine ⟨G0, H0, G, ρ, b, s, z, fun G1 H1 g1 => ?_⟩
    cases b with
    | true => exact iteT ⟨G0, H0, G1, ρ, s.grow g1, q.mono g1.g⟩
    | false => exact iteF ⟨G0, H0, G1, ρ, s.grow g1, q.mono g1.g⟩
def xRet (fa : FE) : FS := fun ρ => match fa ρ with
  | some d => .rt d
  | none => .bad
theorem ds_ret (ha : DE X e fa) : DS X (.Return (some e) pos) (xRet fa) := PS.imp (ps_ret ha) fun D σ H ⟨G0, H0, G, ρ, s, q⟩ => by
  unfold xRet at q
  cases z : fa ρ with
  | none => rw [z] at q; exact q.elim
  | some d =>
    rw [z] at q
    exact ⟨G0, H0, G, ρ, d, s, z, fun v G' H' g r => q v G' H' (s.gr.trans g) r⟩
/-- return of an own object (no dict): it joins what stays -/
def rName (i : Nat) : FE := fun ρ => (pName i ρ).bind fun d => if isDicD d = true then none else some d
theorem ds_retO (i : Nat) {x : Str} {p : Pos} (hN : X.N[i]? = some x := by rfl) (hv : Vis X.env.scope x := by first | exact Or.inl rfl | exact Or.inr (Or.inl rfl) | exact Or.inr (Or.inr rfl)) (hd : (x == ("__debug__" : Str)) = false := by decide)
    (hcd : (x == ("__classdict__" : Str)) = false := by decide) : DS X (.Return (some (.Name x p)) pos) (xRet (rName i)) := PS.imp (ps_ret (de_name i hN hv hd hcd)) fun D σ H ⟨G0, H0, G, ρ, s, q⟩ => by
  unfold xRet at q
  cases z0 : rName i ρ with
  | none => rw [z0] at q; exact q.elim
  | some d =>
    rw [z0] at q
    obtain ⟨d', z, z1⟩ := bind_inv z0
    split at z1
    · cases z1
    rename_i nd
    cases z1
    obtain ⟨G', s', _⟩ := s.frz i (fun d2 e2 => by
      rcases pName_inv z with y | y
      · rw [y] at e2; cases e2
      · rw [y] at e2; cases e2; exact Bool.eq_false_iff.mpr nd)
    refine ⟨G0, H0, G', frzAt i ρ, d, s', ?_, fun v G2 H2 g r => q v G2 H2 (s'.gr.trans g) r⟩
    rcases pName_inv z with y | y
    · unfold frzAt eName; rw [y]; simp [y]
    · have hl : i < ρ.length := (List.getElem?_eq_some_iff.mp y).1
      unfold frzAt eName; rw [y]; simp [hl]
theorem ds_retN : DS X (.Return none pos) (fun _ => .rt .non) := PS.imp ps_retN fun D σ H ⟨G0, H0, G, ρ, s, q⟩ => q .non G H s.gr (rep_non.mpr rfl)
def xDrop (fa : FE) : FS := fun ρ => match fa ρ with
  | some _ => .nx ρ
  | none => .bad
theorem ds_expr (ha : DE X e fa) (hs : swapsWith e none pos.line X.env = pure false := by rfl) : DS X (.Expr e pos) (xDrop fa) := PS.imp (ps_expr ha hs) fun D σ H ⟨G0, H0, G, ρ, s, q⟩ => by
  unfold xDrop at q
  cases z : fa ρ with
  | none => rw [z] at q; exact q.elim
  | some d =>
    rw [z] at q
    exact ⟨G0, H0, G, ρ, d, s, z, fun v G' H' g r => q σ G' H' (s.grow g) g.g⟩

/-! ### names stored -/
def xSet (i : Nat) (fa : FE) : FS := fun ρ => match fa ρ with
  | some d => .nx (ρ.set i (some (.val d)))
  | none => .bad
def xNew (i : Nat) (fa : FE) : FS := fun ρ => match fa ρ with
  | some d => if i ≠ 0 ∨ isObjD d = false then .nx (ρ.set i (some (.own d))) else .bad
  | none => .bad
theorem liftSet {K : PySem.W.Frag} {i : Nat} {D : Ends} {σ : L2.St} {H : Hp} (h : liftS K (xSet i fa) D σ H) : tAsg (liftE K fa) (gName i) D σ H := by
  obtain ⟨G0, H0, G, ρ, s, q⟩ := h
  unfold xSet at q
  cases z : fa ρ with
  | none => rw [z] at q; exact q.elim
  | some d =>
    rw [z] at q
    exact ⟨G0, H0, G, ρ, d, s, z, fun v G' H' g r => q _ G' H' ((s.grow g).setVal r) g.g⟩
theorem liftNew {K : PySem.W.Frag} {i : Nat} {D : Ends} {σ : L2.St} {H : Hp} (h : liftS K (xNew i fa) D σ H) : tAsg (liftF K fa) (gName i) D σ H := by
  obtain ⟨G0, H0, G, ρ, s, q⟩ := h
  unfold xNew at q
  cases z : fa ρ with
  | none => rw [z] at q; exact q.elim
  | some d =>
    rw [z] at q
    dsimp only at q
    split at q
    case isFalse => exact q.elim
    rename_i hs
    refine ⟨G0, H0, G, ρ, d, s, z, fun p G' H' g n1 n2 r => q _ G' H' ((s.grow g).setOwn (s.gr.h.free n1) n2 r (fun j x hj e1 e2 => ?_) hs) g.g⟩
    obtain ⟨p', ep, h0, hg, rr⟩ := s.own j x e1
    rw [e2] at ep
    cases ep
    exact rr.there n1
theorem ds_set (i : Nat) {x : Str} (hN : X.N.Nodup) (he : DE X e fa) (hi : X.N[i]? = some x := by rfl) (hx : Loc X.env.scope x := by first | exact Or.inl rfl | exact Or.inr rfl) (hs : swapsWith e (some (.Name x pos')) pos.line X.env = pure false := by rfl)
    (hf : X.fn x = true ∨ X.env.scope.names.lookup x = some .local := by first | exact .inl rfl | exact .inr rfl) : DS X (.Assign [.Name x pos'] e pos) (xSet i fa) :=
  PS.imp (ps_set hN hi hx he hs hf) fun D σ H h => liftSet h
theorem ds_new (i : Nat) {x : Str} (hN : X.N.Nodup) (he : DF X e fa) (hi : X.N[i]? = some x := by rfl) (hx : Loc X.env.scope x := by first | exact Or.inl rfl | exact Or.inr rfl) (hs : swapsWith e (some (.Name x pos')) pos.line X.env = pure false := by rfl)
    (hf : X.fn x = true ∨ X.env.scope.names.lookup x = some .local := by first | exact .inl rfl | exact .inr rfl) : DS X (.Assign [.Name x pos'] e pos) (xNew i fa) :=
  PS.imp (ps_set hN hi hx he hs hf) fun D σ H h => liftNew h

/-! ### targets -/
abbrev FG := D → DEnv → Option DEnv
abbrev FGs := List D → DEnv → Option DEnv
theorem wipe_get {σ : L2.St} : ∀ {vs : List Nat} {j : Nat}, (wipe σ vs)[j]? = if j ∈ vs then σ[j]?.map (fun _ => none) else σ[j]?
  | [], j => by simp [wipe]
  | v :: vs, j => by
    unfold wipe
    by_cases h : v = j
    · subst h
      by_cases hl : v < σ.length
      · rw [List.getElem?_set_self (by rw [wipe_length]; exact hl)]
        simp [hl]
      · rw [List.getElem?_eq_none (by rw [List.length_set, wipe_length]; omega)]
        simp [hl]
    · rw [List.getElem?_set_ne h, wipe_get]
      have : j ≠ v := fun e => h e.symm
      simp [this]
theorem wipe_set {σ : L2.St} {vs : List Nat} {i : Nat} {x : Option V} (h : i ∈ vs) : wipe (σ.set i x) vs = wipe σ vs := by
  apply List.ext_getElem?
  intro j
  rw [wipe_get, wipe_get]
  by_cases e : i = j
  · subst e
    by_cases hl : i < σ.length
    · simp [h, hl]
    · simp [h, hl]
  · rw [List.getElem?_set_ne e]
/-- vs: the slots that the target may store to -/
def liftG (K : PySem.W.Frag) (vs : List Nat) (g : FG) : TG := fun v σ H Q => ∃ G0 H0 G ρ d ρ', DSt K G0 H0 G H σ ρ ∧ Rep K G d v ∧ g d ρ = some ρ' ∧ ∀ σ' G' H', DSt K G0 H0 G' H' σ' ρ' → Grow G H G' H' → wipe σ' vs = wipe σ vs → Q σ' H'
def liftGs (K : PySem.W.Frag) (us : List Nat) (g : FGs) : TGs := fun vs σ H Q => ∃ G0 H0 G ρ ds ρ', DSt K G0 H0 G H σ ρ ∧ RepL K G ds vs ∧ g ds ρ = some ρ' ∧ ∀ σ' G' H', DSt K G0 H0 G' H' σ' ρ' → Grow G H G' H' → wipe σ' us = wipe σ us → Q σ' H'
def DGt (X : Cx) (vs : List Nat) (tg : Expr) (g : FG) : Prop := PG X tg (liftG X.K vs g)
def DGts (X : Cx) (vs : List Nat) (tg : List Expr) (g : FGs) : Prop := PGs X tg (liftGs X.K vs g)
theorem PGs.imp {X : Cx} {e : List Expr} {t t' : TGs} (h : PGs X e t) (q : ∀ v σ H Q, t' v σ H Q → t v σ H Q) : PGs X e t' := ⟨fun pins s σ H v u Q I r w => h.run pins s σ H v u Q I r (q v σ H Q w)⟩
theorem PG.or {X : Cx} {e : Expr} {t t' : TG} (h : PG X e t) (h' : PG X e t') : PG X e (fun v σ H Q => t v σ H Q ∨ t' v σ H Q) := ⟨fun pins s σ H v u Q I r w => by
  rcases w with w | w
  · exact h.run pins s σ H v u Q I r w
  · exact h'.run pins s σ H v u Q I r w⟩
def gtName (i : Nat) : FG := fun d ρ => some (ρ.set i (some (.val d)))
def gtNil : FGs := fun ds ρ => match ds with
  | [] => some ρ
  | _ => none
def gtCons (g : FG) (gs : FGs) : FGs := fun ds ρ => match ds with
  | d :: ds => (g d ρ).bind fun ρ' => gs ds ρ'
  | [] => none
def gtTup (n : Nat) (gs : FGs) : FG := fun d ρ => match d with
  | .tup ds => if ds.length = n then gs ds ρ else none
  | .lst ds => if ds.length = n then gs ds ρ else none
  | _ => none
variable {vs : List Nat}
theorem dg_name (i : Nat) {x : Str} {p : Pos} (hN : X.N.Nodup) (hi : X.N[i]? = some x := by rfl) (hx : Loc X.env.scope x := by first | exact Or.inl rfl | exact Or.inr rfl)
    (hf : X.fn x = true ∨ X.env.scope.names.lookup x = some .local := by first | exact .inl rfl | exact .inr rfl) (hv : i ∈ vs := by decide) : DGt X vs (.Name x p) (gtName i) :=
  PG.imp (pg_name hN hi hx hf) fun v σ H Q ⟨G0, H0, G, ρ, d, ρ', s, r, q, k⟩ => by
    cases q
    exact k _ G H (s.setVal r) (.refl s.sub) (wipe_set hv)
theorem dgs_nil : DGts X vs [] gtNil := PGs.imp pgs_nil fun v σ H Q ⟨G0, H0, G, ρ, ds, ρ', s, r, q, k⟩ => by
  cases ds with
  | nil => cases q; exact ⟨r.nil_inv, k σ G H s (.refl s.sub) rfl⟩
  | cons _ _ => cases q
theorem dgs_cons {es : List Expr} {g : FG} {gs : FGs} (h1 : DGt X vs e g) (h2 : DGts X vs es gs) (hs : (assignEach (e :: es) X.env).map (·.2) = assign e X.env :: (assignEach es X.env).map (·.2) := by rfl) : DGts X vs (e :: es) (gtCons g gs) :=
  PGs.imp (pgs_cons h1 h2 hs) fun v σ H Q ⟨G0, H0, G, ρ, ds, ρ', s, r, q, k⟩ => by
    cases ds with
    | nil => cases q
    | cons d ds =>
      obtain ⟨x, vr, rfl, r1, r2⟩ := r.cons_inv
      obtain ⟨ρ1, q1, q2⟩ := bind_inv q
      refine ⟨x, vr, rfl, G0, H0, G, ρ, d, ρ1, s, r1, q1, fun σ1 G1 H1 s1 g1 w1 => ⟨G0, H0, G1, ρ1, ds, ρ', s1, r2.mono g1.g, q2, fun σ' G' H' s' g' w2 => k σ' G' H' s' (g1.trans g') (w2.trans w1)⟩⟩
theorem dg_tup {es : List Expr} {kk n : Nat} {gs : FGs} (hc : X.calm = true) (h : DGts X vs es gs) (hn : (assignEach es X.env).length = n := by rfl) (hst : (assignEach es X.env).findIdx? (·.1) = none := by rfl) : DGt X vs (.Tuple es kk pos) (gtTup n gs) :=
  PG.imp (PG.or (pg_tup hc h hn hst) (pg_unl hc h hn hst)) fun v σ H Q ⟨G0, H0, G, ρ, d, ρ', s, r, q, k⟩ => by
    unfold gtTup at q
    split at q
    · rename_i ds
      split at q
      · rename_i c
        obtain ⟨a, vs, rfl, h1, h2⟩ := rep_tup.mp r
        exact .inl ⟨a, vs, rfl, SqT.of (s.sub _ _ h1), by rw [h2.len]; exact c, G0, H0, G, ρ, ds, ρ', s, h2, q, k⟩
      · cases q
    · rename_i ds
      split at q
      · rename_i c
        obtain ⟨a, vs, rfl, h1, h2⟩ := rep_lst.mp r
        exact .inr ⟨a, vs, rfl, s.sub.seq h1, by rw [h2.len]; exact c, G0, H0, G, ρ, ds, ρ', s, h2, q, k⟩
      · cases q
    · cases q
def xAsg (fa : FE) (g : FG) : FS := fun ρ => match (fa ρ).bind fun d => g d ρ with
  | some ρ' => .nx ρ'
  | none => .bad
theorem ds_asg {tg : Expr} {g : FG} (he : DE X e fa) (hg : DGt X vs tg g) (hs : swapsWithSole [tg] e pos.line X.env = pure false := by rfl) (hw : swappedStores [tg] e X.env = pure none := by rfl)
    (h1 : (assignEach [tg] X.env).map (·.2) = [assign tg X.env] := by rfl) : DS X (.Assign [tg] e pos) (xAsg fa g) :=
  PS.imp (ps_asg he hg hs hw h1) fun D σ H ⟨G0, H0, G, ρ, s, q⟩ => by
    unfold xAsg at q
    cases z : (fa ρ).bind fun d => g d ρ with
    | none => rw [z] at q; exact q.elim
    | some ρ' =>
      rw [z] at q
      obtain ⟨d, e1, e2⟩ := bind_inv z
      exact ⟨G0, H0, G, ρ, d, s, e1, fun v G' H' gg r => ⟨G0, H0, G', ρ, d, ρ', s.grow gg, r, e2, fun σ' G2 H2 s2 g2 _ => q σ' G2 H2 s2 (gg.g.trans g2.g)⟩⟩

/-! ### name op= e -/
def xAug (i : Nat) (g : D → D → Option D) (fa : FE) : FS := fun ρ => match (eName i ρ).bind fun x => (fa ρ).bind fun y => g x y with
  | some d => .nx (ρ.set i (some (.val d)))
  | none => .bad
def IpD (K : PySem.W.Frag) (t : TIp) (g : D → D → Option D) : Prop :=
  ∀ (G H : Hp) (x y d : D) (v u : V) (Q : VK), Same G H → Rep K G x v → Rep K G y u → g x y = some d → (∀ w G' H', Grow G H G' H' → Rep K G' d w → Q w H') → t v u H Q
theorem ds_aug (i : Nat) {x : Str} {op : Operator} {t : TIp} {g : D → D → Option D} (hg : IpD X.K t g) (ho : PIp X op t) (hN : X.N.Nodup) (he : DE X e fa) (hi : X.N[i]? = some x := by rfl) (hx : Loc X.env.scope x := by first | exact Or.inl rfl | exact Or.inr rfl)
    (hf : X.fn x = true ∨ X.env.scope.names.lookup x = some .local := by first | exact .inl rfl | exact .inr rfl) : DS X (.AugAssign (.Name x pos') op e pos) (xAug i g fa) :=
  PS.imp (ps_aug hN hi hx he ho hf) fun D σ H ⟨G0, H0, G, ρ, s, q⟩ => by
    unfold xAug at q
    cases z : (eName i ρ).bind fun x => (fa ρ).bind fun y => g x y with
    | none => rw [z] at q; exact q.elim
    | some d =>
      rw [z] at q
      obtain ⟨x, e1, z⟩ := bind_inv z
      obtain ⟨y, e2, z⟩ := bind_inv z
      obtain ⟨v, ev, rv⟩ := s.val i x (eName_inv e1)
      refine ⟨v, ev, G0, H0, G, ρ, y, s, e2, fun u G1 H1 g1 r1 => hg G1 H1 x y d v u _ g1.sub (rv.mono g1.g) r1 z fun w G2 H2 g2 r2 => ?_⟩
      exact q _ G2 H2 ((s.grow (g1.trans g2)).setVal r2) (g1.trans g2).g
def gAddI : D → D → Option D := g2I fun i j => some (.int (i + j))
theorem ipd_int {K : PySem.W.Frag} (p : Int → Int → Int) : IpD K (ipI p) (g2I fun i j => some (.int (p i j))) := fun G H x y d v u Q s r1 r2 q k => by
  obtain ⟨i, j, rfl, rfl, q2⟩ := g2I_inv q
  cases q2
  exact ⟨i, j, rep_int.mp r1, rep_int.mp r2, k _ G H (.refl s) (rep_int.mpr rfl)⟩
theorem ds_augAdd (i : Nat) {x : Str} (hN : X.N.Nodup) (he : DE X e fa) (hi : X.N[i]? = some x := by rfl) (hx : Loc X.env.scope x := by first | exact Or.inl rfl | exact Or.inr rfl)
    (hf : X.fn x = true ∨ X.env.scope.names.lookup x = some .local := by first | exact .inl rfl | exact .inr rfl) : DS X (.AugAssign (.Name x pos') .Add e pos) (xAug i gAddI fa) := ds_aug i (ipd_int _) ip_add hN he hi hx hf
theorem ds_augSub (i : Nat) {x : Str} (hN : X.N.Nodup) (he : DE X e fa) (hi : X.N[i]? = some x := by rfl) (hx : Loc X.env.scope x := by first | exact Or.inl rfl | exact Or.inr rfl)
    (hf : X.fn x = true ∨ X.env.scope.names.lookup x = some .local := by first | exact .inl rfl | exact .inr rfl) : DS X (.AugAssign (.Name x pos') .Sub e pos) (xAug i gSub fa) := ds_aug i (ipd_int _) ip_sub hN he hi hx hf

/-! ### own lists changed -/
/-- x.append(e) -/
def xApp (i : Nat) (fa : FE) : FS := fun ρ => match fa ρ, ρ[i]? with
  | some d, some (some (.own (.lst ds))) => if ds.length < sizeLine then .nx (ρ.set i (some (.own (.lst (ds ++ [d]))))) else .bad
  | _, _ => .bad
/-- the shape of every method of an own list -/
theorem own_list {K : PySem.W.Frag} {G0 : Ent} {H0 G H : Hp} {σ : L2.St} {ρ : DEnv} {i : Nat} {ds : List D} (s : DSt K G0 H0 G H σ ρ) (e : ρ[i]? = some (some (.own (.lst ds)))) : ∃ p vs, σ[i]? = some (some (.ref p)) ∧ H p = some (.lst vs) ∧ RepL K G ds vs := by
  obtain ⟨p, ep, h0, hg, vs, h1, h2⟩ := s.own i _ e
  exact ⟨p, vs, ep, h1, h2⟩
theorem ds_append (i : Nat) (m : PE X e (tBM X.K "list" rAppend (tVar i) (liftA X.K (aCons fa aNil)))) (hs : swapsWith e none pos.line X.env = pure false := by rfl) : DS X (.Expr e pos) (xApp i fa) :=
  PS.imp (ps_expr m hs) fun D σ H ⟨G0, H0, G, ρ, s, q⟩ => by
    unfold xApp at q
    cases z : fa ρ with
    | none => rw [z] at q; exact q.elim
    | some d =>
      rw [z] at q
      split at q
      · rename_i d' ds h1 h2
        cases h1
        split at q
        · rename_i c
          obtain ⟨p, vs, ep, hp, r⟩ := own_list s h2
          refine ⟨.ref p, ep, .inl ⟨rfl, vs, SqL.of hp⟩, G0, H0, G, ρ, [d], s, by unfold aCons aNil; rw [z]; rfl, fun us G1 H1 g1 r1 => ?_⟩
          obtain ⟨u, us', rfl, r2, r3⟩ := r1.cons_inv
          have := r3.nil_inv
          subst this
          have hp1 := g1.h _ _ hp
          refine ⟨p, vs, u, rfl, rfl, hp1, by rw [r.len]; exact c, ?_⟩
          exact q σ G1 _ ((s.grow g1).write h2 ep ⟨_, upd_same, (r.mono g1.g).app (.one r2)⟩) g1.g
        · exact q.elim
      · exact q.elim
/-- x.extend(e), e a new list -/
def xExt (i : Nat) (fa : FE) : FS := fun ρ => match fa ρ, ρ[i]? with
  | some (.lst es), some (some (.own (.lst ds))) => if ds.length + es.length ≤ sizeLine then .nx (ρ.set i (some (.own (.lst (ds ++ es))))) else .bad
  | _, _ => .bad
theorem pa_one {t : TE} (h : PE X e t) (hs : starEach [e] X.env = [(false, eval e X.env)] := by rfl) : PA X [e] (tCons t tNil) := pa_cons h pa_nil hs
theorem ds_extend (i : Nat) (m : PE X e (tBM X.K "list" rExtend (tVar i) (tCons (liftF X.K fa) tNil))) (hs : swapsWith e none pos.line X.env = pure false := by rfl) : DS X (.Expr e pos) (xExt i fa) :=
  PS.imp (ps_expr m hs) fun D σ H ⟨G0, H0, G, ρ, s, q⟩ => by
    unfold xExt at q
    split at q
    · rename_i es ds h1 h2
      split at q
      · rename_i c
        obtain ⟨p, vs, ep, hp, r⟩ := own_list s h2
        refine ⟨.ref p, ep, .inl ⟨rfl, vs, SqL.of hp⟩, G0, H0, G, ρ, _, s, h1, fun o G1 H1 g1 n1 n2 r1 => ?_⟩
        obtain ⟨us, ho, r2⟩ := r1
        have hp1 := g1.h _ _ hp
        refine ⟨p, o, vs, us, rfl, rfl, hp1, ho, by rw [r.len, r2.len]; exact c, ?_⟩
        exact q σ G1 _ ((s.grow g1).write h2 ep ⟨_, upd_same, (r.mono g1.g).app r2⟩) g1.g
      · exact q.elim
    · exact q.elim
/-- x[k] = e, x an own list -/
def xPut (i : Nat) (fi fa : FE) : FS := fun ρ => match fa ρ, fi ρ, ρ[i]? with
  | some d, some (.int k), some (some (.own (.lst ds))) => (match ixN ds.length k with
    | some j => .nx (ρ.set i (some (.own (.lst (ds.set j d)))))
    | none => .bad)
  | _, _, _ => .bad
theorem ds_put (i : Nat) {x : Str} {ix : Expr} {fi : FE} {p tpos : Pos} (he : DE X e fa) (hi' : DP X ix fi) (hN : X.N[i]? = some x := by rfl) (hv : Vis X.env.scope x := by first | exact Or.inl rfl | exact Or.inr (Or.inl rfl) | exact Or.inr (Or.inr rfl)) (hd : (x == ("__debug__" : Str)) = false := by decide)
    (hcd : (x == ("__classdict__" : Str)) = false := by decide)
    (ha : ∀ v, assign (.Subscript (.Name x p) ix tpos) X.env v = (do
      let ov ← holding [v] (eval (.Name x p) X.env)
      let iv ← holding [v, ov] (eval ix X.env)
      standAt tpos
      holding [v, ov, iv] (setItem ov iv v)
      release [v, ov, iv] []) := by intro _; rfl)
    (hs : swapsWithSole [(.Subscript (.Name x p) ix tpos : Expr)] e pos.line X.env = pure false := by rfl) (hw : swappedStores [(.Subscript (.Name x p) ix tpos : Expr)] e X.env = pure none := by rfl)
    (h1 : (assignEach [(.Subscript (.Name x p) ix tpos : Expr)] X.env).map (·.2) = [assign (.Subscript (.Name x p) ix tpos) X.env] := by rfl) : DS X (.Assign [.Subscript (.Name x p) ix tpos] e pos) (xPut i fi fa) :=
  PS.imp (ps_asg he (pg_sub (pe_var hN hv hd hcd) hi' set_list ha) hs hw h1) fun D σ H ⟨G0, H0, G, ρ, s, q⟩ => by
    unfold xPut at q
    split at q
    · rename_i d k ds e1 e2 e3
      split at q
      · rename_i j hj
        obtain ⟨p, vs, ep, hp, r⟩ := own_list s e3
        refine ⟨G0, H0, G, ρ, d, s, e1, fun u G1 H1 g1 r1 => ⟨.ref p, ep, G0, H0, G1, ρ, .int k, s.grow g1, e2, fun v G2 H2 g2 r2 => ?_⟩⟩
        have hp2 := g2.h _ _ (g1.h _ _ hp)
        refine ⟨p, vs, k, j, rfl, by simpa using r2, hp2, by rw [r.len]; exact hj, ?_⟩
        exact q σ G2 _ ((s.grow (g1.trans g2)).write e3 ep ⟨_, upd_same, ((r.mono g1.g).mono g2.g).setAt (r1.mono g2.g) j⟩) (g1.trans g2).g
      · exact q.elim
    · exact q.elim
/-- x.f = e, x an own instance -/
def setF (f : Str) (d : D) : List Str → List D → List Str × List D
  | n :: ns, x :: ds => if f = n then (n :: ns, d :: ds) else let q := setF f d ns ds; (n :: q.1, x :: q.2)
  | ns, ds => (ns ++ [f], ds ++ [d])
def xFld (i : Nat) (cs : List Str) (f : Str) (fa : FE) : FS := fun ρ => match fa ρ, ρ[i]? with
  | some d, some (some (.own (.obj c ns ds))) => if c ∈ cs ∧ ns.length < 1000 then .nx (ρ.set i (some (.own (.obj c (setF f d ns ds).1 (setF f d ns ds).2)))) else .bad
  | _, _ => .bad
theorem setF_len {f : Str} {d : D} : ∀ {ns : List Str} {ds : List D}, ns.length = ds.length → (setF f d ns ds).1.length = (setF f d ns ds).2.length
  | [], [], _ => rfl
  | [], x :: ds, h => by simp at h
  | n :: ns, [], h => by simp at h
  | n :: ns, x :: ds, h => by
    unfold setF
    split
    · simpa using h
    · simpa using setF_len (ns := ns) (ds := ds) (by simpa using h)
theorem setF_rep {K : PySem.W.Frag} {H : Hp} {f : Str} {d : D} {v : V} (r : Rep K H d v) : ∀ {ns : List Str} {ds : List D} {vs : List V}, ns.length = ds.length → RepL K H ds vs → ∃ ws, putF f v (ns.zip vs) = (setF f d ns ds).1.zip ws ∧ RepL K H (setF f d ns ds).2 ws
  | [], [], vs, _, h => by
    rw [h.nil_inv]
    exact ⟨[v], rfl, .one r⟩
  | [], x :: ds, vs, h, _ => by simp at h
  | n :: ns, [], vs, h, _ => by simp at h
  | n :: ns, x :: ds, vs, hl, h => by
    obtain ⟨u, us, rfl, h2, h3⟩ := h.cons_inv
    have e : putF f v ((n :: ns).zip (u :: us)) = if n = f then (n, v) :: ns.zip us else (n, u) :: putF f v (ns.zip us) := rfl
    rw [e]
    unfold setF
    by_cases c : f = n
    · rw [if_pos c, if_pos c.symm]
      exact ⟨v :: us, rfl, .cons r h3⟩
    · rw [if_neg c, if_neg (fun z => c z.symm)]
      obtain ⟨ws, q1, q2⟩ := setF_rep r (by simpa using hl) h3
      exact ⟨u :: ws, by rw [q1]; rfl, .cons h2 q2⟩
theorem zip_len {α β : Type} (l : List α) (m : List β) (h : l.length = m.length) : (l.zip m).length = l.length := by
  rw [List.length_zip, h, Nat.min_self]
theorem ds_fld (i : Nat) (cs : List Str) {x f : Str} {p : Pos} (hc : ∀ c ∈ cs, CFact X.K c f) (he : DE X e fa) (hN : X.N[i]? = some x := by rfl) (hv : Vis X.env.scope x := by first | exact Or.inl rfl | exact Or.inr (Or.inl rfl) | exact Or.inr (Or.inr rfl)) (hd : (x == ("__debug__" : Str)) = false := by decide)
    (hcd : (x == ("__classdict__" : Str)) = false := by decide) (hs : swapsWith e (some (.Attribute (.Name x p) f pos')) pos.line X.env = pure false := by rfl) : DS X (.Assign [.Attribute (.Name x p) f pos'] e pos) (xFld i cs f fa) :=
  PS.imp (ps_fld (pe_var hN hv hd hcd) he hs) fun D σ H ⟨G0, H0, G, ρ, s, q⟩ => by
    unfold xFld at q
    split at q
    · rename_i d c ns ds h1 h2
      split at q
      · rename_i hcc
        obtain ⟨p, ep, h0, hg, dx, vs, hp, hl, r⟩ := s.own i _ h2
        refine ⟨G0, H0, G, ρ, d, s, h1, fun v G1 H1 g1 r1 => ⟨.ref p, ep, p, _, dx, _, rfl, g1.h _ _ hp, (hc c hcc.1).cls, (hc c hcc.1).no, ?_, ?_⟩⟩
        · rw [zip_len _ _ (by rw [r.len]; exact hl)]; exact hcc.2
        · obtain ⟨ws, w1, w2⟩ := setF_rep (f := f) r1 hl (r.mono g1.g)
          rw [w1]
          exact q σ G1 _ ((s.grow g1).write h2 ep ⟨dx, ws, upd_same, setF_len hl, w2⟩) g1.g
      · exact q.elim
    · exact q.elim
end
end DL
namespace DL
open PySem PySem.Spec PyProof.Rows L2

/-! ### iterators of new tuples -/
/-- what a turn yields: a new tuple vs -/
def Gives (J : It) (i : Nat) (H : Hp) (s : Shared) (v : Value) (h' : Heap) : Prop :=
  ∃ T vs its, v = .ref T ∧ s.heap.objs.size ≤ T ∧ h'.IsTuple T (List.toArray its) ∧ Vals vs its ∧ vs.length ≤ 1000 ∧ (H T = none → J.yld i H (.ref T) (upd H T (.tup vs)))
theorem turn_of {P : Program} {w : World} {K : PySem.W.Frag} {tg : Expr} {J : It} {fp wr : List Addr} {it : Addr} {tn : Nat → Heap → Prop}
    (mem : it ∈ fp) (sub : ∀ b ∈ wr, b ∈ fp) (obj : ∀ i h, tn i h → ∀ b ∈ fp, ∃ o, h.get? b = some o ∧ ∀ v, o.data ≠ .cell v)
    (keep : ∀ i h h', tn i h → (∀ b ∈ fp, ∀ o, h.get? b = some o → h'.get? b = some o) → tn i h')
    (go : ∀ (X : Cx), X.prog = P → X.w = w → X.K = K → X.calm = true → ∀ (i : Nat) (pins : List (Addr × Obj)) (s : Shared) (σ : L2.St) (H : Hp), Inv X pins σ H s → tn i s.heap → J.go i H →
      ∃ fp' n Y St, GoesN P w X.A tg it fp' wr n Y St ∧ i < n ∧ St i s.heap ∧ (∀ h', St (i + 1) h' → tn (i + 1) h') ∧ ∀ v h', Y i s.heap v h' → Gives J i H s v h')
    (stop : ∀ (X : Cx), X.prog = P → X.w = w → X.K = K → X.calm = true → ∀ (i : Nat) (pins : List (Addr × Obj)) (s : Shared) (σ : L2.St) (H : Hp), Inv X pins σ H s → tn i s.heap → J.stop i H →
      ∃ fp' Y St, GoesN P w X.A tg it fp' wr i Y St ∧ St i s.heap)
    (self : ∀ (A : Around) (i : Nat) (s : Shared) (Q : Value → Shared → Prop) (E : Value → Shared → Prop), tn i s.heap → Q (.ref it) s → wpAny (model P w) A (pyIter (.ref it)) Q E s) : Turn P w K tg J fp it tn where
  mem := mem
  obj := obj
  keep := keep
  item := by
    intro X hP hw hK hc i pins s σ H E I hf st hg
    obtain ⟨fp', n, Y, St, W, hi, st1, st2, hy⟩ := go X hP hw hK hc i pins s σ H I st hg
    refine W.goes i s _ _ hi st1 fun v h' tk hY hS hk htk => ?_
    obtain ⟨T, vs, its, rfl, hT, hTT, hv, hl, yl⟩ := hy v h' hY
    have hn : H T = none := I.hok.fresh hT
    have new : ObjOk X.prog X.w (upd H T (.tup vs)) h' T (.tup vs) := ⟨short hl, its, hv, hTT⟩
    have I1 : Inv X pins σ (upd H T (.tup vs)) { s with heap := h', toks := tk } :=
      I.turnedNew (t' := tk) (ch := wr) (fun b o hb q => hk b o hb q) (fun b hb => hf b (sub b hb)) hT new
    refine ⟨.ref T, _, I1, rfl, yl hn, st2 h' hS, fun b hb => ?_⟩
    obtain ⟨o, ho, _⟩ := obj i s.heap st b hb
    rw [upd_ne (Nat.ne_of_lt (Nat.lt_of_lt_of_le (Heap.lt_size ho) hT))]
    exact (hf b hb).1
  done := by
    intro X hP hw hK hc i pins s σ H E I hf st hg
    obtain ⟨fp', Y, St, W, st1⟩ := stop X hP hw hK hc i pins s σ H I st hg
    exact W.stops s _ _ st1 fun h' tk hk htk => I.turnedL (t' := tk) (ch := wr) (fun b o hb q => hk b o hb q) fun b hb => hf b (sub b hb)
  self := self

/-! ### a list or a tuple, read -/
def SqK (K : PySem.W.Frag) (t : Bool) (H : Hp) (a : Addr) (xs : List V) : Prop := if t = true then SqT K H a xs else SqL K H a xs
def IsSq (t : Bool) (h : Heap) (a : Addr) (its : Array Value) : Prop := if t = true then h.IsTuple a its else h.IsList a its
def SqI (t : Bool) (h : Heap) (it a : Addr) (i : Nat) : Prop := if t = true then h.IsTupleIter it a i else h.IsListIter it a i
def sqO (t : Bool) (a : Addr) : Obj := if t = true then { cls := .type "tuple_iterator", data := .fields #[.ref a, .int 0 0] } else { cls := .type "list_iterator", data := .fields #[.ref a, .int 0 0] }
section
variable {X : Cx} {pins : List (Addr × Obj)} {σ : L2.St} {H H' : Hp} {s : Shared} {a it : Addr} {xs ys : List V} {t : Bool} {K : PySem.W.Frag}
theorem SqK.its (I : Inv X pins σ H s) (h : SqK X.K t H a xs) : ∃ its : List Value, Vals xs its ∧ IsSq t s.heap a its.toArray ∧ a < s.heap.objs.size := by
  cases t with
  | true =>
    obtain ⟨its, r, p, _⟩ := I.tuple (show SqT X.K H a xs from h)
    exact ⟨its, r, p, p.lt⟩
  | false =>
    obtain ⟨its, r, p, _⟩ := I.list (show SqL X.K H a xs from h)
    exact ⟨its, r, p.isList, p.lt⟩
theorem SqK.inj (I : Inv X pins σ H s) (h : SqK X.K t H a xs) (h' : SqK X.K t H a ys) : xs = ys := by
  cases t with
  | true => exact I.tuple_inj h h'
  | false => exact I.list_inj h h'
theorem SqK.mono (e : Same H H') (h : SqK K t H a xs) : SqK K t H' a xs := by
  cases t with
  | true => exact same_seqT e h
  | false => exact e.seq h
theorem SqI.keep {h h' : Heap} {i : Nat} (q : SqI t h it a i) (k : ∀ o, h.get? it = some o → h'.get? it = some o) : SqI t h' it a i := by
  cases t with
  | true => exact PySem.Heap.IsTupleIter.at q k
  | false => exact PySem.Heap.IsListIter.at q k
theorem SqI.obj {h : Heap} {i : Nat} (q : SqI t h it a i) : ∃ o, h.get? it = some o ∧ ∀ v, o.data ≠ .cell v := by
  cases t with
  | true => obtain ⟨o, ho, _, hd⟩ := q; exact ⟨o, ho, fun v z => by rw [hd] at z; cases z⟩
  | false => obtain ⟨o, ho, _, hd⟩ := q; exact ⟨o, ho, fun v z => by rw [hd] at z; cases z⟩
theorem draws_sq {P : Program} {w : World} {A : Around} (hh : A.handled = none) (t : Bool) (it a : Addr) (hne : a ≠ it) (items : Array Value) :
    Draws P w A it [it, a] items.size (fun i v => items[i]? = some v) (fun i h => SqI t h it a i ∧ IsSq t h a items) := by
  cases t with
  | true => exact Draws.tuple hh it a hne items
  | false => exact Draws.list hh it a hne items
theorem begins_sq (t : Bool) (a : Addr) (items : Array Value) : Begins (.ref a) (sqO t a) fun h => IsSq t h a items := by
  cases t with
  | true => exact begins_tuple a items
  | false => exact begins_list a items
theorem sqI_new {h : Heap} (e : h.get? it = some (sqO t a)) : SqI t h it a 0 := by
  cases t with
  | true => exact ⟨_, e, rfl, rfl⟩
  | false => exact ⟨_, e, rfl, rfl⟩
theorem vals_at {xs : List V} {its : List Value} {i : Nat} {x : V} {u : Value} (r : Vals xs its) (hx : xs[i]? = some x) (hu : its.toArray[i]? = some u) : RelV x u := by
  obtain ⟨u', h1, h2⟩ := r.get hx
  have : its[i]? = some u := by simpa using hu
  rw [h1] at this
  cases this
  exact h2
theorem lt_of_at {xs : List V} {its : List Value} {i : Nat} {x : V} (r : Vals xs its) (hx : xs[i]? = some x) : i < its.toArray.size := by
  have := (List.getElem?_eq_some_iff.mp hx).1
  rw [List.size_toArray, ← r.length]
  exact this
theorem at_of_lt {xs : List V} {i : Nat} (h : i < xs.length) : ∃ x, xs[i]? = some x := ⟨xs[i], List.getElem?_eq_getElem h⟩
end

/-! #### zip of two -/
def It2 (K : PySem.W.Frag) (t1 t2 : Bool) (a b : Addr) : It :=
  ⟨fun i H => ∃ (xs ys : List V) (x y : V), SqK K t1 H a xs ∧ SqK K t2 H b ys ∧ xs[i]? = some x ∧ ys[i]? = some y,
    fun i H v H' => ∃ T x y, v = .ref T ∧ H T = none ∧ H' = upd H T (.tup [x, y]) ∧ (∀ xs, SqK K t1 H a xs → xs[i]? = some x) ∧ ∀ ys, SqK K t2 H b ys → ys[i]? = some y,
    fun i H => ∃ xs ys : List V, SqK K t1 H a xs ∧ SqK K t2 H b ys ∧ i = min xs.length ys.length⟩
theorem turn_zip2 {P : Program} {w : World} {K : PySem.W.Frag} {elts : List Expr} {kk : Nat} {tpos : Pos} {t1 t2 : Bool} {a b N : Addr} (ha : a < N) (hb : b < N) :
    Turn P w K (.Tuple elts kk tpos) (It2 K t1 t2 a b) [N + 4, N + 2, N + 3, N, N + 1] (N + 4) (fun i h => IsZip h (N + 4) (N + 2) (N + 3) .none ∧ IsTupOf2 h (N + 2) (.ref N) (.ref (N + 1)) ∧ (∃ x y, IsTupOf2 h (N + 3) x y) ∧ SqI t1 h N a i ∧ SqI t2 h (N + 1) b i) := by
  have S : ZipSep2 (N + 4) (N + 2) (N + 3) N (N + 1) [N, a] [N + 1, b] := zip_sep2 (fp1 := [a]) (fp2 := [b]) (by simpa using ha) (by simpa using hb)
  have na : a ≠ N := Nat.ne_of_lt ha
  have nb : b ≠ N + 1 := Nat.ne_of_lt (Nat.lt_succ_of_lt hb)
  refine turn_of (wr := [N + 4, N + 3, N, N + 1]) (by simp) (fun c hc => by
    simp only [List.mem_cons, List.not_mem_nil, or_false] at hc ⊢
    rcases hc with q | q | q | q <;> simp [q]) (fun i h st c hc => ?_) (fun i h h' st k => ?_) (fun X hP hw hK hc i pins s σ H I st hg => ?_) (fun X hP hw hK hc i pins s σ H I st hg => ?_) (fun A i s Q E st q => wpAny_pyIter_zip st.1 q)
  · obtain ⟨hz, hTI, ⟨x, y, hTO⟩, h1, h2⟩ := st
    simp only [List.mem_cons, List.not_mem_nil, or_false] at hc
    rcases hc with q | q | q | q | q
    · rw [q]; exact ⟨_, hz, fun v q => nomatch q⟩
    · rw [q]; exact ⟨_, hTI, fun v q => nomatch q⟩
    · rw [q]; exact ⟨_, hTO, fun v q => nomatch q⟩
    · rw [q]; exact h1.obj
    · rw [q]; exact h2.obj
  · obtain ⟨hz, hTI, ⟨x, y, hTO⟩, h1, h2⟩ := st
    exact ⟨k _ (by simp) _ hz, k _ (by simp) _ hTI, ⟨x, y, k _ (by simp) _ hTO⟩, h1.keep fun o q => k _ (by simp) o q, h2.keep fun o q => k _ (by simp) o q⟩
  · subst hP hw hK
    obtain ⟨hz, hTI, hTO, h1, h2⟩ := st
    obtain ⟨xs, ys, x, y, hqx, hqy, hx, hy⟩ := hg
    obtain ⟨as, r1, i1, _⟩ := hqx.its I
    obtain ⟨bs, r2, i2, _⟩ := hqy.its I
    have hh : X.A.in1.handled = none := I.ok.hd hc
    have l1 := lt_of_at r1 hx
    have l2 := lt_of_at r2 hy
    refine ⟨_, _, _, _, GoesN.zip2 S (draws_sq hh t1 N a na as.toArray) (draws_sq hh t2 (N + 1) b nb bs.toArray), Nat.lt_min.mpr ⟨l1, l2⟩, ⟨hz, hTI, hTO, ⟨h1, i1⟩, ⟨h2, i2⟩⟩, fun h' ⟨q1, q2, q3, q4, q5⟩ => ⟨q1, q2, q3, q4.1, q5.1⟩, fun v h' ⟨T, u1, u2, ev, hT, hu1, hu2, hTT⟩ => ?_⟩
    exact ⟨T, [x, y], [u1, u2], ev, hT, hTT, .cons (vals_at r1 hx hu1) (.cons (vals_at r2 hy hu2) .nil), by simp, fun nT => ⟨T, x, y, rfl, nT, rfl, fun zs hz => by rw [hz.inj I hqx]; exact hx, fun zs hz => by rw [hz.inj I hqy]; exact hy⟩⟩
  · subst hP hw hK
    obtain ⟨hz, hTI, hTO, h1, h2⟩ := st
    obtain ⟨xs, ys, hqx, hqy, hi⟩ := hg
    obtain ⟨as, r1, i1, _⟩ := hqx.its I
    obtain ⟨bs, r2, i2, _⟩ := hqy.its I
    have hh : X.A.in1.handled = none := I.ok.hd hc
    have W := GoesN.zip2 (elts := elts) (x1 := kk) (pos := tpos) (prog := X.prog) (w := X.w) (A := X.A) S (draws_sq hh t1 N a na as.toArray) (draws_sq hh t2 (N + 1) b nb bs.toArray)
    have e : min as.toArray.size bs.toArray.size = i := by rw [List.size_toArray, List.size_toArray, ← r1.length, ← r2.length, hi]
    rw [e] at W
    exact ⟨_, _, _, W, ⟨hz, hTI, hTO, ⟨h1, i1⟩, ⟨h2, i2⟩⟩⟩
/-! #### zip of three -/
def It3 (K : PySem.W.Frag) (t1 t2 t3 : Bool) (a b c : Addr) : It :=
  ⟨fun i H => ∃ (xs ys zs : List V) (x y z : V), SqK K t1 H a xs ∧ SqK K t2 H b ys ∧ SqK K t3 H c zs ∧ xs[i]? = some x ∧ ys[i]? = some y ∧ zs[i]? = some z,
    fun i H v H' => ∃ T x y z, v = .ref T ∧ H T = none ∧ H' = upd H T (.tup [x, y, z]) ∧ (∀ xs, SqK K t1 H a xs → xs[i]? = some x) ∧ (∀ ys, SqK K t2 H b ys → ys[i]? = some y) ∧ ∀ zs, SqK K t3 H c zs → zs[i]? = some z,
    fun i H => ∃ xs ys zs : List V, SqK K t1 H a xs ∧ SqK K t2 H b ys ∧ SqK K t3 H c zs ∧ i = min (min xs.length ys.length) zs.length⟩
theorem turn_zip3 {P : Program} {w : World} {K : PySem.W.Frag} {elts : List Expr} {kk : Nat} {tpos : Pos} {t1 t2 t3 : Bool} {a b c N : Addr} (ha : a < N) (hb : b < N) (hc : c < N) :
    Turn P w K (.Tuple elts kk tpos) (It3 K t1 t2 t3 a b c) [N + 5, N + 3, N + 4, N, N + 1, N + 2] (N + 5) (fun i h => IsZip h (N + 5) (N + 3) (N + 4) .none ∧ IsTupOf3 h (N + 3) (.ref N) (.ref (N + 1)) (.ref (N + 2)) ∧ (∃ x y z, IsTupOf3 h (N + 4) x y z) ∧ SqI t1 h N a i ∧ SqI t2 h (N + 1) b i ∧ SqI t3 h (N + 2) c i) := by
  have S : ZipSep3 (N + 5) (N + 3) (N + 4) N (N + 1) (N + 2) [N, a] [N + 1, b] [N + 2, c] := zip_sep3 (fp1 := [a]) (fp2 := [b]) (fp3 := [c]) (by simpa using ha) (by simpa using hb) (by simpa using hc)
  have na : a ≠ N := Nat.ne_of_lt ha
  have nb : b ≠ N + 1 := Nat.ne_of_lt (Nat.lt_succ_of_lt hb)
  have nc : c ≠ N + 2 := Nat.ne_of_lt (Nat.lt_succ_of_lt (Nat.lt_succ_of_lt hc))
  refine turn_of (wr := [N + 5, N + 4, N, N + 1, N + 2]) (by simp) (fun c hc => by
    simp only [List.mem_cons, List.not_mem_nil, or_false] at hc ⊢
    rcases hc with q | q | q | q | q <;> simp [q]) (fun i h st c hc => ?_) (fun i h h' st k => ?_) (fun X hP hw hK hcm i pins s σ H I st hg => ?_) (fun X hP hw hK hcm i pins s σ H I st hg => ?_) (fun A i s Q E st q => wpAny_pyIter_zip st.1 q)
  · obtain ⟨hz, hTI, ⟨x, y, z, hTO⟩, h1, h2, h3⟩ := st
    simp only [List.mem_cons, List.not_mem_nil, or_false] at hc
    rcases hc with q | q | q | q | q | q
    · rw [q]; exact ⟨_, hz, fun v q => nomatch q⟩
    · rw [q]; exact ⟨_, hTI, fun v q => nomatch q⟩
    · rw [q]; exact ⟨_, hTO, fun v q => nomatch q⟩
    · rw [q]; exact h1.obj
    · rw [q]; exact h2.obj
    · rw [q]; exact h3.obj
  · obtain ⟨hz, hTI, ⟨x, y, z, hTO⟩, h1, h2, h3⟩ := st
    exact ⟨k _ (by simp) _ hz, k _ (by simp) _ hTI, ⟨x, y, z, k _ (by simp) _ hTO⟩, h1.keep fun o q => k _ (by simp) o q, h2.keep fun o q => k _ (by simp) o q, h3.keep fun o q => k _ (by simp) o q⟩
  · subst hP hw hK
    obtain ⟨hz, hTI, hTO, h1, h2, h3⟩ := st
    obtain ⟨xs, ys, zs, x, y, z, hqx, hqy, hqz, hx, hy, hzz⟩ := hg
    obtain ⟨as, r1, i1, _⟩ := hqx.its I
    obtain ⟨bs, r2, i2, _⟩ := hqy.its I
    obtain ⟨cs, r3, i3, _⟩ := hqz.its I
    have hh : X.A.in1.handled = none := I.ok.hd hcm
    have l1 := lt_of_at r1 hx
    have l2 := lt_of_at r2 hy
    have l3 := lt_of_at r3 hzz
    refine ⟨_, _, _, _, GoesN.zip3 S (draws_sq hh t1 N a na as.toArray) (draws_sq hh t2 (N + 1) b nb bs.toArray) (draws_sq hh t3 (N + 2) c nc cs.toArray), Nat.lt_min.mpr ⟨Nat.lt_min.mpr ⟨l1, l2⟩, l3⟩, ⟨hz, hTI, hTO, ⟨h1, i1⟩, ⟨h2, i2⟩, ⟨h3, i3⟩⟩, fun h' ⟨q1, q2, q3, q4, q5, q6⟩ => ⟨q1, q2, q3, q4.1, q5.1, q6.1⟩, fun v h' ⟨T, u1, u2, u3, ev, hT, hu1, hu2, hu3, hTT⟩ => ?_⟩
    exact ⟨T, [x, y, z], [u1, u2, u3], ev, hT, hTT, .cons (vals_at r1 hx hu1) (.cons (vals_at r2 hy hu2) (.cons (vals_at r3 hzz hu3) .nil)), by simp, fun nT => ⟨T, x, y, z, rfl, nT, rfl, fun zs hz => by rw [hz.inj I hqx]; exact hx, fun zs hz => by rw [hz.inj I hqy]; exact hy, fun zs hz => by rw [hz.inj I hqz]; exact hzz⟩⟩
  · subst hP hw hK
    obtain ⟨hz, hTI, hTO, h1, h2, h3⟩ := st
    obtain ⟨xs, ys, zs, hqx, hqy, hqz, hi⟩ := hg
    obtain ⟨as, r1, i1, _⟩ := hqx.its I
    obtain ⟨bs, r2, i2, _⟩ := hqy.its I
    obtain ⟨cs, r3, i3, _⟩ := hqz.its I
    have hh : X.A.in1.handled = none := I.ok.hd hcm
    have W := GoesN.zip3 (elts := elts) (x1 := kk) (pos := tpos) (prog := X.prog) (w := X.w) (A := X.A) S (draws_sq hh t1 N a na as.toArray) (draws_sq hh t2 (N + 1) b nb bs.toArray) (draws_sq hh t3 (N + 2) c nc cs.toArray)
    have e : min (min as.toArray.size bs.toArray.size) cs.toArray.size = i := by rw [List.size_toArray, List.size_toArray, List.size_toArray, ← r1.length, ← r2.length, ← r3.length, hi]
    rw [e] at W
    exact ⟨_, _, _, W, ⟨hz, hTI, hTO, ⟨h1, i1⟩, ⟨h2, i2⟩, ⟨h3, i3⟩⟩⟩
/-! #### enumerate -/
def ItE (K : PySem.W.Frag) (t : Bool) (a : Addr) : It :=
  ⟨fun i H => ∃ (xs : List V) (x : V), SqK K t H a xs ∧ xs[i]? = some x, fun i H v H' => ∃ T x, v = .ref T ∧ H T = none ∧ H' = upd H T (.tup [.int (i : Nat), x]) ∧ ∀ xs, SqK K t H a xs → xs[i]? = some x, fun i H => ∃ xs : List V, SqK K t H a xs ∧ i = xs.length⟩
theorem turn_enumK {P : Program} {w : World} {K : PySem.W.Frag} {elts : List Expr} {kk : Nat} {tpos : Pos} {t : Bool} {a N : Addr} (ha : a < N) :
    Turn P w K (.Tuple elts kk tpos) (ItE K t a) [N + 1, N] (N + 1) (fun i h => (∃ old, IsEnum h (N + 1) N (0 + (i : Int)) old) ∧ SqI t h N a i) := by
  have na : a ≠ N := Nat.ne_of_lt ha
  have nf : N + 1 ∉ [N, a] := by
    simp only [List.mem_cons, List.not_mem_nil, or_false, not_or]
    exact ⟨Nat.succ_ne_self _, Ne.symm (Nat.ne_of_lt (Nat.lt_succ_of_lt ha))⟩
  refine turn_of (wr := [N + 1, N]) (by simp) (fun c hc => hc) (fun i h st c hc => ?_) (fun i h h' st k => ?_) (fun X hP hw hK hcm i pins s σ H I st hg => ?_) (fun X hP hw hK hcm i pins s σ H I st hg => ?_) (fun A i s Q E st q => ?_)
  · obtain ⟨⟨old, he⟩, h1⟩ := st
    simp only [List.mem_cons, List.not_mem_nil, or_false] at hc
    rcases hc with q | q
    · rw [q]; exact ⟨_, he, fun v q => nomatch q⟩
    · rw [q]; exact h1.obj
  · obtain ⟨⟨old, he⟩, h1⟩ := st
    exact ⟨⟨old, k _ (by simp) _ he⟩, h1.keep fun o q => k _ (by simp) o q⟩
  · subst hP hw hK
    obtain ⟨he, h1⟩ := st
    obtain ⟨xs, x, hqx, hx⟩ := hg
    obtain ⟨as, r1, i1, _⟩ := hqx.its I
    have hh : X.A.in1.handled = none := I.ok.hd hcm
    have l1 := lt_of_at r1 hx
    refine ⟨_, _, _, _, GoesN.enumFrom 0 (draws_sq hh t N a na as.toArray) (N + 1) (Nat.succ_ne_self _) nf (by simp), l1, ⟨he, ⟨h1, i1⟩⟩, fun h' ⟨q1, q2⟩ => ⟨q1, q2.1⟩, fun v h' ⟨T, tk, u1, ev, hT, hu1, hTT⟩ => ?_⟩
    exact ⟨T, [.int (i : Nat), x], [.int (0 + (i : Int)) tk, u1], ev, hT, hTT, .cons ⟨tk, by rw [Int.zero_add]⟩ (.cons (vals_at r1 hx hu1) .nil), by simp, fun nT => ⟨T, x, rfl, nT, rfl, fun zs hz => by rw [hz.inj I hqx]; exact hx⟩⟩
  · subst hP hw hK
    obtain ⟨he, h1⟩ := st
    obtain ⟨xs, hqx, hi⟩ := hg
    obtain ⟨as, r1, i1, _⟩ := hqx.its I
    have hh : X.A.in1.handled = none := I.ok.hd hcm
    have W := GoesN.enumFrom (elts := elts) (x1 := kk) (pos := tpos) (prog := X.prog) (w := X.w) (A := X.A) 0 (draws_sq hh t N a na as.toArray) (N + 1) (Nat.succ_ne_self _) nf (by simp)
    have e : as.toArray.size = i := by rw [List.size_toArray, ← r1.length, hi]
    rw [e] at W
    exact ⟨_, _, _, W, ⟨he, ⟨h1, i1⟩⟩⟩
  · obtain ⟨⟨old, he⟩, h1⟩ := st
    exact wpAny_pyIter_enum he q
end DL
namespace DL
open PySem PySem.Spec PyProof.Rows L2

section
variable {X : Cx} {tg : Expr}
theorem pi_zip2K {e e2 : Expr} {ta : TA} {p pos tpos : Pos} {elts : List Expr} {kk : Nat} (hg : Gl X "zip") (hm : X.mg "zip" = none) (ha : PA X [e, e2] ta)
    (hs : starEach [e, e2] X.env = (false, eval e X.env) :: starEach [e2] X.env := by rfl) (hpl : (backTo pos (starEach [e2] X.env)).any (·.1) = false := by rfl) :
    PI X (.Tuple elts kk tpos) (.Call (.Name "zip" p) [e, e2] [] pos) (fun σ H R => ta σ H fun vs H1 => ∃ t1 t2 a b xs ys, vs = [.ref a, .ref b] ∧ SqK X.K t1 H1 a xs ∧ SqK X.K t2 H1 b ys ∧ R (It2 X.K t1 t2 a b) H1) := by
  refine ⟨fun pins s σ H R I h => ?_⟩
  refine Call_ (ld_blt I hg hm PyProof.Rows.boot_zip (PyProof.Rows.callWith_type1 (thn (ha.run pos pins s σ H _ I h) fun us s1 ⟨vs, H1, I1, r1, q1⟩ => ?_) hs hpl))
  obtain ⟨t1, t2, a, b, xs, ys, ex, hqx, hqy, q⟩ := q1
  subst ex
  obtain ⟨u1, u2, rfl, ra, rb⟩ := vals2 r1
  cases ra
  cases rb
  obtain ⟨as, z1, i1, la⟩ := hqx.its I1
  obtain ⟨bs, z2, i2, lb⟩ := hqy.its I1
  refine zip_begins2 (begins_sq t1 a as.toArray) (begins_sq t2 b bs.toArray) i1 i2 fun h' hz hTI hTO h1 h2 hsz hk => wpAny_pyIter_zip hz ?_
  have I2 : Inv X pins σ H1 { s1 with heap := h' } := I1.kept (t' := s1.toks) hk
  refine ⟨s1.heap.objs.size + 4, _, _, _, H1, rfl, I2, turn_zip2 la lb, ⟨hz, hTI, ⟨_, _, hTO⟩, sqI_new h1, sqI_new h2⟩, fun c hcm => ?_, q⟩
  have hle : s1.heap.objs.size ≤ c := by
    simp only [List.mem_cons, List.not_mem_nil, or_false] at hcm
    rcases hcm with z | z | z | z | z <;> rw [z]
    · exact Nat.le_add_right _ _
    · exact Nat.le_add_right _ _
    · exact Nat.le_add_right _ _
    · exact Nat.le_refl _
    · exact Nat.le_add_right _ _
  exact I1.fpOk hle (I1.hok.fresh hle)
theorem pi_zip3K {e e2 e3 : Expr} {ta : TA} {p pos tpos : Pos} {elts : List Expr} {kk : Nat} (hg : Gl X "zip") (hm : X.mg "zip" = none) (ha : PA X [e, e2, e3] ta)
    (hs : starEach [e, e2, e3] X.env = (false, eval e X.env) :: starEach [e2, e3] X.env := by rfl) (hpl : (backTo pos (starEach [e2, e3] X.env)).any (·.1) = false := by rfl) :
    PI X (.Tuple elts kk tpos) (.Call (.Name "zip" p) [e, e2, e3] [] pos) (fun σ H R => ta σ H fun vs H1 => ∃ t1 t2 t3 a b c xs ys zs, vs = [.ref a, .ref b, .ref c] ∧ SqK X.K t1 H1 a xs ∧ SqK X.K t2 H1 b ys ∧ SqK X.K t3 H1 c zs ∧ R (It3 X.K t1 t2 t3 a b c) H1) := by
  refine ⟨fun pins s σ H R I h => ?_⟩
  refine Call_ (ld_blt I hg hm PyProof.Rows.boot_zip (PyProof.Rows.callWith_type1 (thn (ha.run pos pins s σ H _ I h) fun us s1 ⟨vs, H1, I1, r1, q1⟩ => ?_) hs hpl))
  obtain ⟨t1, t2, t3, a, b, c, xs, ys, zs, ex, hqx, hqy, hqz, q⟩ := q1
  subst ex
  cases r1 with
  | cons ra r1 =>
    obtain ⟨u1, u2, rfl, rb, rc⟩ := vals2 r1
    cases ra
    cases rb
    cases rc
    obtain ⟨as, z1, i1, la⟩ := hqx.its I1
    obtain ⟨bs, z2, i2, lb⟩ := hqy.its I1
    obtain ⟨cs, z3, i3, lc⟩ := hqz.its I1
    refine zip_begins3 (begins_sq t1 a as.toArray) (begins_sq t2 b bs.toArray) (begins_sq t3 c cs.toArray) i1 i2 i3 fun h' hz hTI hTO h1 h2 h3 hsz hk => wpAny_pyIter_zip hz ?_
    have I2 : Inv X pins σ H1 { s1 with heap := h' } := I1.kept (t' := s1.toks) hk
    refine ⟨s1.heap.objs.size + 5, _, _, _, H1, rfl, I2, turn_zip3 la lb lc, ⟨hz, hTI, ⟨_, _, _, hTO⟩, sqI_new h1, sqI_new h2, sqI_new h3⟩, fun c hcm => ?_, q⟩
    have hle : s1.heap.objs.size ≤ c := by
      simp only [List.mem_cons, List.not_mem_nil, or_false] at hcm
      rcases hcm with z | z | z | z | z | z <;> rw [z]
      · exact Nat.le_add_right _ _
      · exact Nat.le_add_right _ _
      · exact Nat.le_add_right _ _
      · exact Nat.le_refl _
      · exact Nat.le_add_right _ _
      · exact Nat.le_add_right _ _
    exact I1.fpOk hle (I1.hok.fresh hle)
set_option maxHeartbeats 1000000 in
theorem meets_enum1 {v : Value} {o : Obj} {H : Heap → Prop} (B : Begins v o H) :
    Meets (Builtin.«enumerate.__new__» ⟨[.type "enumerate", v], []⟩) (fun _ R s => H s.heap ∧
      R (.ok (.ret (.ref (s.heap.push o).objs.size))) { s with heap := (s.heap.push o).push { cls := .type "enumerate", data := .fields #[.none, .bool false, .ref s.heap.objs.size, rawInt 0, .none, .none] } }) :=
  .of_wp fun prog w A R s h => by
    obtain ⟨hp, g, d, tk, os⟩ := s
    obtain ⟨h1, h⟩ := h
    have hsub := sub_enumerate
    have start : ∀ {A' : Around} {E : Value → Shared → Prop} {Q : Value → Shared → Prop}, Q (.ref hp.objs.size) ⟨hp.push o, g, d, tk, os⟩ → wpAny (model prog w) A' (pyIter v) Q E ⟨hp, g, d, tk, os⟩ :=
      fun q => B.iter prog w _ _ ⟨hp, g, d, tk, os⟩ _ h1 q
    wp_walk using start
    refine wpAny_stack_any fun st => wpAny_pure ?_
    split
    · rename_i c _ _ _ _ _
      cases (c == Value.type "enumerate") <;> (wp_walk using start; exact ⟨_, rfl, h⟩)
    · wp_walk using start
      exact ⟨_, rfl, h⟩
theorem call_enumK {P : Program} {w : World} {A : Around} {E : Value → Shared → Prop} {s : Shared} {t : Bool} {a : Addr} {items : Array Value} {Q : Value → Shared → Prop} (h1 : IsSq t s.heap a items)
    (h : ∀ h', IsEnum h' (s.heap.objs.size + 1) s.heap.objs.size 0 .none → SqI t h' s.heap.objs.size a 0 → (∀ b o, s.heap.get? b = some o → h'.get? b = some o) → Q (.ref (s.heap.objs.size + 1)) { s with heap := h' }) :
    wpAny (model P w) A (call (.type "enumerate") [.ref a]) Q E s := by
  refine callType_new F.called_enumerate (by decide) (F.typeCall_enumerate_1 _) (F.newCall_enumerate_1 _) (fun obj => F.args_object_init_2 obj _) F.entry_enumerate_new (meets_enum1 (begins_sq t a items)) ⟨h1, ?_⟩
  have hz : (s.heap.push (sqO t a)).objs.size = s.heap.objs.size + 1 := Heap.size_push ..
  show _ ∧ _
  rw [hz]
  have he : IsEnum ((s.heap.push (sqO t a)).push { cls := .type "enumerate", data := .fields #[.none, .bool false, .ref s.heap.objs.size, rawInt 0, .none, .none] }) (s.heap.objs.size + 1) s.heap.objs.size 0 .none := by
    have q := Heap.get?_push_size (s.heap.push (sqO t a)) (o := { cls := .type "enumerate", data := .fields #[.none, .bool false, .ref s.heap.objs.size, rawInt 0, .none, .none] }) rfl
    rw [hz] at q
    exact q
  exact ⟨⟨_, he, rfl⟩, h _ he (sqI_new (Heap.get?_push_of_some _ (Heap.get?_push_size _ (begins_sq t a items).free))) fun b o x => Heap.get?_push_of_some _ (Heap.get?_push_of_some _ x)⟩
theorem pi_enumK {e : Expr} {ta : TA} {p pos tpos : Pos} {elts : List Expr} {kk : Nat} (hg : Gl X "enumerate") (hm : X.mg "enumerate" = none) (ha : PA X [e] ta) (hs : starEach [e] X.env = [(false, eval e X.env)] := by rfl) :
    PI X (.Tuple elts kk tpos) (.Call (.Name "enumerate" p) [e] [] pos) (fun σ H R => ta σ H fun vs H1 => ∃ t a xs, vs = [.ref a] ∧ SqK X.K t H1 a xs ∧ R (ItE X.K t a) H1) := by
  refine ⟨fun pins s σ H R I h => ?_⟩
  refine Call_ (ld_blt I hg hm boot_enumerate (PyProof.Rows.callWith_type1 (thn (ha.run pos pins s σ H _ I h) fun us s1 ⟨vs, H1, I1, r1, q1⟩ => ?_) hs rfl))
  obtain ⟨t, a, xs, ex, hqx, q⟩ := q1
  subst ex
  obtain ⟨u, rfl, ra⟩ := vals1 r1
  cases ra
  obtain ⟨as, z1, i1, la⟩ := hqx.its I1
  refine call_enumK i1 fun h' he h1 hk => wpAny_pyIter_enum he ?_
  have I2 : Inv X pins σ H1 { s1 with heap := h' } := I1.kept (t' := s1.toks) hk
  refine ⟨s1.heap.objs.size + 1, _, _, _, H1, rfl, I2, turn_enumK la, ⟨⟨.none, he⟩, h1⟩, fun c hcm => ?_, q⟩
  have hle : s1.heap.objs.size ≤ c := by
    simp only [List.mem_cons, List.not_mem_nil, or_false] at hcm
    rcases hcm with z | z <;> rw [z]
    · exact Nat.le_add_right _ _
    · exact Nat.le_refl _
  exact I1.fpOk hle (I1.hok.fresh hle)

/-! ### what a loop walks, as data -/
abbrev FI := DEnv → Option (List D)
def Walk (K : PySem.W.Frag) (J : It) (G : Hp) (ds : List D) : Prop := ∀ i G1 H1, Same G G1 → Same G1 H1 →
  (∀ d, ds[i]? = some d → J.go i H1 ∧ ∀ x H2, J.yld i H1 x H2 → ∃ G2, Grow G1 H1 G2 H2 ∧ Rep K G2 d x) ∧ (i = ds.length → J.stop i H1)
def liftI (K : PySem.W.Frag) (f : FI) : TI := fun σ H R => ∃ G0 H0 G ρ ds, DSt K G0 H0 G H σ ρ ∧ f ρ = some ds ∧ ∀ J G' H', Grow G H G' H' → Walk K J G' ds → R J H'
def DIt (X : Cx) (tg e : Expr) (f : FI) : Prop := PI X tg e (liftI X.K f)
theorem PI.or {X : Cx} {tg e : Expr} {t t' : TI} (h : PI X tg e t) (h' : PI X tg e t') : PI X tg e (fun σ H R => t σ H R ∨ t' σ H R) := ⟨fun pins s σ H R I w => by
  rcases w with w | w
  · exact h.run pins s σ H R I w
  · exact h'.run pins s σ H R I w⟩
def iSeq (f : FE) : FI := fun ρ => match f ρ with
  | some (.lst ds) => some ds
  | some (.tup ds) => some ds
  | _ => none
theorem walk_list {K : PySem.W.Frag} {G : Hp} {a : Addr} {vs : List V} {ds : List D} (h : SqL K G a vs) (r : RepL K G ds vs) : Walk K (Itl K a) G ds := fun i G1 H1 s1 s2 => by
  have h1 : SqL K H1 a vs := s2.seq (s1.seq h)
  refine ⟨fun d e => ?_, fun e => ⟨vs, h1, by rw [r.len, e]; exact Nat.le_refl _⟩⟩
  obtain ⟨v, e1, e2⟩ := r.get e
  refine ⟨⟨vs, v, h1, e1⟩, fun x H2 ⟨e3, y⟩ => ?_⟩
  subst e3
  have := y vs h1
  rw [e1] at this
  cases this
  exact ⟨G1, .refl s2, e2.mono s1⟩
theorem walk_tup {K : PySem.W.Frag} {G : Hp} {a : Addr} {vs : List V} {ds : List D} (h : SqT K G a vs) (r : RepL K G ds vs) : Walk K (Itt K a) G ds := fun i G1 H1 s1 s2 => by
  have h1 : SqT K H1 a vs := same_seqT s2 (same_seqT s1 h)
  refine ⟨fun d e => ?_, fun e => ⟨vs, h1, by rw [r.len, e]; exact Nat.le_refl _⟩⟩
  obtain ⟨v, e1, e2⟩ := r.get e
  refine ⟨⟨vs, v, h1, e1⟩, fun x H2 ⟨e3, y⟩ => ?_⟩
  subst e3
  have := y vs h1
  rw [e1] at this
  cases this
  exact ⟨G1, .refl s2, e2.mono s1⟩
theorem di_seq {e : Expr} {f : FE} (he : DE X e f) : DIt X tg e (iSeq f) := PI.imp (PI.or (pi_list he) (pi_tup he)) fun σ H R ⟨G0, H0, G, ρ, ds, s, q, k⟩ => by
  unfold iSeq at q
  split at q
  · rename_i es z
    cases q
    refine .inl ⟨G0, H0, G, ρ, _, s, z, fun v G1 H1 g1 r1 => ?_⟩
    obtain ⟨a, vs, rfl, h1, h2⟩ := rep_lst.mp r1
    exact ⟨a, rfl, ⟨vs, g1.sub.seq h1⟩, k _ G1 H1 g1 (walk_list h1 h2)⟩
  · rename_i es z
    cases q
    refine .inr ⟨G0, H0, G, ρ, _, s, z, fun v G1 H1 g1 r1 => ?_⟩
    obtain ⟨a, vs, rfl, h1, h2⟩ := rep_tup.mp r1
    exact ⟨a, rfl, ⟨vs, SqT.of (g1.sub _ _ h1)⟩, k _ G1 H1 g1 (walk_tup (SqT.of h1) h2)⟩
  · cases q
def sqD : D → Option (Bool × List D)
  | .lst ds => some (false, ds)
  | .tup ds => some (true, ds)
  | _ => none
theorem sqD_rep {K : PySem.W.Frag} {G : Hp} {d : D} {v : V} {t : Bool} {ds : List D} (h : sqD d = some (t, ds)) (r : Rep K G d v) : ∃ a vs, v = .ref a ∧ SqK K t G a vs ∧ RepL K G ds vs := by
  unfold sqD at h
  split at h
  · cases h
    exact rep_lst.mp r
  · cases h
    obtain ⟨a, vs, rfl, h1, h2⟩ := rep_tup.mp r
    exact ⟨a, vs, rfl, SqT.of h1, h2⟩
  · cases h
def zip2D (xs ys : List D) : List D := List.zipWith (fun x y => .tup [x, y]) xs ys
def iZip (f : FA) : FI := fun ρ => match f ρ with
  | some [x, y] => (sqD x).bind fun a => (sqD y).map fun b => zip2D a.2 b.2
  | _ => none
theorem walk_zip2 {K : PySem.W.Frag} {G : Hp} {t1 t2 : Bool} {a b : Addr} {vs us : List V} {ds es : List D} (h1 : SqK K t1 G a vs) (h2 : SqK K t2 G b us) (r1 : RepL K G ds vs) (r2 : RepL K G es us) : Walk K (It2 K t1 t2 a b) G (zip2D ds es) := fun i G1 H1 s1 s2 => by
  have k1 : SqK K t1 H1 a vs := (h1.mono s1).mono s2
  have k2 : SqK K t2 H1 b us := (h2.mono s1).mono s2
  refine ⟨fun d e => ?_, fun e => ⟨vs, us, k1, k2, by rw [r1.len, r2.len, e]; simp [zip2D]⟩⟩
  unfold zip2D at e
  rw [List.getElem?_zipWith] at e
  cases ex : ds[i]? with
  | none => rw [ex] at e; cases e
  | some x =>
    cases ey : es[i]? with
    | none => rw [ex, ey] at e; cases e
    | some y =>
      rw [ex, ey] at e
      cases e
      obtain ⟨v, a1, a2⟩ := r1.get ex
      obtain ⟨u, b1, b2⟩ := r2.get ey
      refine ⟨⟨vs, us, v, u, k1, k2, a1, b1⟩, fun x' H2 ⟨T, v', u', e3, nT, e4, z1, z2⟩ => ?_⟩
      subst e3 e4
      have y1 := z1 vs k1
      have y2 := z2 us k2
      rw [a1] at y1
      rw [b1] at y2
      cases y1
      cases y2
      have g := Grow.new (o := .tup [v, u]) s2 nT
      exact ⟨_, g, rep_tup.mpr ⟨T, _, rfl, upd_same, .cons ((a2.mono s1).mono g.g) (.one ((b2.mono s1).mono g.g))⟩⟩
theorem di_zip2 {e e2 : Expr} {f : FA} {p pos tpos : Pos} {elts : List Expr} {kk : Nat} (hg : Gl X "zip") (hm : X.mg "zip" = none) (ha : DAr X [e, e2] f)
    (hs : starEach [e, e2] X.env = (false, eval e X.env) :: starEach [e2] X.env := by rfl) (hpl : (backTo pos (starEach [e2] X.env)).any (·.1) = false := by rfl) : DIt X (.Tuple elts kk tpos) (.Call (.Name "zip" p) [e, e2] [] pos) (iZip f) :=
  PI.imp (pi_zip2K hg hm ha.run hs hpl) fun σ H R ⟨G0, H0, G, ρ, ds, s, q, k⟩ => by
    unfold iZip at q
    split at q
    · rename_i x y z
      obtain ⟨⟨t1, xs⟩, e1, q⟩ := bind_inv q
      obtain ⟨⟨t2, ys⟩, e2, q⟩ := map_inv q
      subst q
      refine ⟨G0, H0, G, ρ, _, s, z, fun vs G1 H1 g1 r1 => ?_⟩
      obtain ⟨v, r, rfl, rv, r2⟩ := r1.cons_inv
      obtain ⟨u, r', rfl, ru, r3⟩ := r2.cons_inv
      have := r3.nil_inv
      subst this
      obtain ⟨a, vs, rfl, h1, h2⟩ := sqD_rep e1 rv
      obtain ⟨b, us, rfl, h3, h4⟩ := sqD_rep e2 ru
      exact ⟨t1, t2, a, b, vs, us, rfl, h1.mono g1.sub, h3.mono g1.sub, k _ G1 H1 g1 (walk_zip2 h1 h3 h2 h4)⟩
    · cases q
def enumD (xs : List D) : List D := (List.range xs.length).zipWith (fun i x => .tup [.int (i : Nat), x]) xs
def iEnumD (f : FE) : FI := fun ρ => (f ρ).bind fun x => (sqD x).map fun a => enumD a.2
theorem walk_enum {K : PySem.W.Frag} {G : Hp} {t : Bool} {a : Addr} {vs : List V} {ds : List D} (h1 : SqK K t G a vs) (r1 : RepL K G ds vs) : Walk K (ItE K t a) G (enumD ds) := fun i G1 H1 s1 s2 => by
  have k1 : SqK K t H1 a vs := (h1.mono s1).mono s2
  refine ⟨fun d e => ?_, fun e => ⟨vs, k1, by rw [r1.len, e]; simp [enumD]⟩⟩
  unfold enumD at e
  rw [List.getElem?_zipWith] at e
  cases ex : ds[i]? with
  | none => rw [ex] at e; simp at e
  | some x =>
    have hl : i < ds.length := (List.getElem?_eq_some_iff.mp ex).1
    have er : (List.range ds.length)[i]? = some i := by simp [hl]
    rw [ex, er] at e
    cases e
    obtain ⟨v, a1, a2⟩ := r1.get ex
    refine ⟨⟨vs, v, k1, a1⟩, fun x' H2 ⟨T, v', e3, nT, e4, z1⟩ => ?_⟩
    subst e3 e4
    have y1 := z1 vs k1
    rw [a1] at y1
    cases y1
    have g := Grow.new (o := .tup [.int (i : Nat), v]) s2 nT
    exact ⟨_, g, rep_tup.mpr ⟨T, _, rfl, upd_same, .cons (rep_int.mpr rfl) (.one ((a2.mono s1).mono g.g))⟩⟩
theorem di_enum {e : Expr} {f : FE} {p pos tpos : Pos} {elts : List Expr} {kk : Nat} (hg : Gl X "enumerate") (hm : X.mg "enumerate" = none) (ha : DE X e f) (hs : starEach [e] X.env = [(false, eval e X.env)] := by rfl) :
    DIt X (.Tuple elts kk tpos) (.Call (.Name "enumerate" p) [e] [] pos) (iEnumD f) :=
  PI.imp (pi_enumK hg hm (da_cons ha da_nil hs).run hs) fun σ H R ⟨G0, H0, G, ρ, ds, s, q, k⟩ => by
    obtain ⟨x, ex, q⟩ := bind_inv q
    obtain ⟨⟨t1, xs⟩, e1, q⟩ := map_inv q
    subst q
    refine ⟨G0, H0, G, ρ, [x], s, by unfold aCons aNil; rw [ex]; rfl, fun vs G1 H1 g1 r1 => ?_⟩
    obtain ⟨v, r, rfl, rv, r2⟩ := r1.cons_inv
    have := r2.nil_inv
    subst this
    obtain ⟨a, vs, rfl, h1, h2⟩ := sqD_rep e1 rv
    exact ⟨t1, a, vs, rfl, h1.mono g1.sub, k _ G1 H1 g1 (walk_enum h1 h2)⟩
/-! #### ranges -/
def rangeD (lo : Int) (c : Int) (n : Nat) : List D := (List.range n).map fun k => .int (lo + (k : Nat) * c)
theorem walk_range {K : PySem.W.Frag} {G : Hp} {lo : Int} {n : Nat} : Walk K (Itr lo n) G (rangeD lo 1 n) := fun i G1 H1 s1 s2 => by
  refine ⟨fun d e => ?_, fun e => by rw [e]; simp [rangeD, Itr]⟩
  unfold rangeD at e
  rw [List.getElem?_map] at e
  by_cases hl : i < n
  · rw [show (List.range n)[i]? = some i by simp [hl]] at e
    cases e
    refine ⟨hl, fun x H2 y => ?_⟩
    obtain ⟨e1, e2⟩ := y
    subst e1 e2
    exact ⟨G1, .refl s2, rep_int.mpr (by rw [Int.mul_one])⟩
  · rw [show (List.range n)[i]? = none by simp; omega] at e
    cases e
theorem walk_rangeC {K : PySem.W.Frag} {G : Hp} {lo c : Int} {n : Nat} : Walk K (Itc lo c n) G (rangeD lo c n) := fun i G1 H1 s1 s2 => by
  refine ⟨fun d e => ?_, fun e => by rw [e]; simp [rangeD, Itc]⟩
  unfold rangeD at e
  rw [List.getElem?_map] at e
  by_cases hl : i < n
  · rw [show (List.range n)[i]? = some i by simp [hl]] at e
    cases e
    refine ⟨hl, fun x H2 y => ?_⟩
    obtain ⟨e1, e2⟩ := y
    subst e1 e2
    exact ⟨G1, .refl s2, rep_int.mpr rfl⟩
  · rw [show (List.range n)[i]? = none by simp; omega] at e
    cases e
def smallI (i : Int) : Bool := Nat.ble i.natAbs 4611686018427387903
theorem smallI_ok {i : Int} (h : smallI i = true) : -(2 ^ 62) ≤ i ∧ i < 2 ^ 62 := by
  have h1 : i.natAbs ≤ 4611686018427387903 := Nat.le_of_ble_eq_true h
  omega
def iRange (f : FA) : FI := fun ρ => match f ρ with
  | some [.int j] => if smallI j = true then some (rangeD 0 1 j.toNat) else none
  | some [.int i, .int j] => if (smallI i && smallI j) = true then some (rangeD i 1 (j - i).toNat) else none
  | some [.int i, .int j, .int c] => if (smallI i && smallI j) = true ∧ c = -1 then some (rangeD i (-1) (i - j).toNat) else none
  | _ => none
theorem repL_one {K : PySem.W.Frag} {G : Hp} {i : Int} {vs : List V} (r : RepL K G [.int i] vs) : vs = [.int i] := (RepL.ints (ns := [i])).mp r
theorem repL_two {K : PySem.W.Frag} {G : Hp} {i j : Int} {vs : List V} (r : RepL K G [.int i, .int j] vs) : vs = [.int i, .int j] := (RepL.ints (ns := [i, j])).mp r
theorem repL_three {K : PySem.W.Frag} {G : Hp} {i j k : Int} {vs : List V} (r : RepL K G [.int i, .int j, .int k] vs) : vs = [.int i, .int j, .int k] := (RepL.ints (ns := [i, j, k])).mp r
theorem di_range1 {a : Expr} {f : FA} {p pos : Pos} (hg : Gl X "range") (hm : X.mg "range" = none) (ha : DAr X [a] f) (hs : starEach [a] X.env = [(false, eval a X.env)] := by rfl) : DIt X tg (.Call (.Name "range" p) [a] [] pos) (iRange f) :=
  PI.imp (pi_range1 hg hm ha.run hs) fun σ H R ⟨G0, H0, G, ρ, ds, s, q, k⟩ => by
    unfold iRange at q
    split at q
    · rename_i j z
      split at q
      · rename_i c
        cases q
        obtain ⟨c1, c2⟩ := smallI_ok c
        refine ⟨G0, H0, G, ρ, _, s, z, fun vs G1 H1 g1 r1 => ⟨j, repL_one r1, c1, c2, k _ G1 H1 g1 walk_range⟩⟩
      · cases q
    · rename_i z; have := ha.len _ _ z; simp at this
    · rename_i z; have := ha.len _ _ z; simp at this
    · cases q
theorem di_range2 {a b : Expr} {f : FA} {p pos : Pos} (hg : Gl X "range") (hm : X.mg "range" = none) (ha : DAr X [a, b] f) (hs : starEach [a, b] X.env = [(false, eval a X.env), (false, eval b X.env)] := by rfl) (hs2 : starEach [b] X.env = [(false, eval b X.env)] := by rfl) :
    DIt X tg (.Call (.Name "range" p) [a, b] [] pos) (iRange f) :=
  PI.imp (pi_range2 hg hm ha.run hs hs2) fun σ H R ⟨G0, H0, G, ρ, ds, s, q, k⟩ => by
    unfold iRange at q
    split at q
    · rename_i z; have := ha.len _ _ z; simp at this
    · rename_i i j z
      split at q
      · rename_i c
        cases q
        obtain ⟨c1, c2⟩ := Bool.and_eq_true_iff.mp c
        obtain ⟨b1, b2⟩ := smallI_ok c1
        obtain ⟨b3, b4⟩ := smallI_ok c2
        refine ⟨G0, H0, G, ρ, _, s, z, fun vs G1 H1 g1 r1 => ⟨i, j, repL_two r1, ⟨b1, b2, b3, b4⟩, k _ G1 H1 g1 walk_range⟩⟩
      · cases q
    · rename_i z; have := ha.len _ _ z; simp at this
    · cases q
theorem di_range3 {a b c : Expr} {f : FA} {p pos : Pos} (hg : Gl X "range") (hm : X.mg "range" = none) (ha : DAr X [a, b, c] f) (hs : starEach [a, b, c] X.env = (false, eval a X.env) :: starEach [b, c] X.env := by rfl) (hpl : (backTo pos (starEach [b, c] X.env)).any (·.1) = false := by rfl) :
    DIt X tg (.Call (.Name "range" p) [a, b, c] [] pos) (iRange f) :=
  PI.imp (pi_range3 hg hm ha.run hs hpl) fun σ H R ⟨G0, H0, G, ρ, ds, s, q, k⟩ => by
    unfold iRange at q
    split at q
    · rename_i z; have := ha.len _ _ z; simp at this
    · rename_i z; have := ha.len _ _ z; simp at this
    · rename_i i j c z
      split at q
      · rename_i cc
        obtain ⟨cc, rfl⟩ := cc
        cases q
        obtain ⟨c1, c2⟩ := Bool.and_eq_true_iff.mp cc
        obtain ⟨b1, b2⟩ := smallI_ok c1
        obtain ⟨b3, b4⟩ := smallI_ok c2
        refine ⟨G0, H0, G, ρ, _, s, z, fun vs G1 H1 g1 r1 => ⟨i, j, -1, _, repL_three r1, RgC.neg b1 b2 b3 b4, k _ G1 H1 g1 walk_rangeC⟩⟩
      · cases q
    · cases q
end
end DL
namespace DL
open PySem PySem.Spec PyProof.Rows L2

section
variable {X : Cx} {tg iter e : Expr} {body : List Stmt} {pos : Pos} {fi : FI} {g : FG} {fb : FS} {vs : List Nat}

/-! ### for -/
def forL (g : FG) (fb : FS) : List D → FS
  | [], ρ => .nx ρ
  | d :: ds, ρ => match g d ρ with
    | none => .bad
    | some ρ1 => (match fb ρ1 with
      | .nx ρ2 => forL g fb ds ρ2
      | .ct ρ2 => forL g fb ds ρ2
      | .bk ρ2 => .nx ρ2
      | .rt d => .rt d
      | .bad => .bad)
def xFor (fi : FI) (g : FG) (fb : FS) : FS := fun ρ => match fi ρ with
  | some ds => forL g fb ds ρ
  | none => .bad
theorem drop_eq {α : Type} {l : List α} {i : Nat} {d : α} (h : l[i]? = some d) : l.drop i = d :: l.drop (i + 1) := by
  obtain ⟨hl, rfl⟩ := List.getElem?_eq_some_iff.mp h
  exact List.drop_eq_getElem_cons hl
theorem ds_for (hp : PassesOwn (model X.prog X.w) X.A X.env X.xe) (hc : X.calm = true) (hi : DIt X tg iter fi) (hg : DGt X vs tg g) (hb : DSs X body fb)
    (hs : ∀ x, foldedSetIterable iter X.env x = pure x := by intro _; rfl) : DS X (.For tg iter body [] pos) (xFor fi g fb) :=
  PS.imp (ps_for hp hc hi hg hb hs) fun D σ H ⟨G0, H0, G, ρ, s, q⟩ => by
    unfold xFor at q
    cases z : fi ρ with
    | none => rw [z] at q; exact q.elim
    | some ds =>
      rw [z] at q
      refine ⟨G0, H0, G, ρ, ds, s, z, fun J G1 H1 g1 walk => ⟨fun i m σ' H' => ∃ G2 ρ2, DSt X.K G0 H0 G2 H' σ' ρ2 ∧ Same G1 G2 ∧ i ≤ ds.length ∧ m = ds.length - i ∧ postS X.K G0 H0 G2 D (forL g fb (ds.drop i) ρ2),
        ⟨ds.length, G1, ρ, s.grow g1, .refl _, Nat.zero_le _, rfl, q.mono g1.g⟩, ?_⟩⟩
      rintro i m σ1 H2 ⟨G2, ρ2, s2, g2, hil, rfl, q2⟩
      have w := walk i G2 H2 g2 s2.sub
      cases e : ds[i]? with
      | none =>
        have hi' : ds.length ≤ i := List.getElem?_eq_none_iff.mp e
        have hi'' : i = ds.length := Nat.le_antisymm hil hi'
        refine .inl ⟨w.2 hi'', ?_⟩
        rw [hi'', List.drop_length] at q2
        exact q2 σ1 G2 H2 s2 (.refl _)
      | some d =>
        have hl : i < ds.length := (List.getElem?_eq_some_iff.mp e).1
        rw [drop_eq e] at q2
        unfold forL at q2
        obtain ⟨w1, w2⟩ := w.1 d e
        refine .inr ⟨w1, fun σ' H' => ∃ G3 ρ3, DSt X.K G0 H0 G3 H' σ' ρ3 ∧ Same G1 G3 ∧ postS X.K G0 H0 G3 D (forL g fb (ds.drop (i + 1)) ρ3), fun σ' H' ⟨G3, ρ3, s3, g3, q3⟩ => ⟨ds.length - (i + 1), by omega, G3, ρ3, s3, g3, by omega, rfl, q3⟩, fun x H3 y => ?_⟩
        obtain ⟨G3, g3, r3⟩ := w2 x H3 y
        cases z1 : g d ρ2 with
        | none => rw [z1] at q2; exact q2.elim
        | some ρ3 =>
          rw [z1] at q2
          refine ⟨G0, H0, G3, ρ2, d, ρ3, s2.grow g3, r3, z1, fun σ4 G4 H4 s4 g4 _ => ⟨G0, H0, G4, ρ3, s4, ?_⟩⟩
          have gg : Same G2 G4 := g3.g.trans g4.g
          dsimp only at q2
          cases z2 : fb ρ3 with
          | nx ρ5 =>
            rw [z2] at q2
            exact fun σ5 G5 H5 s5 g5 => ⟨G5, ρ5, s5, g2.trans (gg.trans g5), q2.mono (gg.trans g5)⟩
          | ct ρ5 =>
            rw [z2] at q2
            exact fun σ5 G5 H5 s5 g5 => ⟨G5, ρ5, s5, g2.trans (gg.trans g5), q2.mono (gg.trans g5)⟩
          | bk ρ5 =>
            rw [z2] at q2
            exact fun σ5 G5 H5 s5 g5 => q2 σ5 G5 H5 s5 (gg.trans g5)
          | rt d => rw [z2] at q2; exact q2
          | bad => rw [z2] at q2; exact q2.elim

/-! ### while -/
def whileL (t : FT) (fb : FS) : Nat → FS
  | 0, _ => .bad
  | n + 1, ρ => match t ρ with
    | none => .bad
    | some false => .nx ρ
    | some true => (match fb ρ with
      | .nx ρ2 => whileL t fb n ρ2
      | .ct ρ2 => whileL t fb n ρ2
      | .bk ρ2 => .nx ρ2
      | .rt d => .rt d
      | .bad => .bad)
theorem ds_while {c : Expr} {t : FT} (fuel : DEnv → Nat) (hp : PassesOwn (model X.prog X.w) X.A X.env X.xe) (hc : DT X c t) (hb : DSs X body fb) : DS X (.While c body [] pos) (fun ρ => whileL t fb (fuel ρ) ρ) :=
  PS.imp (ps_while hp hc hb) fun D σ H ⟨G0, H0, G, ρ, s, q⟩ => by
    refine ⟨fun m σ' H' => ∃ G2 ρ2, DSt X.K G0 H0 G2 H' σ' ρ2 ∧ postS X.K G0 H0 G2 D (whileL t fb m ρ2), ⟨_, G, ρ, s, q⟩, ?_⟩
    rintro m σ1 H1 ⟨G2, ρ2, s2, q2⟩
    cases m with
    | zero => exact q2.elim
    | succ m =>
      unfold whileL at q2
      cases z : t ρ2 with
      | none => rw [z] at q2; exact q2.elim
      | some b =>
        refine ⟨G0, H0, G2, ρ2, b, s2, z, fun G3 H3 g3 => ?_⟩
        cases b with
        | false =>
          rw [z] at q2
          exact q2 σ1 G3 H3 (s2.grow g3) g3.g
        | true =>
          rw [z] at q2
          refine ⟨fun σ' H' => ∃ G3 ρ3, DSt X.K G0 H0 G3 H' σ' ρ3 ∧ postS X.K G0 H0 G3 D (whileL t fb m ρ3), fun σ' H' h => ⟨m, Nat.lt_succ_self m, h⟩, G0, H0, G3, ρ2, s2.grow g3, ?_⟩
          cases z2 : fb ρ2 with
          | nx ρ5 =>
            rw [z2] at q2
            exact fun σ5 G5 H5 s5 g5 => ⟨G5, ρ5, s5, q2.mono (g3.g.trans g5)⟩
          | ct ρ5 =>
            rw [z2] at q2
            exact fun σ5 G5 H5 s5 g5 => ⟨G5, ρ5, s5, q2.mono (g3.g.trans g5)⟩
          | bk ρ5 =>
            rw [z2] at q2
            exact fun σ5 G5 H5 s5 g5 => q2 σ5 G5 H5 s5 (g3.g.trans g5)
          | rt d => rw [z2] at q2; exact q2
          | bad => rw [z2] at q2; exact q2.elim

/-! ### comprehensions -/
def wipeD (ρ : DEnv) : List Nat → DEnv
  | [] => ρ
  | v :: vs => (wipeD ρ vs).set v none
theorem wipeD_get {ρ : DEnv} : ∀ {vs : List Nat} {j : Nat}, (wipeD ρ vs)[j]? = if j ∈ vs then ρ[j]?.map (fun _ => none) else ρ[j]?
  | [], j => by simp [wipeD]
  | v :: vs, j => by
    have hlen : ∀ us : List Nat, (wipeD ρ us).length = ρ.length := fun us => by
      induction us with
      | nil => rfl
      | cons u us ih => unfold wipeD; rw [List.length_set, ih]
    unfold wipeD
    by_cases h : v = j
    · subst h
      by_cases hl : v < ρ.length
      · rw [List.getElem?_set_self (by rw [hlen]; exact hl)]
        simp [hl]
      · rw [List.getElem?_eq_none (by rw [List.length_set, hlen]; omega)]
        simp [hl]
    · rw [List.getElem?_set_ne h, wipeD_get]
      have : j ≠ v := fun e => h e.symm
      simp [this]
theorem wipeD_length (ρ : DEnv) : ∀ us : List Nat, (wipeD ρ us).length = ρ.length
  | [] => rfl
  | u :: us => by unfold wipeD; rw [List.length_set, wipeD_length ρ us]
theorem wipeD_some {ρ : DEnv} {vs : List Nat} {j : Nat} {d : Sl} (h : (wipeD ρ vs)[j]? = some (some d)) : ρ[j]? = some (some d) ∧ j ∉ vs := by
  rw [wipeD_get] at h
  split at h
  · cases e : ρ[j]? with
    | none => rw [e] at h; cases h
    | some x => rw [e] at h; cases h
  · rename_i n; exact ⟨h, n⟩
theorem DSt.wiped {K : PySem.W.Frag} {G0 : Ent} {H0 G H : Hp} {σ : L2.St} {ρ : DEnv} (s : DSt K G0 H0 G H σ ρ) (vs : List Nat) : DSt K G0 H0 G H (wipe σ vs) (wipeD ρ vs) where
  gr := s.gr
  len := by rw [wipe_length, wipeD_length]; exact s.len
  val := fun i d e => by
    obtain ⟨e1, n⟩ := wipeD_some e
    obtain ⟨v, a, b⟩ := s.val i d e1
    exact ⟨v, by rw [wipe_out n]; exact a, b⟩
  own := fun i d e => by
    obtain ⟨e1, n⟩ := wipeD_some e
    obtain ⟨p, a, b⟩ := s.own i d e1
    exact ⟨p, by rw [wipe_out n]; exact a, b⟩
  sep := fun i j d e p h q1 q2 q3 q4 => by
    obtain ⟨e1, n1⟩ := wipeD_some q1
    obtain ⟨e2, n2⟩ := wipeD_some q2
    rw [wipe_out n1] at q3
    rw [wipe_out n2] at q4
    exact s.sep i j d e p h e1 e2 q3 q4
  slf := fun p d h1 h2 q => by
    obtain ⟨e1, n1⟩ := wipeD_some q
    rw [wipe_out n1]
    exact s.slf p d h1 h2 e1
def lcL (g : FG) (t : FT) (fe : FE) (ρ : DEnv) : List D → Option (List D)
  | [] => some []
  | d :: ds => (g d ρ).bind fun ρ1 => (t ρ1).bind fun b => if b then (fe ρ1).bind fun y => (lcL g t fe ρ ds).map (y :: ·) else lcL g t fe ρ ds
def tYesD : FT := fun _ => some true
def eLc (fi : FI) (vs : List Nat) (g : FG) (t : FT) (fe : FE) : FE := fun ρ => (fi ρ).bind fun ds => (lcL g t fe (wipeD ρ vs) ds).bind fun ys => if ys.length ≤ sizeLine then some (.lst ys) else none
def DTs (X : Cx) (ifs : List Expr) (t : FT) : Prop := PTs X ifs (liftT X.K t)
theorem PTs.imp {X : Cx} {e : List Expr} {t t' : TT} (h : PTs X e t) (q : ∀ σ H Q, t' σ H Q → t σ H Q) : PTs X e t' := ⟨fun pins s σ H Q I w => h.run pins s σ H Q I (q σ H Q w)⟩
theorem dts_nil : DTs X [] tYesD := PTs.imp pts_nil fun σ H Q ⟨G0, H0, G, ρ, b, s, q, k⟩ => by cases q; exact k G H (.refl s.sub)
theorem dts_one {t : FT} (h : DT X e t) : DTs X [e] t := pts_one h
/-- the heap of a comprehension's turns: D grows, all else stays -/
structure LcSt (K : PySem.W.Frag) (G1 H1 : Hp) (p : Addr) (out : List D) (G H : Hp) : Prop where
  g : Grow G1 H1 G H
  at_ : ∃ acc, H p = some (.lst acc) ∧ RepL K G out acc
  out : G p = none
theorem LcSt.grow {K : PySem.W.Frag} {G1 H1 G H G' H' : Hp} {p : Addr} {out : List D} (s : LcSt K G1 H1 p out G H) (g : Grow G H G' H') : LcSt K G1 H1 p out G' H' := by
  obtain ⟨acc, e, r⟩ := s.at_
  exact ⟨s.g.trans g, ⟨acc, g.h _ _ e, r.mono g.g⟩, g.fr p _ e rfl s.out⟩
theorem LcSt.push {K : PySem.W.Frag} {G1 H1 G H : Hp} {p : Addr} {out : List D} {y : D} {v : V} {acc : List V} (hn : H1 p = none) (s : LcSt K G1 H1 p out G H) (e : H p = some (.lst acc)) (r : RepL K G out acc) (ry : Rep K G y v) : LcSt K G1 H1 p (out ++ [y]) G (upd H p (.lst (acc ++ [v]))) := by
  refine ⟨⟨s.g.g, fun a x h => ?_, fun a x h => ?_, s.g.fr⟩, ⟨_, upd_same, r.app (.one ry)⟩, s.out⟩
  · rw [upd_ne (ne_of_none h hn)]; exact s.g.h _ _ h
  · rw [upd_ne (ne_of_none h s.out)]; exact s.g.sub _ _ h
theorem wipe_wipe (σ : L2.St) (vs : List Nat) : wipe (wipe σ vs) vs = wipe σ vs := by
  apply List.ext_getElem?
  intro j
  rw [wipe_get, wipe_get]
  split
  · cases σ[j]? <;> rfl
  · rfl
theorem lift_lc {K : PySem.W.Frag} {t : FT} {fe : FE} {σ : L2.St} {H : Hp} {Q : VK} (h : liftF K (eLc fi vs g t fe) σ H Q) : tLc (liftI K fi) (liftG K vs g) (liftT K t) (liftE K fe) vs σ H Q := by
    obtain ⟨G0, H0, G, ρ, d, s, q, k⟩ := h
    obtain ⟨ds, z, q⟩ := bind_inv q
    obtain ⟨ys, z2, q⟩ := bind_inv q
    split at q
    · rename_i hsz
      cases q
      refine ⟨G0, H0, G, ρ, ds, s, z, fun J G1 H1 g1 walk p hp => ?_⟩
      have hgp : G1 p = none := g1.sub.free hp
      have hH : H p = none := g1.h.free hp
      refine ⟨fun i m H' => ∃ G2 out rest, LcSt K G1 H1 p out G2 H' ∧ i ≤ ds.length ∧ m = ds.length - i ∧ lcL g t fe (wipeD ρ vs) (ds.drop i) = some rest ∧ out ++ rest = ys,
        ⟨ds.length, G1, [], ys, ⟨Grow.out g1.sub hp, ⟨[], upd_same, .nil⟩, hgp⟩, Nat.zero_le _, rfl, z2, rfl⟩, ?_⟩
      rintro i m H2 ⟨G2, out, rest, l2, hil, rfl, z3, e3⟩
      have w := walk i G2 H2 l2.g.g l2.g.sub
      cases e : ds[i]? with
      | none =>
        have hi' : ds.length ≤ i := List.getElem?_eq_none_iff.mp e
        have hi'' : i = ds.length := Nat.le_antisymm hil hi'
        rw [hi'', List.drop_length] at z3
        cases z3
        rw [List.append_nil] at e3
        subst e3
        obtain ⟨acc, a1, a2⟩ := l2.at_
        exact .inl ⟨w.2 hi'', k p G2 H2 (g1.trans l2.g) hH l2.out ⟨acc, a1, a2⟩⟩
      | some d =>
        have hl : i < ds.length := (List.getElem?_eq_some_iff.mp e).1
        rw [drop_eq e] at z3
        unfold lcL at z3
        obtain ⟨ρ1, z4, z3⟩ := bind_inv z3
        obtain ⟨b, z5, z3⟩ := bind_inv z3
        obtain ⟨w1, w2⟩ := w.1 d e
        refine .inr ⟨w1, fun H' => ∃ G3 out rest, LcSt K G1 H1 p out G3 H' ∧ lcL g t fe (wipeD ρ vs) (ds.drop (i + 1)) = some rest ∧ out ++ rest = ys, fun H' ⟨G3, out', rest', l3, y1, y2⟩ => ⟨ds.length - (i + 1), by omega, G3, out', rest', l3, by omega, rfl, y1, y2⟩, fun x H3 y => ?_⟩
        obtain ⟨G3, g3, r3⟩ := w2 x H3 y
        have s2 : DSt K G0 H0 G3 H3 (wipe σ vs) (wipeD ρ vs) := (s.wiped _).grow (g1.trans (l2.g.trans g3))
        have l3 := l2.grow g3
        refine ⟨G0, H0, G3, wipeD ρ vs, d, ρ1, s2, r3, z4, fun σ4 G4 H4 s4 g4 hw => ⟨hw.trans (wipe_wipe _ _), G0, H0, G4, ρ1, b, s4, z5, fun G5 H5 g5 => ?_⟩⟩
        have l5 := (l3.grow g4).grow g5
        cases b with
        | false =>
          refine iteF ⟨G5, out, rest, l5, z3, e3⟩
        | true =>
          refine iteT ?_
          obtain ⟨y', z6, z3⟩ := bind_inv z3
          obtain ⟨rest', z7, z8⟩ := map_inv z3
          subst z8
          refine ⟨G0, H0, G5, ρ1, y', s4.grow g5, z6, fun v G6 H6 g6 r6 => ?_⟩
          have l6 := l5.grow g6
          obtain ⟨acc, a1, a2⟩ := l6.at_
          refine ⟨acc, a1, ?_, G6, out ++ [y'], rest', l6.push hp a1 a2 r6, z7, by rw [List.append_assoc]; exact e3⟩
          rw [a2.len]
          have : (out ++ y' :: rest').length ≤ sizeLine := by rw [e3]; exact hsz
          rw [List.length_append, List.length_cons] at this
          omega
    · cases q
section
variable {elt : Expr} {ifs : List Expr} {scope : Scope} {own : List (Str × Nat)} {t : FT} {fe : FE}
theorem df_lc (hc : X.calm = true) (hN : X.N.Nodup) (hi : DIt X tg iter fi) (ok : BlkOk X.N X.env.scope scope own)
    (hg : ∀ (s : Shared) (H : Hp) (C : Addr) (cl : List (Str × Addr)) (fp : List Addr), DGt (X.blk s H scope (compEnvC scope cl C X.env) fp) (own.map (·.2)) tg g) (ht : ∀ (s : Shared) (H : Hp) (C : Addr) (cl : List (Str × Addr)) (fp : List Addr), DTs (X.blk s H scope (compEnvC scope cl C X.env) fp) ifs t)
    (he : ∀ (s : Shared) (H : Hp) (C : Addr) (cl : List (Str × Addr)) (fp : List Addr), DE (X.blk s H scope (compEnvC scope cl C X.env) fp) elt fe) (hs : ∀ x, foldedSetIterable iter X.env x = pure x := by intro _; rfl) :
    DF X (.ListComp elt [⟨tg, iter, ifs, 0⟩] scope pos) (eLc fi (own.map (·.2)) g t fe) :=
  PE.imp (pe_lc (wi := liftI X.K fi) (g := liftG X.K (own.map (fun x : Str × Nat => x.2)) g) (tt := liftT X.K t) (te := liftE X.K fe) hc hN hi ok hg ht he hs) fun σ H Q h => lift_lc h
theorem tAsg_imp {te te' : TE} {g : V → L2.St → Hp → (L2.St → Hp → Prop) → Prop} {D : Ends} {σ : L2.St} {H : Hp} (h : ∀ Q, te σ H Q → te' σ H Q) (q : tAsg te g D σ H) : tAsg te' g D σ H := h _ q
/-- name = [..] on one line -/
theorem ds_newLc (i : Nat) {y : Str} {py spos : Pos} (hc : X.calm = true) (hN : X.N.Nodup) (hi : DIt X tg iter fi) (ok : BlkOk X.N X.env.scope scope own)
    (hg : ∀ (s : Shared) (H : Hp) (C : Addr) (cl : List (Str × Addr)) (fp : List Addr), DGt (X.blk s H scope (compEnvC scope cl C X.env) fp) (own.map (·.2)) tg g) (ht : ∀ (s : Shared) (H : Hp) (C : Addr) (cl : List (Str × Addr)) (fp : List Addr), DTs (X.blk s H scope (compEnvC scope cl C X.env) fp) ifs t)
    (he : ∀ (s : Shared) (H : Hp) (C : Addr) (cl : List (Str × Addr)) (fp : List Addr), DE (X.blk s H scope (compEnvC scope cl C X.env) fp) elt fe)
    (hy : X.N[i]? = some y := by rfl) (hyl : X.env.scope.names.lookup y = some .local := by rfl) (hsw : swapsWith (.ListComp elt [⟨tg, iter, ifs, 0⟩] scope pos) (some (.Name y py)) spos.line X.env = pure true := by rfl)
    (hs : ∀ x, foldedSetIterable iter X.env x = pure x := by intro _; rfl) :
    DS X (.Assign [.Name y py] (.ListComp elt [⟨tg, iter, ifs, 0⟩] scope pos) spos) (xNew i (eLc fi (own.map (·.2)) g t fe)) :=
  PS.imp (ps_setLc (wi := liftI X.K fi) (g := liftG X.K (own.map (fun x : Str × Nat => x.2)) g) (tt := liftT X.K t) (te := liftE X.K fe) hc hN hy hyl hsw hi ok hg ht he hs) fun D σ H h => tAsg_imp (fun Q h => lift_lc h) (liftNew h)
end
end
end DL
namespace DL
open PySem PySem.Spec PyProof.Rows L2

def XF : XK := fun _ _ _ => False
theorem pass_xf {X : Cx} : Passes (L2.CX X.prog X.w) X XF := fun _ _ _ _ _ _ _ h => by
  obtain ⟨_, _, _, _, _, _, _, _, _, _, _, _, e⟩ := h
  exact e.elim

/-! ### what a def promises, as data -/
abbrev FF := List D → Option D
def spD (K : PySem.W.Frag) (n : Nat) (F : FF) : Sp := fun vs H Q _ => ∃ G ds d, Same G H ∧ RepL K G ds vs ∧ ds.length = n ∧ F ds = some d ∧ ∀ v G' H', Grow G H G' H' → Rep K G' d v → Q v H'
/-- x names a def; dds: the defaults that the call leaves out -/
structure DFn (P : Program) (w : World) (K : PySem.W.Frag) (mg : Str → Option Value) (base : Heap) (x : Str) (k n : Nat) (dds : List D) (F : FF) : Prop where
  ex : ∃ f fd ps ds dvs, mg x = some (.ref f) ∧ PySem.W.keepIn K (.ref f) = true ∧ ps.length = n ∧ Binds K fd ps ds ∧ Vals dvs ds ∧ (∀ G, RepL K G dds dvs) ∧ FnOk P w K mg base (L2.CX P w) k f fd ps (spD K n F)
/-- m is a method of the class c -/
structure DMe (P : Program) (w : World) (K : PySem.W.Frag) (mg : Str → Option Value) (base : Heap) (c m : Str) (k n : Nat) (dds : List D) (F : FF) : Prop where
  ex : ∃ f fd ps ds dvs, Cls K (He.ga K c) ∧ Meth K (He.ga K c) m f ∧ ps.length = n ∧ Binds K fd ps ds ∧ Vals dvs ds ∧ (∀ G, RepL K G dds dvs) ∧ FnOk P w K mg base (L2.CX P w) k f fd ps (spD K n F)
/-- what __init__ promises: the fields that it sets -/
abbrev FIn := List D → Option (List Str × List D)
def spI (K : PySem.W.Frag) (c : Str) (n : Nat) (F : FIn) : Sp := fun vs H Q _ => ∃ G p dx us ds ns xs, vs = .ref p :: us ∧ H p = some (.ins (He.ga K c) dx []) ∧ G p = none ∧ Same G H ∧ RepL K G ds us ∧ ds.length + 1 = n ∧ F ds = some (ns, xs) ∧
  ∀ G' H', Grow G (fun a => if a = p then none else H a) G' H' → G' p = none → ORep K G' H' p (.obj c ns xs) → Q .non H'
structure DMk (P : Program) (w : World) (K : PySem.W.Frag) (mg : Str → Option Value) (base : Heap) (c : Str) (k n : Nat) (dds : List D) (F : FIn) : Prop where
  ex : ∃ f fd ps ds dvs, mg c = some (.ref (He.ga K c)) ∧ Mk K (He.ga K c) f ∧ ps.length = n + 1 ∧ Binds K fd ps ds ∧ Vals dvs ds ∧ (∀ G, RepL K G dds dvs) ∧ FnOk P w K mg base (L2.CX P w) k f fd ps (spI K c (n + 1) F)

section
variable {X : Cx} {e o : Expr} {es : List Expr} {pos p apos : Pos} {fa : FA} {fo : FE} {x c m : Str} {k n : Nat} {dds : List D} {F : FF}
def eCall (F : FF) (dds : List D) (n : Nat) (fa : FA) : FE := fun ρ => (fa ρ).bind fun ds => if (ds ++ dds).length = n then F (ds ++ dds) else none
theorem liftCall {X : Cx} {ps : List Str} {dvs : List V} {t : TA} (ht : ∀ σ H Q, liftA X.K fa σ H Q → t σ H Q) (hd : ∀ G, RepL X.K G dds dvs) {σ : L2.St} {H : Hp} {Q : VK} (h : liftE X.K (eCall F dds n fa) σ H Q) : tCall (spD X.K n F) dvs XF t σ H Q := by
  obtain ⟨G0, H0, G, ρ, d, s, q, kk⟩ := h
  obtain ⟨ds, z, q⟩ := bind_inv q
  split at q
  · rename_i hl
    refine ht _ _ _ ⟨G0, H0, G, ρ, ds, s, z, fun vs G1 H1 g1 r1 => ?_⟩
    exact ⟨G1, _, d, g1.sub, r1.app (hd G1), hl, q, fun v G2 H2 g2 r2 => kk v G2 H2 (g1.trans g2) r2⟩
  · cases q
theorem de_call (h : DFn X.prog X.w X.K X.mg X.base x k n dds F) (hr : Room k X.A) (hg : Gl X x) (ha : DAr X (e :: es) fa) (hdb : (x == ("__debug__" : Str)) = false := by decide)
    (he : starEach (e :: es) X.env = (false, eval e X.env) :: starEach es X.env := by rfl) (hpl : (backTo pos (starEach es X.env)).any (·.1) = false := by rfl) : DE X (.Call (.Name x p) (e :: es) [] pos) (eCall F dds n fa) := by
  obtain ⟨f, fd, ps, ds, dvs, hm, hk, hl, hb, hv, hd, ok⟩ := h.ex
  exact PE.imp (pe_call ok hr hg hm hk hb hv pass_xf ha.run hdb he hpl) fun σ H Q h => liftCall (ps := ps) (fun _ _ _ q => q) hd h
theorem de_call0 (h : DFn X.prog X.w X.K X.mg X.base x k n dds F) (hr : Room k X.A) (hg : Gl X x) (hdb : (x == ("__debug__" : Str)) = false := by decide) : DE X (.Call (.Name x p) [] [] pos) (eCall F dds n aNil) := by
  obtain ⟨f, fd, ps, ds, dvs, hm, hk, hl, hb, hv, hd, ok⟩ := h.ex
  refine PE.imp (pe_call0 ok hr hg hm hk hb hv pass_xf hdb) fun σ H Q h => liftCall (ps := ps) (fun σ H Q ⟨G0, H0, G, ρ, ds, s, q, kk⟩ => ?_) hd h
  cases q
  exact kk [] G H (.refl s.sub) .nil
/-- o.m(..), o an instance of the class c -/
def eMeth (c m : Str) (F : FF) (dds : List D) (n : Nat) (fo : FE) (fa : FA) : FE := fun ρ => match fo ρ with
  | some (.obj c' ns xs) => if c' = c ∧ m ∉ ns then (fa ρ).bind fun ds => if (D.obj c' ns xs :: (ds ++ dds)).length = n then F (.obj c' ns xs :: (ds ++ dds)) else none else none
  | _ => none
theorem zip_no {m : Str} : ∀ {ns : List Str} {vs : List V}, m ∉ ns → (ns.zip vs).lookup m = none
  | [], _, _ => rfl
  | n :: ns, [], _ => rfl
  | n :: ns, v :: vs, h => by
    have h1 : m ≠ n := fun e => h (by rw [e]; exact List.mem_cons_self ..)
    have h2 : m ∉ ns := fun q => h (List.mem_cons_of_mem _ q)
    show List.lookup m ((n, v) :: ns.zip vs) = none
    rw [List.lookup_cons]
    rw [show (m == n) = false by exact beq_eq_false_iff_ne.mpr h1]
    exact zip_no h2
theorem liftMeth {X : Cx} {dvs : List V} {t : TA} (ht : ∀ σ H Q, liftA X.K fa σ H Q → t σ H Q) (hd : ∀ G, RepL X.K G dds dvs) {σ : L2.St} {H : Hp} {Q : VK} (h : liftE X.K (eMeth c m F dds n fo fa) σ H Q) : tMeth (He.ga X.K c) m (spD X.K n F) dvs XF (liftE X.K fo) t σ H Q := by
  obtain ⟨G0, H0, G, ρ, d, s, q, kk⟩ := h
  unfold eMeth at q
  split at q
  · rename_i c' ns xs z
    split at q
    · rename_i hc
      obtain ⟨rfl, hm⟩ := hc
      obtain ⟨ds, z2, q⟩ := bind_inv q
      split at q
      · rename_i hl
        refine ⟨G0, H0, G, ρ, _, s, z, fun v G1 H1 g1 r1 => ?_⟩
        obtain ⟨a, dx, vs, rfl, ha, hn, rr⟩ := rep_obj.mp r1
        refine ⟨a, dx, _, rfl, g1.sub _ _ ha, zip_no hm, ht _ _ _ ⟨G0, H0, G1, ρ, ds, s.grow g1, z2, fun us G2 H2 g2 r2 => ?_⟩⟩
        exact ⟨G2, _, d, g2.sub, .cons (r1.mono g2.g) (r2.app (hd G2)), hl, q, fun v G3 H3 g3 r3 => kk v G3 H3 ((g1.trans g2).trans g3) r3⟩
      · cases q
    · cases q
  · cases q
theorem de_meth {pl : Sem Bool} (h : DMe X.prog X.w X.K X.mg X.base c m k n dds F) (hr : Room k X.A) (ho : DE X o fo) (ha : DAr X (e :: es) fa)
    (hst : starEach (e :: es) X.env = (false, eval e X.env) :: starEach es X.env := by rfl) (hpl : (backTo pos (starEach es X.env)).any (·.1) = false := by rfl)
    (ht : eval (.Call (.Attribute o m apos) (e :: es) [] pos) X.env = (do
      let ov ← eval o X.env
      standAt apos.atName
      let (f, first) ← holding [ov] (getMethod ov m pl)
      callWith pos f first (backTo pos (starEach (e :: es) X.env)) (backToKw pos (keywordEach [] X.env))) := by rfl) : DE X (.Call (.Attribute o m apos) (e :: es) [] pos) (eMeth c m F dds n fo fa) := by
  obtain ⟨f, fd, ps, ds, dvs, hc, hm, hl, hb, hv, hd, ok⟩ := h.ex
  exact PE.imp (pe_meth ho hc hm ok hr hb hv pass_xf ha.run hst hpl ht) fun σ H Q h => liftMeth (fun _ _ _ q => q) hd h
theorem de_meth0 {pl : Sem Bool} (h : DMe X.prog X.w X.K X.mg X.base c m k n dds F) (hr : Room k X.A) (ho : DE X o fo)
    (ht : eval (.Call (.Attribute o m apos) [] [] pos) X.env = (do
      let ov ← eval o X.env
      standAt apos.atName
      let (f, first) ← holding [ov] (getMethod ov m pl)
      callWith pos f first (backTo pos (starEach [] X.env)) (backToKw pos (keywordEach [] X.env))) := by rfl) : DE X (.Call (.Attribute o m apos) [] [] pos) (eMeth c m F dds n fo aNil) := by
  obtain ⟨f, fd, ps, ds, dvs, hc, hm, hl, hb, hv, hd, ok⟩ := h.ex
  refine PE.imp (pe_meth0 ho hc hm ok hr hb hv pass_xf ht) fun σ H Q h => liftMeth (fun σ H Q ⟨G0, H0, G, ρ, ds, s, q, kk⟩ => ?_) hd h
  cases q
  exact kk [] G H (.refl s.sub) .nil
/-! #### an instance is made -/
def eMake (c : Str) (F : FIn) (dds : List D) (n : Nat) (fa : FA) : FE := fun ρ => (fa ρ).bind fun ds => if (ds ++ dds).length = n then (F (ds ++ dds)).map fun q => .obj c q.1 q.2 else none
theorem liftMake {X : Cx} {dvs : List V} {t : TA} {F : FIn} (ht : ∀ σ H Q, liftA X.K fa σ H Q → t σ H Q) (hd : ∀ G, RepL X.K G dds dvs) {σ : L2.St} {H : Hp} {Q : VK} (h : liftF X.K (eMake c F dds n fa) σ H Q) : tMake (He.ga X.K c) (spI X.K c (n + 1) F) dvs XF t σ H Q := by
  obtain ⟨G0, H0, G, ρ, d, s, q, kk⟩ := h
  obtain ⟨ds, z, q⟩ := bind_inv q
  split at q
  · rename_i hl
    obtain ⟨⟨ns, xs⟩, q1, q2⟩ := map_inv q
    subst q2
    refine ht _ _ _ ⟨G0, H0, G, ρ, ds, s, z, fun vs G1 H1 g1 r1 x dx hx hdx hne => ?_⟩
    have hGx : G1 x = none := g1.sub.free hx
    have sub : Same G1 (upd (upd H1 dx (.own x)) x (.ins (He.ga X.K c) dx [])) := (g1.sub.trans (same_upd hdx)).trans (same_upd (by rw [upd_ne (Ne.symm hne)]; exact hx))
    refine ⟨G1, x, dx, _, _, ns, xs, rfl, upd_same, hGx, sub, r1.app (hd G1), by rw [hl], q1, fun G' H' g' np ro => ⟨rfl, ?_⟩⟩
    have gg : Grow G1 H1 G' H' := by
      refine ⟨g'.g, fun a o h => g'.h _ _ ?_, g'.sub, fun a o h1 ht h2 => g'.fr a o ?_ ht h2⟩
      · have h1 : a ≠ x := ne_of_none h hx
        have h2 : a ≠ dx := ne_of_none h hdx
        show (if a = x then none else _) = _
        rw [if_neg h1, upd_ne h1, upd_ne h2]
        exact h
      · have h3 : a ≠ x := ne_of_none h1 hx
        have h4 : a ≠ dx := ne_of_none h1 hdx
        show (if a = x then none else _) = _
        rw [if_neg h3, upd_ne h3, upd_ne h4]
        exact h1
    exact kk x G' H' (g1.trans gg) (g1.h.free hx) np ro
  · cases q
theorem df_make {F : FIn} (h : DMk X.prog X.w X.K X.mg X.base c k n dds F) (hr : Room (k + 1) X.A) (hg : Gl X c) (ha : DAr X (e :: es) fa) (hdb : (c == ("__debug__" : Str)) = false := by decide)
    (he : starEach (e :: es) X.env = (false, eval e X.env) :: starEach es X.env := by rfl) (hpl : (backTo pos (starEach es X.env)).any (·.1) = false := by rfl) : DF X (.Call (.Name c p) (e :: es) [] pos) (eMake c F dds n fa) := by
  obtain ⟨f, fd, ps, ds, dvs, hm, mk, hl, hb, hv, hd, ok⟩ := h.ex
  exact PE.imp (pe_make mk ok hr hg hm hb hv pass_xf ha.run hdb he hpl) fun σ H Q h => liftMake (fun _ _ _ q => q) hd h
theorem df_make0 {F : FIn} (h : DMk X.prog X.w X.K X.mg X.base c k n dds F) (hr : Room (k + 1) X.A) (hg : Gl X c) (hdb : (c == ("__debug__" : Str)) = false := by decide) : DF X (.Call (.Name c p) [] [] pos) (eMake c F dds n aNil) := by
  obtain ⟨f, fd, ps, ds, dvs, hm, mk, hl, hb, hv, hd, ok⟩ := h.ex
  refine PE.imp (pe_make0 mk ok hr hg hm hb hv pass_xf hdb) fun σ H Q h => liftMake (fun σ H Q ⟨G0, H0, G, ρ, ds, s, q, kk⟩ => ?_) hd h
  cases q
  exact kk [] G H (.refl s.sub) .nil
end

/-! ### a def keeps its promise -/
def startD (N : Nat) (ds : List D) : DEnv := ds.map (fun d => some (.val d)) ++ List.replicate (N - ds.length) none
def fnOfS (N : Nat) (f : FS) : FF := fun ds => match f (startD N ds) with
  | .rt d => some d
  | .nx _ => some .non
  | _ => none
theorem rep_split {α : Type} {l m : List (Option α)} {i : Nat} {x : α} {n : Nat} (h : (l ++ List.replicate n none)[i]? = some (some x)) : l[i]? = some (some x) := by
  by_cases hi : i < l.length
  · rw [List.getElem?_append_left hi] at h; exact h
  · rw [List.getElem?_append_right (by omega), List.getElem?_replicate] at h
    split at h <;> cases h
theorem dst_start {K : PySem.W.Frag} {G H : Hp} {N : List Str} {vs : List V} {ds : List D} (s : Same G H) (r : RepL K G ds vs) : DSt K ⟨G, none⟩ H G H (start N vs) (startD N.length ds) where
  gr := .refl s
  len := by unfold L2.start startD; simp [r.len]
  val := fun i d e => by
    have e1 := rep_split (m := []) e
    rw [List.getElem?_map] at e1
    cases z : ds[i]? with
    | none => rw [z] at e1; cases e1
    | some x =>
      rw [z] at e1
      cases e1
      obtain ⟨v, a, b⟩ := r.get z
      refine ⟨v, ?_, b⟩
      unfold L2.start
      rw [List.getElem?_append_left (by rw [List.length_map]; exact (List.getElem?_eq_some_iff.mp a).1), List.getElem?_map, a]
      rfl
  own := fun i d e => by
    have e1 := rep_split (m := []) e
    rw [List.getElem?_map] at e1
    cases z : ds[i]? with
    | none => rw [z] at e1; cases e1
    | some x => rw [z] at e1; cases e1
  sep := fun i j d e' p h e _ _ _ => by
    have e1 := rep_split (m := []) e
    rw [List.getElem?_map] at e1
    cases z : ds[i]? with
    | none => rw [z] at e1; cases e1
    | some x => rw [z] at e1; cases e1
  slf := fun p d h _ _ => by cases h
section
variable {P : Program} {w : World} {K : PySem.W.Frag} {mg : Str → Option Value} {base : Heap} {x qual : Str} {params : Arguments} {body : List Stmt} {scope : Scope} {dvs : List V} {kws : List (Str × V)} {f : Addr} {fd : FuncData} {N ps : List Str} {k : Nat}
theorem fnok {fb : FS} (F : FunD K x qual params body scope dvs kws f fd) (S : FnScope N ps scope)
    (hb : ∀ (cdv : Value) (A : Around) (outer : List Env) (s : Shared) (H : Hp) (E : XK), Room k (A.deeper (envOfC qual scope s.heap.objs.size f cdv)) → DSs (cxOf (L2.CX P w) P w K mg base N qual scope f cdv A outer s H E).nox body fb) :
    FnOk P w K mg base (L2.CX P w) (k + 1) f fd ps (spD K ps.length (fnOfS N.length fb)) :=
  F.ok S (fun vs H Q E ⟨G, ds, d, _, r, hl, _⟩ => by rw [r.len]; exact hl) fun cdv A outer s H vs Q E hr ⟨G, ds, d, sg, r, hl, q, kk⟩ => by
    refine ⟨_, PSs.nox (hb cdv A outer s H E hr), ⟨G, none⟩, H, G, _, dst_start sg r, ?_⟩
    unfold fnOfS at q
    show postS K ⟨G, none⟩ H G _ _
    split at q
    · rename_i d' z
      cases q
      rw [z]
      exact fun v G' H' g r' => kk v G' H' g r'
    · rename_i ρ' z
      cases q
      rw [z]
      exact fun σ' G' H' s' _ => kk .non G' H' s'.gr (rep_non.mpr rfl)
    · cases q
def startI (c : Str) (N : Nat) (ds : List D) : DEnv := some (.own (.obj c [] [])) :: startD (N - 1) ds
def inOfS (c : Str) (N : Nat) (f : FS) : FIn := fun ds => match f (startI c N ds) with
  | .nx ρ => (match ρ[0]? with
    | some (some (Sl.own (D.obj c' ns xs))) => if c' = c then some (ns, xs) else none
    | _ => none)
  | _ => none
theorem dst_startI {K : PySem.W.Frag} {G H : Hp} {n0 : Str} {N : List Str} {us : List V} {ds : List D} {c : Str} {p : Addr} {dx : Addr} (hp : H p = some (.ins (He.ga K c) dx [])) (hg : G p = none) (s : Same G H) (r : RepL K G ds us) :
    DSt K ⟨G, some p⟩ (fun a => if a = p then none else H a) G H (start (n0 :: N) (.ref p :: us)) (startI c (n0 :: N).length ds) where
  gr := ⟨.refl _, fun a o h => by
      by_cases e : a = p
      · rw [if_pos e] at h; cases h
      · rw [if_neg e] at h; exact h, s, fun a _ _ _ h => h⟩
  len := by unfold L2.start startI startD; simp [r.len]
  val := fun i d e => by
    cases i with
    | zero => cases e
    | succ i =>
      have s0 := dst_start (N := N) s r
      obtain ⟨v, a, b⟩ := s0.val i d (by simpa [startI] using e)
      refine ⟨v, ?_, b⟩
      unfold L2.start at a ⊢
      simpa using a
  own := fun i d e => by
    cases i with
    | zero =>
      cases e
      exact ⟨p, rfl, if_pos rfl, hg, dx, [], hp, rfl, .nil⟩
    | succ i =>
      have s0 := dst_start (N := N) s r
      obtain ⟨q, a, b, _, b3⟩ := s0.own i d (by simpa [startI] using e)
      exact absurd b b3.there
  sep := fun i j d e p' h e1 e2 h1 h2 => by
    have s0 := dst_start (N := N) s r
    cases i with
    | zero =>
      cases j with
      | zero => exact h rfl
      | succ j =>
        obtain ⟨q, a, b, _, b3⟩ := s0.own j e (by simpa [startI] using e2)
        exact absurd b b3.there
    | succ i =>
      obtain ⟨q, a, b, _, b3⟩ := s0.own i d (by simpa [startI] using e1)
      exact absurd b b3.there
  slf := fun q d h _ _ => by cases h; rfl
theorem inok {fb : FS} {c n0 : Str} {ps0 : List Str} (F : FunD K x qual params body scope dvs kws f fd) (S : FnScope (n0 :: N) (n0 :: ps) scope)
    (hb : ∀ (cdv : Value) (A : Around) (outer : List Env) (s : Shared) (H : Hp) (E : XK), Room k (A.deeper (envOfC qual scope s.heap.objs.size f cdv)) → DSs (cxOf (L2.CX P w) P w K mg base (n0 :: N) qual scope f cdv A outer s H E).nox body fb) :
    FnOk P w K mg base (L2.CX P w) (k + 1) f fd (n0 :: ps) (spI K c (n0 :: ps).length (inOfS c (n0 :: N).length fb)) :=
  F.ok S (fun vs H Q E ⟨G, p, dx, us, ds, ns, xs, e, _, _, _, r, hl, _⟩ => by rw [e, List.length_cons, r.len]; exact hl) fun cdv A outer s H vs Q E hr ⟨G, p, dx, us, ds, ns, xs, e, hp, hg, sg, r, hl, q, kk⟩ => by
    subst e
    refine ⟨_, PSs.nox (hb cdv A outer s H E hr), ⟨G, some p⟩, _, G, _, dst_startI hp hg sg r, ?_⟩
    unfold inOfS at q
    show postS K ⟨G, some p⟩ _ G _ _
    split at q
    · rename_i ρ' z
      rw [z]
      split at q
      · rename_i c' ns' xs' z2
        split at q
        · rename_i hc
          subst hc
          cases q
          intro σ' G' H' s' _
          have e1 := s'.slf p _ rfl rfl z2
          obtain ⟨p', e2, _, g2, o2⟩ := s'.own 0 _ z2
          rw [e1] at e2
          cases e2
          exact kk G' H' s'.gr g2 o2
        · cases q
      · cases q
    · cases q
end
end DL
namespace DL
open PySem PySem.Spec PyProof.Rows L2

section
variable {X : Cx} {a b e : Expr} {fa fb fe : FE} {pos p : Pos}
/-! ### x in l -/
def gIn (x y : D) : Option D := match y with
  | .lst ds => if plain 20 x && plain 20 (.lst ds) then some (.bl (ds.any fun z => eqD z x)) else none
  | _ => none
def gNotIn (x y : D) : Option D := match y with
  | .lst ds => if plain 20 x && plain 20 (.lst ds) then some (.bl (!ds.any fun z => eqD z x)) else none
  | _ => none
theorem any_py (x : D) : ∀ ds : List D, (toPyL ds).any (fun z => PyData.eqv z (toPy x)) = ds.any fun z => eqD z x
  | [] => rfl
  | d :: ds => by simp only [toPyL, List.any_cons, any_py x ds]; rfl
theorem r2d_in {K : PySem.W.Frag} : R2D K (rInD K) gIn := fun G H x y d v u Q s r1 r2 q k => by
  unfold gIn at q
  split at q
  · split at q
    · rename_i c
      obtain ⟨c1, c2⟩ := Bool.and_eq_true_iff.mp c
      cases q
      refine ⟨toPy x, _, rep_dp c1 (r1.rep s (plain_nd c1)), rep_dp c2 (r2.rep s (plain_nd c2)), shaped_of c1 (by decide), shaped_of c2 (by decide), ?_⟩
      rw [any_py]
      exact k _ G H (.refl s) (rep_bl.mpr rfl)
    · cases q
  · cases q
theorem r2d_notIn {K : PySem.W.Frag} : R2D K (rNotInD K) gNotIn := fun G H x y d v u Q s r1 r2 q k => by
  unfold gNotIn at q
  split at q
  · split at q
    · rename_i c
      obtain ⟨c1, c2⟩ := Bool.and_eq_true_iff.mp c
      cases q
      refine ⟨toPy x, _, rep_dp c1 (r1.rep s (plain_nd c1)), rep_dp c2 (r2.rep s (plain_nd c2)), shaped_of c1 (by decide), shaped_of c2 (by decide), ?_⟩
      rw [any_py]
      exact k _ G H (.refl s) (rep_bl.mpr rfl)
    · cases q
  · cases q
theorem Room.u65 {k : Nat} {A : Around} (r : Room k A) : A.units + 65 < cLine := by have := r.un; omega
theorem de_in {k : Nat} (hr : Room k X.A) (ha : DP X a fa) (hb : DP X b fb) (hm : behindInMarks .In b = false := by rfl) : DE X (.Compare a [.In] [b] pos) (eBin gIn fa fb) := de_cmp r2d_in (op_inD (Room.u65 hr)) ha hb hm
theorem de_notIn {k : Nat} (hr : Room k X.A) (ha : DP X a fa) (hb : DP X b fb) (hm : behindInMarks .NotIn b = false := by rfl) : DE X (.Compare a [.NotIn] [b] pos) (eBin gNotIn fa fb) := de_cmp r2d_notIn (op_notInD (Room.u65 hr)) ha hb hm
theorem dt_in {k : Nat} (hr : Room k X.A) (ha : DP X a fa) (hb : DP X b fb) (hm : behindInMarks .In b = false := by rfl) : DT X (.Compare a [.In] [b] pos) (tBool (eBin gIn fa fb)) := dt_cmp r2d_in (op_inD (Room.u65 hr)) ha hb hm
theorem dt_notIn {k : Nat} (hr : Room k X.A) (ha : DP X a fa) (hb : DP X b fb) (hm : behindInMarks .NotIn b = false := by rfl) : DT X (.Compare a [.NotIn] [b] pos) (tBool (eBin gNotIn fa fb)) := dt_cmp r2d_notIn (op_notInD (Room.u65 hr)) ha hb hm

/-! ### list(range(..)), tuple(range(..)) -/
def rgD (i j : Int) : List D := (List.range (j - i).toNat).map fun k => .int (i + (k : Nat))
theorem rep_rg {K : PySem.W.Frag} {G : Hp} {i j : Int} : RepL K G (rgD i j) (rgV i j) := by
  have e1 : rgD i j = ((List.range (j - i).toNat).map fun k : Nat => (i + (k : Nat) : Int)).map D.int := by unfold rgD; rw [List.map_map]; rfl
  have e2 : rgV i j = ((List.range (j - i).toNat).map fun k : Nat => (i + (k : Nat) : Int)).map V.int := by unfold rgV; rw [List.map_map]; rfl
  rw [e1, e2]
  exact RepL.ints.mpr rfl
def rgOkB (i j : Int) : Bool := smallI i && smallI j && decide ((j - i).toNat ≤ 2 ^ 24)
theorem rgOkB_ok {i j : Int} (h : rgOkB i j = true) : RgOk i j := by
  unfold rgOkB at h
  obtain ⟨h1, h3⟩ := Bool.and_eq_true_iff.mp h
  obtain ⟨h1, h2⟩ := Bool.and_eq_true_iff.mp h1
  obtain ⟨a1, a2⟩ := smallI_ok h1
  obtain ⟨b1, b2⟩ := smallI_ok h2
  exact ⟨a1, a2, b1, b2, of_decide_eq_true h3⟩
abbrev FR := DEnv → Option (Int × Int)
def liftR (K : PySem.W.Frag) (f : FR) : L2.St → Hp → (Int → Int → Hp → Prop) → Prop := fun σ H Q => ∃ G0 H0 G ρ i j, DSt K G0 H0 G H σ ρ ∧ f ρ = some (i, j) ∧ ∀ G' H', Grow G H G' H' → Q i j H'
def DRg (X : Cx) (e : Expr) (f : FR) : Prop := PRg X e (liftR X.K f)
theorem PRg.imp {t t' : L2.St → Hp → (Int → Int → Hp → Prop) → Prop} (h : PRg X e t) (q : ∀ σ H Q, t' σ H Q → t σ H Q) : PRg X e t' := fun pins s σ H Q I w => h pins s σ H Q I (q σ H Q w)
def fRg1 (fa : FE) : FR := fun ρ => match fa ρ with
  | some (.int n) => some (0, n)
  | _ => none
def fRg2 (fa fb : FE) : FR := fun ρ => match fa ρ, fb ρ with
  | some (.int i), some (.int j) => some (i, j)
  | _, _ => none
theorem drg_1 (hg : Gl X "range") (hm : X.mg "range" = none) (ha : DP X a fa) (na : starEach [a] X.env = (false, eval a X.env) :: starEach [] X.env := by rfl) : DRg X (.Call (.Name "range" p) [a] [] pos) (fRg1 fa) :=
  PRg.imp (prg_1 hg hm ha na) fun σ H Q ⟨G0, H0, G, ρ, i, j, s, q, k⟩ => by
    unfold fRg1 at q
    split at q
    · rename_i n z
      cases q
      exact ⟨G0, H0, G, ρ, _, s, z, fun v G1 H1 g1 r1 => ⟨_, by simpa using r1, k G1 H1 g1⟩⟩
    · cases q
theorem drg_2 (hg : Gl X "range") (hm : X.mg "range" = none) (ha : DP X a fa) (hb : DP X b fb) (na : starEach [a, b] X.env = (false, eval a X.env) :: starEach [b] X.env := by rfl)
    (nb : starEach [b] X.env = (false, eval b X.env) :: starEach [] X.env := by rfl) (hp : (backTo pos (starEach [b] X.env)).any (·.1) = false := by rfl) : DRg X (.Call (.Name "range" p) [a, b] [] pos) (fRg2 fa fb) :=
  PRg.imp (prg_2 hg hm ha hb na nb hp) fun σ H Q ⟨G0, H0, G, ρ, i, j, s, q, k⟩ => by
    unfold fRg2 at q
    split at q
    · rename_i i' j' z1 z2
      cases q
      exact ⟨G0, H0, G, ρ, _, s, z1, fun v G1 H1 g1 r1 => ⟨G0, H0, G1, ρ, _, s.grow g1, z2, fun u G2 H2 g2 r2 => ⟨_, _, by simpa using r1, by simpa using r2, k G2 H2 (g1.trans g2)⟩⟩⟩
    · cases q
def eLstRg (f : FR) : FE := fun ρ => (f ρ).bind fun q => if rgOkB q.1 q.2 = true then some (.lst (rgD q.1 q.2)) else none
def eTupRg (f : FR) : FE := fun ρ => (f ρ).bind fun q => if rgOkB q.1 q.2 = true then some (.tup (rgD q.1 q.2)) else none
theorem df_listRg {f : FR} (hc : X.calm = true) (hg : Gl X "list") (hm : X.mg "list" = none) (he : DRg X e f) (na : starEach [e] X.env = (false, eval e X.env) :: starEach [] X.env := by rfl) : DF X (.Call (.Name "list" p) [e] [] pos) (eLstRg f) :=
  PE.imp (pe_listRg hc hg hm he na) fun σ H Q ⟨G0, H0, G, ρ, d, s, q, k⟩ => by
    obtain ⟨⟨i, j⟩, z, q⟩ := bind_inv q
    split at q
    · rename_i c
      cases q
      refine ⟨G0, H0, G, ρ, i, j, s, z, fun G1 H1 g1 => ⟨rgOkB_ok c, fun q nq => ?_⟩⟩
      exact k q G1 _ (g1.trans (Grow.out g1.sub nq)) (g1.h.free nq) (g1.sub.free nq) ⟨_, upd_same, rep_rg⟩
    · cases q
theorem de_tupRg {f : FR} (hc : X.calm = true) (hg : Gl X "tuple") (hm : X.mg "tuple" = none) (he : DRg X e f) (na : starEach [e] X.env = (false, eval e X.env) :: starEach [] X.env := by rfl) : DE X (.Call (.Name "tuple" p) [e] [] pos) (eTupRg f) :=
  PE.imp (pe_tupRg hc hg hm he na) fun σ H Q ⟨G0, H0, G, ρ, d, s, q, k⟩ => by
    obtain ⟨⟨i, j⟩, z, q⟩ := bind_inv q
    split at q
    · rename_i c
      cases q
      refine ⟨G0, H0, G, ρ, i, j, s, z, fun G1 H1 g1 => ⟨rgOkB_ok c, fun q nq => ?_⟩⟩
      have g := Grow.new (o := .tup (rgV i j)) g1.sub nq
      exact k (.ref q) _ _ (g1.trans g) (rep_tup.mpr ⟨q, _, rfl, upd_same, rep_rg⟩)
    · cases q

/-! ### min of a list of ordered data -/
/-- the first least one -/
def leastF : D → List D → Option D
  | m, [] => some m
  | m, d :: ds => (ordD .lt d m).bind fun c => leastF (if c then d else m) ds
def gLeast : List D → Option D
  | [.lst (d :: ds)] => if plainL 19 (d :: ds) then leastF d ds else none
  | _ => none
theorem plainL_mem {n : Nat} : ∀ {ds : List D} {d : D}, plainL n ds = true → d ∈ ds → plain n d = true
  | [], d, _, h => by cases h
  | x :: ds, d, h, m => by
    have h' : plain n x = true ∧ plainL n ds = true := by simpa [plainL] using h
    rcases List.mem_cons.mp m with e | m
    · rw [e]; exact h'.1
    · exact plainL_mem h'.2 m
end
section
variable {X : Cx} {pins : List (Addr × Obj)} {σ : L2.St} {H G : Hp} {s : Shared}
/-- the loop from its i-th item on: the best up to now stands in the list at S -/
theorem least_loop {R : Result → Shared → Prop} {it S : Addr} {items : List Value} (I0 : Inv X pins σ H s) (sg : Same G H) {A : Around} (hA : A.units + 64 < cLine) {vs : List V} {all : List D} (hp : plainL 19 all = true) (rl : RepL X.K G all vs) (rv : Vals vs items) {ax : Addr} (hne : ax ≠ it) (hh : A.in1.handled = none)
    (hSi : S ≠ it) (hSa : S ≠ ax) (hS0 : s.heap.objs.size ≤ S) (hi0 : s.heap.objs.size ≤ it) (hl : s.heap.IsList ax items.toArray)
    {res : Option D} (hR : ∀ v d h' tk, Rep X.K G d v → ∀ u, RelV v u → res = some d → (∀ b o, s.heap.get? b = some o → h'.get? b = some o) → R (.ok (.ret u)) { s with heap := h', toks := tk }) :
    ∀ (k i : Nat) (m : D) (mv : V) (best : Value) (h : Heap) (tk c : Nat), all.length - i = k → i ≤ all.length → leastF m (all.drop i) = res → res.isSome = true → m ∈ all → Rep X.K G m mv → RelV mv best →
      h.IsListIter it ax i → (∀ b o, s.heap.get? b = some o → h.get? b = some o) → h.get? S = some { cls := .type "list", dict := none, data := .seq #[best, best] c, slots := #[] } →
      codeAny (model X.prog X.w) A (.builtin "min.loop" ⟨[.ref it, .none, .ref S], []⟩) R { s with heap := h, toks := tk } := by
  have loopName : (toString "min" ++ toString ".loop" : String) = "min.loop" := by decide
  have lens : items.length = all.length := by rw [← rv.length, rl.len]
  intro k
  induction k with
  | zero =>
    intro i m mv best h tk c hk hil hm hs hma rm rb hit keep hS
    have hie : i = all.length := by omega
    refine codeAny_builtin F.entry_min_loop ?_
    rw [Around.under_plainId F.plain_min_loop _]
    refine wpAny_bind (wpAny_seqItems hS rfl ?_)
    refine wpAny_bind (wpAny_tryCatch ((Walks.list hh it ax hne items.toArray).done _ _ _ ⟨by rw [List.size_toArray, lens, ← hie]; exact hit, hl.at fun o e => keep ax o e⟩ fun h' tk' hk' => ?_))
    have hS' := hk' S _ (by simpa using hSi) hS
    refine wpAny_bind (wpAny_updateSeq hS' rfl (wpAny_bind (wpAny_letGo (wpAny_pure ?_))))
    rw [hie, List.drop_length] at hm
    refine hR mv m _ tk' rm best rb hm.symm fun b o e => ?_
    have hb : b < s.heap.objs.size := Heap.lt_size e
    have hbS : b ≠ S := Nat.ne_of_lt (Nat.lt_of_lt_of_le hb hS0)
    have hbi : b ≠ it := Nat.ne_of_lt (Nat.lt_of_lt_of_le hb hi0)
    exact (Heap.get?_update_other _ _ (Ne.symm hbS)).trans (hk' b o (by simpa using hbi) (keep b o e))
  | succ k ih =>
    intro i m mv best h tk c hk hil hm hs hma rm rb hit keep hS
    have hlt : i < all.length := by omega
    obtain ⟨d, hd⟩ : ∃ d, all[i]? = some d := ⟨all[i], List.getElem?_eq_getElem hlt⟩
    obtain ⟨x, hx, rx⟩ := rl.get hd
    obtain ⟨u, hu, ru⟩ := rv.get hx
    have hdr := drop_eq hd
    refine codeAny_builtin F.entry_min_loop ?_
    rw [Around.under_plainId F.plain_min_loop _]
    refine wpAny_bind (wpAny_seqItems hS rfl ?_)
    refine wpAny_bind (wpAny_tryCatch ((Walks.list hh it ax hne items.toArray).item i _ _ _ (by rw [List.size_toArray, lens]; exact hlt) ⟨hit, hl.at fun o e => keep ax o e⟩ fun v h' tk' hv hst' hk' => ?_))
    obtain rfl : v = u := by
      have hv : items.toArray[i]? = some v := hv
      rw [List.getElem?_toArray, hu] at hv
      exact (Option.some.inj hv).symm
    have hS' := hk' S _ (by simpa using hSi) hS
    have keep' : ∀ b o, s.heap.get? b = some o → h'.get? b = some o := fun b o e => hk' b o (by simpa using Nat.ne_of_lt (Nat.lt_of_lt_of_le (Heap.lt_size e) hi0)) (keep b o e)
    have I1 : Inv X pins σ H { s with heap := h', toks := tk' } := I0.kept keep'
    rw [hdr] at hm
    unfold leastF at hm
    cases ho : ordD .lt d m with
    | none => rw [ho] at hm; rw [← hm] at hs; cases hs
    | some bt =>
      have hcmp := ordD_ok I1 19 .lt d m x mv v best A.in1 bt (plainL_mem hp (List.mem_of_getElem? hd)) (plainL_mem hp hma) (rx.mono sg) (rm.mono sg) ru rb (by have h9 : A.in1.units = A.units + 1 := rfl; omega) ho
      refine wpAny_bind (wpAny_pure ?_)
      refine wpAny_bind (wpAny_tryCatch (wpAny_holding (wpAny_bind (hcmp X.prog X.w _ _ ?_))))
      refine wpAny_bind (wpAny_holding (wpAny_truthy_bool (wpAny_bind (wpAny_letGo (wpAny_pure ?_)))))
      rw [ho] at hm
      cases bt with
      | true =>
        refine wpAny_bind (wpAny_updateSeq hS' rfl (wpAny_bind (wpAny_letGo ?_)))
        rw [loopName]
        refine wpAny_pure ⟨plainId_quiet F.plain_min_loop _, ih (i + 1) d x v _ _ _ (by omega) hlt hm hs (List.mem_of_getElem? hd) rx ru ?_ (fun b o e => ?_) (Heap.get?_update_self _ hS' rfl)⟩
        · exact hst'.1.at fun o e => (Heap.get?_update_other _ _ hSi).trans e
        · exact (Heap.get?_update_other _ _ (Nat.ne_of_gt (Nat.lt_of_lt_of_le (Heap.lt_size e) hS0))).trans (keep' b o e)
      | false =>
        refine wpAny_bind (wpAny_letGo ?_)
        rw [loopName]
        exact wpAny_pure ⟨plainId_quiet F.plain_min_loop _, ih (i + 1) m mv best _ _ c (by omega) hlt hm hs hma rm rb hst'.1 keep' hS'⟩
end
section
variable {X : Cx}
def rLeast (K : PySem.W.Frag) : List V → Hp → VK → Prop := fun vs H Q => ∃ (G : Hp) (a : Addr) (xs : List V) (all : List D) (d : D), vs = [.ref a] ∧ Same G H ∧ SqL K H a xs ∧ RepL K G all xs ∧ gLeast [.lst all] = some d ∧ ∀ v, Rep K G d v → Q v H
theorem cr_least {k : Nat} (hr : Room k X.A) (hc : X.calm = true) : CallR X (.builtin "min") (rLeast X.K) := by
  intro pins s σ H vs us Q I r h
  obtain ⟨G, a, xs, all, d, rfl, sg, hs, rl, hg, q⟩ := h
  obtain ⟨its, rv, hl, _⟩ := I.list hs
  rw [Vals.ref1 r]
  unfold gLeast at hg
  split at hg
  · rename_i d0 ds e0
    simp only [List.cons.injEq, D.lst.injEq, and_true] at e0
    subst e0
    split at hg
    · rename_i hp
      have hu := hr.units
      have hloop : (toString "min" ++ toString ".loop" : String) = "min.loop" := by decide
      obtain ⟨v0, vr, rfl, r0, rr⟩ := rl.cons_inv
      have rl : RepL X.K G (d0 :: ds) (v0 :: vr) := .cons r0 rr
      obtain ⟨u0, hu0, ru0⟩ := rv.get (show (v0 :: vr)[0]? = some v0 from rfl)
      have lens : its.length = (d0 :: ds).length := by rw [← rv.length, rl.len]
      refine call_function_tree F.kind_min F.plain_min F.entry_min (F.args_min1 _) ?_
      refine wpAny_bind (wpAny_of_eq (show Builtin.Builtins.bindParams "min" ["key", "default"] 0 ⟨[], []⟩ = pure [none, none] from rfl) ?_)
      refine wpAny_bind (wpAny_pure (wpAny_bind ((begins_list a its.toArray).iter X.prog X.w _ _ s _ hl.isList (wpAny_bind (wpAny_newObj_type ?_)))))
      rw [hloop]
      refine wpAny_pure ⟨plainId_quiet F.plain_min_loop _, ?_⟩
      have hlt : a < s.heap.objs.size := hl.lt
      have hne : a ≠ s.heap.objs.size := Nat.ne_of_lt hlt
      have hit0 : ∀ o : Obj, (s.heap.push o).objs.size = s.heap.objs.size + 1 := fun o => Heap.size_push ..
      -- the first item
      have hd : X.A.in1.handled = none := I.ok.hd hc
      generalize hh1 : (s.heap.push { cls := .type "list_iterator", data := .fields #[.ref a, .int 0 0] }) = h1
      have sz1 : h1.objs.size = s.heap.objs.size + 1 := by rw [← hh1]; exact Heap.size_push ..
      have hit : h1.IsListIter s.heap.objs.size a 0 := by rw [← hh1]; exact ⟨_, Heap.get?_push_size _ rfl, rfl, rfl⟩
      have kp1 : ∀ b o, s.heap.get? b = some o → h1.get? b = some o := fun b o e => by rw [← hh1]; exact Heap.get?_push_of_some _ e
      refine codeAny_builtin F.entry_min_loop ?_
      rw [Around.under_plainId F.plain_min_loop _]
      refine wpAny_bind (wpAny_seqItems (Heap.get?_push_size _ rfl) rfl ?_)
      have hSi : h1.objs.size ≠ s.heap.objs.size := by rw [sz1]; exact Nat.succ_ne_self _
      have hSa : h1.objs.size ≠ a := by rw [sz1]; exact Nat.ne_of_gt (Nat.lt_succ_of_lt hlt)
      refine wpAny_bind (wpAny_tryCatch ((Walks.list hd s.heap.objs.size a hne its.toArray).item 0 _ _ _ (by rw [List.size_toArray, lens]; exact Nat.succ_pos _) ⟨hit.at fun o e => Heap.get?_push_of_some _ e, hl.isList.at fun o e => Heap.get?_push_of_some _ (kp1 a o e)⟩ fun v h' tk' hv hst' hk' => ?_))
      obtain rfl : v = u0 := by
        have hv : its.toArray[0]? = some v := hv
        rw [List.getElem?_toArray, hu0] at hv
        exact (Option.some.inj hv).symm
      have hS' := hk' h1.objs.size _ (by simpa using hSi) (Heap.get?_push_size _ rfl)
      refine wpAny_bind (wpAny_pure ?_)
      refine wpAny_bind (wpAny_updateSeq hS' rfl ?_)
      rw [hloop]
      refine wpAny_pure ⟨plainId_quiet F.plain_min_loop _, ?_⟩
      refine least_loop (s := s) (it := s.heap.objs.size) (S := h1.objs.size) I sg (by omega) hp rl rv hne hd hSi hSa (by rw [sz1]; exact Nat.le_succ _) (Nat.le_refl _) hl.isList (res := some d) (fun v2 d2 h2 tk2 rv2 u2 ru2 e2 k2 => ?_) _ 1 d0 v0 v _ _ _ rfl (Nat.succ_le_succ (Nat.zero_le _)) hg rfl (List.mem_cons_self ..) r0 ru0 (hst'.1.at fun o e => (Heap.get?_update_other _ _ hSi).trans e) (fun b o e => ?_) (Heap.get?_update_self _ hS' rfl)
      · cases e2
        exact ⟨v2, H, I.kept k2, ru2, q v2 rv2⟩
      · have hb : b < s.heap.objs.size := Heap.lt_size e
        have hbS : b ≠ h1.objs.size := by rw [sz1]; exact Nat.ne_of_lt (Nat.lt_succ_of_lt hb)
        exact (Heap.get?_update_other _ _ (Ne.symm hbS)).trans (hk' b o (by simpa using Nat.ne_of_lt hb) (Heap.get?_push_of_some _ (kp1 b o e)))
    · cases hg
  · cases hg
variable {a : Expr} {fa : FE} {p pos : Pos}
theorem de_least {k : Nat} (hr : Room k X.A) (hc : X.calm = true) (hx : Gl X "min") (hm : X.mg "min" = none) (ha : DP X a fa) (h1 : starEach [a] X.env = [(false, eval a X.env)] := by rfl) : DE X (.Call (.Name "min" p) [a] [] pos) (eCB gLeast (aCons fa aNil)) :=
  de_cb (fun G H ds d vs Q s r q k => by
    have q0 := q
    unfold gLeast at q
    split at q
    · rename_i d0 ds
      obtain ⟨v, rfl, h⟩ := r.one_inv
      obtain ⟨a, us, rfl, h1, h2⟩ := h.lst s
      exact ⟨G, a, us, d0 :: ds, d, rfl, s, h1, h2, q0, fun v rv => k v G H (.refl s) rv⟩
    · cases q) (cr_least hr hc) hx hm (by decide +kernel) (dpa_cons ha dpa_nil h1) (he := h1)
end
end DL
namespace DL
open PySem PySem.Spec PyProof.Rows L2

/-! ### keys -/
def keyOf : D → Option Key
  | .int i => some (.inl i)
  | .str x => some (.inr x)
  | _ => none
def dOfK : Key → D
  | .inl i => .int i
  | .inr x => .str x
def keysOf : List D → Option (List Key)
  | [] => some []
  | d :: ds => (keyOf d).bind fun k => (keysOf ds).map (k :: ·)
theorem keyOf_rep {K : PySem.W.Frag} {G : Hp} {d : D} {k : Key} {v : V} (h : keyOf d = some k) (r : Rep K G d v) : v = kV k ∧ d = dOfK k := by
  unfold keyOf at h
  split at h
  · cases h; exact ⟨rep_int.mp r, rfl⟩
  · cases h; exact ⟨rep_str.mp r, rfl⟩
  · cases h
theorem keysOf_rep {K : PySem.W.Frag} {G : Hp} : ∀ {ds : List D} {ks : List Key} {vs : List V}, keysOf ds = some ks → RepL K G ds vs → vs = ks.map kV ∧ ds = ks.map dOfK
  | [], ks, vs, h, r => by cases h; rw [r.nil_inv]; exact ⟨rfl, rfl⟩
  | d :: ds, ks, vs, h, r => by
    obtain ⟨k, h1, h⟩ := bind_inv h
    obtain ⟨ks', h2, h3⟩ := map_inv h
    subst h3
    obtain ⟨v, rr, rfl, r1, r2⟩ := r.cons_inv
    obtain ⟨e1, e2⟩ := keyOf_rep h1 r1
    obtain ⟨e3, e4⟩ := keysOf_rep h2 r2
    subst e1 e2 e3 e4
    exact ⟨rfl, rfl⟩
theorem rep_keys {K : PySem.W.Frag} {G : Hp} : ∀ ks : List Key, RepL K G (ks.map dOfK) (ks.map kV)
  | [] => .nil
  | .inl i :: ks => .cons (rep_int.mpr rfl) (rep_keys ks)
  | .inr x :: ks => .cons (rep_str.mpr rfl) (rep_keys ks)
/-- a tuple as a key -/
def tupKey : D → Option (List Key)
  | .tup ds => keysOf ds
  | _ => none
theorem tupKey_rep {K : PySem.W.Frag} {G : Hp} {d : D} {ks : List Key} {v : V} (h : tupKey d = some ks) (r : Rep K G d v) : ∃ b, v = .ref b ∧ G b = some (.tup (ks.map kV)) := by
  unfold tupKey at h
  split at h
  · obtain ⟨a, vs, rfl, h1, h2⟩ := rep_tup.mp r
    rw [(keysOf_rep h h2).1] at h1
    exact ⟨a, rfl, h1⟩
  · cases h
section
variable {κ : Type} [DecidableEq κ]
def putD (k : κ) (d : D) : List κ → List D → List κ × List D
  | [], _ => ([k], [d])
  | j :: ks, x :: xs => if j = k then (j :: ks, d :: xs) else let q := putD k d ks xs; (j :: q.1, x :: q.2)
  | ks, xs => (ks, xs)
theorem putD_len {k : κ} {d : D} : ∀ {ks : List κ} {xs : List D}, ks.length = xs.length → (putD k d ks xs).1.length = (putD k d ks xs).2.length
  | [], [], _ => rfl
  | [], x :: xs, h => by simp at h
  | j :: ks, [], h => by simp at h
  | j :: ks, x :: xs, h => by
    unfold putD
    split
    · simpa using h
    · simpa using putD_len (ks := ks) (xs := xs) (by simpa using h)
def look (k : κ) : List κ → List D → Option D
  | j :: ks, x :: xs => if j = k then some x else look k ks xs
  | _, _ => none
theorem val_look {K : PySem.W.Frag} {G : Hp} {k : κ} : ∀ {ks : List κ} {xs : List D} {vs : List V}, ks.length = xs.length → RepL K G xs vs → (valV (ks.zip vs) k).isSome = (look k ks xs).isSome ∧ ∀ d, look k ks xs = some d → ∃ v, valV (ks.zip vs) k = some v ∧ Rep K G d v
  | [], [], vs, _, r => by rw [r.nil_inv]; exact ⟨rfl, fun d h => by cases h⟩
  | [], x :: xs, _, h, _ => by simp at h
  | j :: ks, [], _, h, _ => by simp at h
  | j :: ks, x :: xs, vs, h, r => by
    obtain ⟨v, vr, rfl, r1, r2⟩ := r.cons_inv
    rw [List.zip_cons_cons]
    unfold look
    by_cases c : j = k
    · rw [valV_pos (p := (j, v)) c, if_pos c]
      exact ⟨rfl, fun d h => by cases h; exact ⟨v, rfl, r1⟩⟩
    · rw [valV_neg (p := (j, v)) c, if_neg c]
      exact val_look (by simpa using h) r2
theorem putK_pos {p : κ × V} {r : List (κ × V)} {k : κ} {v : V} (e : p.1 = k) (hn : ∀ q ∈ r, q.1 ≠ k) : putK (p :: r) k v = (p.1, v) :: r := by
  unfold putK
  have h1 : ((p :: r).any fun kv => decide (kv.1 = k)) = true := by simp [e]
  have h2 : r.map (fun kv => if kv.1 = k then (kv.1, v) else kv) = r := by
    conv => rhs; rw [← List.map_id r]
    exact List.map_congr_left fun q hq => by rw [if_neg (hn q hq)]; rfl
  simp only [h1, if_true, List.map_cons, e, h2]
theorem putK_neg {p : κ × V} {r : List (κ × V)} {k : κ} {v : V} (e : ¬ p.1 = k) : putK (p :: r) k v = p :: putK r k v := by
  unfold putK
  by_cases c : (r.any fun kv => decide (kv.1 = k)) = true
  · have h1 : ((p :: r).any fun kv => decide (kv.1 = k)) = true := by simp only [List.any_cons, c, Bool.or_true]
    simp only [h1, c, if_true, List.map_cons, if_neg e]
  · have h1 : ((p :: r).any fun kv => decide (kv.1 = k)) = false := by simp only [List.any_cons, Bool.eq_false_iff.mpr c, Bool.or_false, decide_eq_false e]
    simp only [h1, Bool.eq_false_iff.mpr c, Bool.false_eq_true, if_false, List.cons_append]
theorem put_rep {K : PySem.W.Frag} {G : Hp} {k : κ} {d : D} {v : V} (rv : Rep K G d v) : ∀ {ks : List κ} {xs : List D} {vs : List V}, ks.Nodup → ks.length = xs.length → RepL K G xs vs → ∃ ws, putK (ks.zip vs) k v = (putD k d ks xs).1.zip ws ∧ RepL K G (putD k d ks xs).2 ws
  | [], [], vs, _, _, r => by rw [r.nil_inv]; exact ⟨[v], rfl, .one rv⟩
  | [], x :: xs, _, _, h, _ => by simp at h
  | j :: ks, [], _, _, h, _ => by simp at h
  | j :: ks, x :: xs, vs, hn, h, r => by
    obtain ⟨u, vr, rfl, r1, r2⟩ := r.cons_inv
    obtain ⟨n1, n2⟩ := List.nodup_cons.mp hn
    rw [List.zip_cons_cons]
    unfold putD
    by_cases c : j = k
    · rw [if_pos c, putK_pos (p := (j, u)) c (fun q hq e => n1 (by rw [c, ← e]; exact (List.of_mem_zip hq).1))]
      exact ⟨v :: vr, rfl, .cons rv r2⟩
    · obtain ⟨ws, e1, e2⟩ := put_rep rv n2 (by simpa using h) r2
      rw [if_neg c, putK_neg (p := (j, u)) c, e1]
      exact ⟨u :: ws, rfl, .cons r1 e2⟩
end

/-! ### displays -/
section
variable {X : Cx} {a b e : Expr} {fa fb fe : FE} {pos p : Pos}
theorem df_dic0 : DF X (.Dict [] [] pos) (eK (.dic [] [])) := PE.imp pe_dnewT fun σ H Q ⟨G0, H0, G, ρ, d, s, q, k⟩ p np => by
  cases q
  exact k p G _ (Grow.out s.sub np) np (s.sub.free np) ⟨[], upd_same, rfl, .nil⟩
theorem df_dik0 : DF X (.Dict [] [] pos) (eK (.dik [] [])) := PE.imp pe_dnewK fun σ H Q ⟨G0, H0, G, ρ, d, s, q, k⟩ p np => by
  cases q
  exact k p G _ (Grow.out s.sub np) np (s.sub.free np) ⟨[], upd_same, rfl, .nil⟩
theorem dt_obj {P : Program} {w : World} {H : Hp} {h : Heap} {a : Addr} {kvs : List (List Key × V)} {xs : List (List Key × Addr × Value)} (r : KT H kvs xs) (m : h.DictOfH (tupleKind (mixKind P w)) a xs) (z : kvs.length ≤ sizeLine) (hd : (a == sysModules) = false) : ObjOk P w H h a (.dT kvs) := by
  obtain ⟨o, es, ep, h1, h2, h3, h4, _, h5⟩ := m
  exact ⟨z, hd, xs, r, o, es, ep, h1, h2, h3, h4, h5⟩
def tDic1 (tk tv : TE) : TE := fun σ H Q => ∀ p, H p = none → tk σ (upd H p (.dT [])) fun x H1 => tv σ H1 fun y H2 => ∃ (b : Addr) (ks : List Key), x = .ref b ∧ H2 b = some (.tup (ks.map kV)) ∧ H2 p = some (.dT []) ∧ Q (.ref p) (upd H2 p (.dT [(ks, y)]))
theorem pe_dic1 {k : Nat} {tk tv : TE} (hr : Room k X.A) (hk : PE X a tk) (hv : PE X b tv) : PE X (.Dict [some a] [b] pos) (tDic1 tk tv) := by
  refine ⟨fun pins s σ H Q I q => ?_⟩
  have hn := I.hok.fresh (Nat.le_refl s.heap.objs.size)
  have I1 := I.laid (a := s.heap.objs.size) (o := .dT []) (h' := s.heap.push { cls := .type "dict", data := .dict #[] }) (t' := s.toks) (fun _ _ q => Heap.get?_push_of_some _ q) (Nat.le_refl _) (dt_empty s.heap I.big)
  have hu : (tupleKind (mixKind X.prog X.w)).room X.A := by show X.A.units < cLine; exact hr.units0
  rw [arm_eval_Dict, zip_pairTrees [some a] [b] X.env pos rfl rfl, dictDisplay_pairs _ (by simp [pairTrees]) (by simp [pairTrees])]
  refine wpAny_bind (wpAny_standAt (wpAny_bind (wpAny_subDictH (knd := tupleKind (mixKind X.prog X.w)) hu (by simp [pairTrees]) (pairTrees_cons_walk (thn (hk.run pins _ σ _ _ I1 (q _ hn)) fun u s1 ⟨x, H1, I2, rx, q1⟩ => thn (hv.run pins s1 σ H1 _ I2 q1) fun w2 s2 ⟨y, H2, I3, ry, q2⟩ => pairTrees_nil_walk ?_)))))
  obtain ⟨b', ks, rfl, hb, hp, q3⟩ := q2
  obtain rfl : u = Value.ref b' := rx
  obtain ⟨z, hd, xs0, r0, dd⟩ := dt_of I3.hok hp
  cases r0
  refine ⟨[(ks, b', w2)], ⟨rfl, rfl, key_of I3.hok hb, True.intro⟩, dd, fun h' tk' dd' hs => wpAny_pure ⟨.ref s.heap.objs.size, _, ?_, rfl, q3⟩⟩
  have he : ∃ q, h'.get? s.heap.objs.size = some q := let ⟨q, _, _, hq, _⟩ := id dd'; ⟨q, hq⟩
  have rel : KT (upd H2 s.heap.objs.size (.dT [(ks, y)])) [(ks, y)] [(ks, b', w2)] := .cons ⟨rfl, by rw [upd_ne (ne_of hb hp (fun z => nomatch z))]; exact hb, ry⟩ .nil
  have J := d_write (t' := tk') I3 (by rw [hp]; exact True.intro) hs he (dt_obj rel dd' (by rw [sizeLine_eq]; show 1 ≤ 16777216; decide) hd)
  exact J
def eDic1 (fa fb : FE) : FE := fun ρ => (fa ρ).bind fun x => (tupKey x).bind fun ks => (fb ρ).map fun y => .dic [ks] [y]
theorem df_dic1 {k : Nat} (hr : Room k X.A) (ha : DE X a fa) (hb : DE X b fb) : DF X (.Dict [some a] [b] pos) (eDic1 fa fb) := PE.imp (pe_dic1 hr ha hb) fun σ H Q ⟨G0, H0, G, ρ, d, s, q, k⟩ p np => by
  obtain ⟨x, e1, q⟩ := bind_inv q
  obtain ⟨ks, e2, q⟩ := bind_inv q
  obtain ⟨y, e3, q⟩ := map_inv q
  subst q
  have g0 := Grow.out (o := .dT []) s.sub np
  have hG := s.sub.free np
  refine ⟨G0, H0, G, ρ, x, s.grow g0, e1, fun v G1 H1 g1 r1 => ⟨G0, H0, G1, ρ, y, s.grow (g0.trans g1), e3, fun u G2 H2 g2 r2 => ?_⟩⟩
  obtain ⟨b', rfl, hb'⟩ := tupKey_rep e2 r1
  have hp2 : H2 p = some (.dT []) := g2.h _ _ (g1.h _ _ upd_same)
  have hg2 : G2 p = none := (g1.trans g2).fr p _ upd_same rfl hG
  refine ⟨b', ks, rfl, g2.h _ _ (g1.sub _ _ hb'), hp2, k p G2 _ ⟨(g1.trans g2).g, fun a o h => ?_, fun a o h => ?_, fun a o h t z => ?_⟩ np hg2 ⟨[u], upd_same, rfl, .one r2⟩⟩
  · have n1 := ne_of_none h np
    rw [upd_ne n1]
    exact (g1.trans g2).h _ _ (by rw [upd_ne n1]; exact h)
  · rw [upd_ne (ne_of_none h hg2)]
    exact g2.sub _ _ h
  · have n1 := ne_of_none h np
    exact (g1.trans g2).fr a o (by rw [upd_ne n1]; exact h) t z

/-! ### d[k] = e, d an own dict of tuple keys -/
def xDPut (i : Nat) (fk fa : FE) : FS := fun ρ => match fa ρ, fk ρ, ρ[i]? with
  | some d, some kd, some (some (.own (.dic ks xs))) => (match tupKey kd with
    | some k => if ks.Nodup ∧ ks.length < sizeLine then .nx (ρ.set i (some (.own (.dic (putD k d ks xs).1 (putD k d ks xs).2)))) else .bad
    | none => .bad)
  | _, _, _ => .bad
theorem ds_dput {k : Nat} (hr : Room k X.A) (i : Nat) {x : Str} {p : Pos} {pos' : Pos} (hk : DE X a fa) (hv : DE X b fb) (hN : X.N[i]? = some x := by rfl) (hvis : Vis X.env.scope x := by first | exact Or.inl rfl | exact Or.inr (Or.inl rfl) | exact Or.inr (Or.inr rfl)) (hd : (x == ("__debug__" : Str)) = false := by decide)
    (hcd : (x == ("__classdict__" : Str)) = false := by decide) (hs : swapsWith b (some (.Subscript (.Name x p) a pos')) pos.line X.env = pure false := by rfl) : DS X (.Assign [.Subscript (.Name x p) a pos'] b pos) (xDPut i fa fb) :=
  PS.imp (ps_dput (by have := hr.units; omega) (pe_var hN hvis hd hcd) hk hv hs) fun D σ H ⟨G0, H0, G, ρ, s, q⟩ => by
    unfold xDPut at q
    split at q
    · rename_i d kd ks xs e1 e2 e3
      split at q
      · rename_i kk e4
        split at q
        · rename_i hc
          obtain ⟨hnd, hlt⟩ := hc
          obtain ⟨p, ep, h0, hg, vs, hp, hl, r⟩ := s.own i _ e3
          refine ⟨G0, H0, G, ρ, d, s, e1, fun u G1 H1 g1 r1 => ⟨.ref p, ep, G0, H0, G1, ρ, kd, s.grow g1, e2, fun v G2 H2 g2 r2 => ?_⟩⟩
          obtain ⟨b', rfl, hb'⟩ := tupKey_rep e4 r2
          have hp2 := g2.h _ _ (g1.h _ _ hp)
          obtain ⟨ws, w1, w2⟩ := put_rep (k := kk) (r1.mono g2.g) hnd hl ((r.mono g1.g).mono g2.g)
          refine ⟨p, _, rfl, DPut.t hp2 (g2.sub _ _ hb') (by rw [List.length_zip, r.len, hl, Nat.min_self, ← hl]; exact hlt), ?_⟩
          rw [w1]
          exact q σ G2 _ ((s.grow (g1.trans g2)).write e3 ep ⟨ws, upd_same, putD_len hl, w2⟩) (g1.trans g2).g
        · exact q.elim
      · exact q.elim
    · exact q.elim

/-! ### k in d, k not in d -/
def gDIn (n : Bool) (x y : D) : Option D := match y with
  | .dic ks xs => (tupKey x).map fun k => .bl (if n then !(look k ks xs).isSome else (look k ks xs).isSome)
  | _ => none
theorem liftDIn {K : PySem.W.Frag} {σ : L2.St} {H : Hp} {Q : VK} {n : Bool} (h : liftE K (eBin (gDIn n) fa fb) σ H Q) : liftE K fa σ H fun y H1 => liftP K fb σ H1 fun x H2 => ∃ a o, x = .ref a ∧ DGet H2 a y o ∧ Q (.bl (if n then !o.isSome else o.isSome)) H2 := by
  obtain ⟨G0, H0, G, ρ, d, s, q, k⟩ := h
  obtain ⟨x, e1, q⟩ := bind_inv q
  obtain ⟨y, e2, q⟩ := bind_inv q
  unfold gDIn at q
  split at q
  · rename_i ks xs
    obtain ⟨kk, e3, q⟩ := map_inv q
    subst q
    refine ⟨G0, H0, G, ρ, x, s, e1, fun v G1 H1 g1 r1 => ⟨G0, H0, G1, ρ, _, s.grow g1, e2, fun u G2 H2 g2 r2 => ?_⟩⟩
    obtain ⟨b', rfl, hb'⟩ := tupKey_rep e3 r1
    obtain ⟨a, vs, rfl, h1, h2, h3⟩ := r2.dic g2.sub
    have hv := val_look (k := kk) h2 h3
    refine ⟨a, valV (ks.zip vs) kk, rfl, .inr ⟨_, kk, b', h1, rfl, g2.h _ _ (g1.sub _ _ hb'), rfl⟩, ?_⟩
    rw [hv.1]
    exact k _ G2 H2 (g1.trans g2) (rep_bl.mpr rfl)
  · cases q
theorem de_dnotIn {k : Nat} (hr : Room k X.A) (ha : DE X a fa) (hb : DP X b fb) (h1 : behindInMarks .NotIn b = false := by rfl) : DE X (.Compare a [.NotIn] [b] pos) (eBin (gDIn true) fa fb) :=
  PE.imp (pe_cmp (pc_dnotin (by have := hr.units; omega) ha hb) h1) fun σ H Q h => liftDIn (n := true) h
theorem de_dIn {k : Nat} (hr : Room k X.A) (ha : DE X a fa) (hb : DP X b fb) (h1 : behindInMarks .In b = false := by rfl) : DE X (.Compare a [.In] [b] pos) (eBin (gDIn false) fa fb) :=
  PE.imp (pe_cmp (pc_din (by have := hr.units; omega) ha hb) h1) fun σ H Q h => liftDIn (n := false) h
theorem liftTB {K : PySem.W.Frag} {f : FE} {t : TE} (h : ∀ σ H Q, liftE K f σ H Q → t σ H Q) {σ : L2.St} {H : Hp} {Q : Bool → Hp → Prop} (q : liftT K (tBool f) σ H Q) : tB t σ H Q := by
  obtain ⟨G0, H0, G, ρ, c, s, q, k⟩ := q
  exact h σ H _ ⟨G0, H0, G, ρ, _, s, tBool_inv q, fun v G' H' g r => ⟨c, rep_bl.mp r, k G' H' g⟩⟩
theorem dt_dnotIn {k : Nat} (hr : Room k X.A) (ha : DE X a fa) (hb : DP X b fb) (h1 : behindInMarks .NotIn b = false := by rfl) : DT X (.Compare a [.NotIn] [b] pos) (tBool (eBin (gDIn true) fa fb)) :=
  PT.imp (pt_cmp (pc_dnotin (by have := hr.units; omega) ha hb) h1) fun σ H Q h => liftTB (fun σ H Q h => liftDIn (n := true) h) h
theorem dt_dIn {k : Nat} (hr : Room k X.A) (ha : DE X a fa) (hb : DP X b fb) (h1 : behindInMarks .In b = false := by rfl) : DT X (.Compare a [.In] [b] pos) (tBool (eBin (gDIn false) fa fb)) :=
  PT.imp (pt_cmp (pc_din (by have := hr.units; omega) ha hb) h1) fun σ H Q h => liftTB (fun σ H Q h => liftDIn (n := false) h) h
end
end DL
namespace DL
open PySem PySem.Spec PyProof.Rows L2

/-! ### dict(d), tuple keys -/
section
variable {prog : Program} {w : World} {K : Type} [DecidableEq K] {knd : HeapKind prog w K} {A : Around} {E : Value → Shared → Prop} {s : Shared}
theorem call_dictH {o : Addr} {more : List (K × Addr × Value)} {Q : Value → Shared → Prop} (hu : ∀ B : Around, B.units ≤ A.units + 8 → knd.room B) (hoS : (o == sysModules) = false) (ho : s.heap.DictOfH knd o more) (hsz : more.length ≤ sizeLine)
    (ho1 : (s.heap.push { cls := .type "dict", data := .dict #[] }).DictOfH knd o more) (hty : ∀ x ∈ more, s.TypeIs (.ref x.2.1) "tuple") (hap : (more.map fun x => knd.hash x.1).Nodup)
    (h : ∀ h', h'.DictOfH knd s.heap.objs.size more → Heap.SameBut s.heap.objs.size (s.heap.push { cls := .type "dict", data := .dict #[] }) h' → Q (.ref s.heap.objs.size) { s with heap := h' }) :
    wpAny (model prog w) A (call (.type "dict") [.ref o]) Q E s := by
  have lt : o < s.heap.objs.size := by
    obtain ⟨_, _, _, hg, _⟩ := ho
    exact Heap.lt_size hg
  refine callType_codes (Q₁ := fun obj s₁ => obj = .ref s.heap.objs.size ∧ s₁ = { s with heap := s.heap.push { cls := .type "dict", data := .dict #[] } }) F.kt_called_dict (F.kt_typeCall_dict_1 _) F.entry_dict_init (kt_code_dict_new _ ⟨rfl, rfl⟩) ?_
  rintro obj s₁ ⟨rfl, rfl⟩
  have hnew : (s.heap.push { cls := .type "dict", data := .dict #[] }).DictOfH knd s.heap.objs.size ([] : List (K × Addr × Value)) :=
    ⟨_, #[], 0, Heap.get?_push_size _ rfl, ⟨rfl, rfl, rfl⟩, rfl, rfl, fun x hx => (List.not_mem_nil hx).elim, List.nodup_nil⟩
  refine ⟨hnew.typeIs, F.args_dict_init_2 _ _, ?_⟩
  unfold Builtin.«dict.__init__»
  refine wpAny_bind ?_
  unfold Builtin.Dict.selfAndRest
  refine wpAny_bind (wpAny_notOrdered_dict hnew.typeIs ?_)
  refine wpAny_pure ?_
  refine updateFrom_dictH .none (hu _ (by show _ ≤ _; first | exact Nat.le_refl _ | (simp only [Around.in1]; omega))) (Nat.ne_of_gt lt) hoS hnew ho1 (.inr ⟨fun x hx => ?_, hap⟩) (by simpa using hsz) fun h' hd' _ hs' => ?_
  · obtain ⟨ob, e1, e2⟩ := hty x hx
    exact ⟨ob, Heap.get?_push_of_some _ e1, e2⟩
  · rw [storedAllH_nil_of_nodup more ho.nodup] at hd'
    exact ⟨rfl, h h' hd' hs'⟩
end
/-- the hash of a key of whole numbers -/
def intKey : Key → Option Int
  | .inl i => some i
  | .inr _ => none
def keyInts : List Key → Option (List Int)
  | [] => some []
  | k :: ks => (intKey k).bind fun i => (keyInts ks).map (i :: ·)
def hashTI (ns : List Int) : Int := reduceHash (Builtin.Tuple.tupleHashOf (ns.map hashInt))
theorem keyInts_inv : ∀ {ks : List Key} {ns : List Int}, keyInts ks = some ns → ks = ns.map Sum.inl
  | [], ns, h => by cases h; rfl
  | k :: ks, ns, h => by
    obtain ⟨i, h1, h⟩ := bind_inv h
    obtain ⟨ms, h2, h3⟩ := map_inv h
    subst h3
    rw [keyInts_inv h2]
    cases k with
    | inl j => cases h1; rfl
    | inr x => cases h1
theorem hash_ints {P : Program} {w : World} {ks : List Key} {ns : List Int} (h : keyInts ks = some ns) : (tupleKind (mixKind P w)).hash ks = hashTI ns := by
  rw [keyInts_inv h]
  show reduceHash (Builtin.Tuple.tupleHashOf ((ns.map Sum.inl).map (mixKind P w).hash)) = _
  unfold hashTI
  rw [List.map_map]
  rfl
def allInts : List (List Key) → Option (List (List Int))
  | [] => some []
  | k :: ks => (keyInts k).bind fun i => (allInts ks).map (i :: ·)
theorem allInts_hash {P : Program} {w : World} : ∀ {ks : List (List Key)} {nss : List (List Int)}, allInts ks = some nss → ks.map (fun k => (tupleKind (mixKind P w)).hash k) = nss.map hashTI
  | [], _, h => by cases h; rfl
  | k :: ks, _, h => by
    obtain ⟨i, h1, h⟩ := bind_inv h
    obtain ⟨ms, h2, h3⟩ := map_inv h
    subst h3
    simp only [List.map_cons, hash_ints h1, allInts_hash h2]
def gDictOf : List D → Option D
  | [.dic ks xs] => (allInts ks).bind fun nss => if (nss.map hashTI).Nodup ∧ ks.length ≤ sizeLine then some (.dic ks xs) else none
  | _ => none
section
variable {X : Cx} {a : Expr} {fa : FE} {p pos : Pos}
def rDictT : List V → Hp → VK → Prop := fun vs H Q => ∃ (a : Addr) (kvs : List (List Key × V)) (nss : List (List Int)), vs = [.ref a] ∧ Rd H a (.dT kvs) ∧ allInts (kvs.map (·.1)) = some nss ∧ (nss.map hashTI).Nodup ∧ ∀ p, H p = none → Q (.ref p) (upd H p (.dT kvs))
theorem KT.hashes {P : Program} {w : World} {H : Hp} {kvs : List (List Key × V)} {xs : List (List Key × Addr × Value)} (r : KT H kvs xs) : xs.map (fun x => (tupleKind (mixKind P w)).hash x.1) = (kvs.map (·.1)).map (fun k => (tupleKind (mixKind P w)).hash k) := by
  induction r with
  | nil => rfl
  | cons h t ih => simp only [List.map_cons, ih, h.1]
theorem KT.mem {H : Hp} {kvs : List (List Key × V)} {xs : List (List Key × Addr × Value)} (r : KT H kvs xs) : ∀ x ∈ xs, H x.2.1 = some (.tup (x.1.map kV)) := by
  induction r with
  | nil => intro x hx; cases hx
  | cons h t ih =>
    intro x hx
    rcases List.mem_cons.mp hx with e | hx
    · rw [e, ← h.1]; exact h.2.1
    · exact ih x hx
theorem cr_dictT {k : Nat} (hr : Room k X.A) : CallR X (.type "dict") rDictT := by
  intro pins s σ H vs us Q I r h
  obtain ⟨a, kvs, nss, rfl, hd, hi, hn, q⟩ := h
  rw [Vals.ref1 r]
  obtain ⟨z, hs, xs, rel, dd⟩ := dt_rd I.hok hd
  have hu := hr.units
  have hk : ∀ (h' : Heap), (∀ b o, s.heap.get? b = some o → h'.get? b = some o) → ∀ x ∈ xs, (tupleKind (mixKind X.prog X.w)).is h' x.1 x.2.1 := fun h' kp x hx => by
    have I1 : Inv X pins σ H { s with heap := h', toks := s.toks } := I.kept kp
    exact key_of I1.hok (KT.mem rel x hx)
  obtain ⟨o, es, ep, e1, e2, e3, e4, e5, e6⟩ := id dd
  refine call_dictH (knd := tupleKind (mixKind X.prog X.w)) (fun B hB => by show B.units < cLine; omega) hs dd (by rw [← Paired.length rel]; exact z) ⟨o, es, ep, Heap.get?_push_of_some _ e1, e2, e3, e4, hk _ fun b o e => Heap.get?_push_of_some _ e, e6⟩ (fun x hx => ?_) ?_ fun h' dd' sb => ?_
  · have y := KT.mem rel x hx
    obtain ⟨_, its, _, p⟩ := (show ObjOk X.prog X.w H s.heap x.2.1 (.tup (x.1.map kV)) from I.hok _ _ y)
    obtain ⟨ob, p1, p2, _⟩ := p
    exact ⟨ob, p1, p2⟩
  · rw [KT.hashes rel, allInts_hash hi]
    exact hn
  · have kp : ∀ b o, s.heap.get? b = some o → h'.get? b = some o := fun b o e => (sb.2 b (Nat.ne_of_lt (Heap.lt_size e))).trans (Heap.get?_push_of_some _ e)
    have hf := I.hok.fresh (Nat.le_refl s.heap.objs.size)
    refine ⟨.ref s.heap.objs.size, _, I.laid (a := s.heap.objs.size) (o := .dT kvs) (t' := s.toks) kp (Nat.le_refl _) (dt_obj (KT.keeps rel fun b ys e => ?_) dd' z (beq_eq_false_iff_ne.mpr (Ne.symm (Nat.ne_of_lt I.big)))), rfl, q _ hf⟩
    rw [upd_ne (ne_of_none e hf)]
    exact e
theorem df_dictOf {k : Nat} (hr : Room k X.A) (hx : Gl X "dict") (hm : X.mg "dict" = none) (ha : DP X a fa) (h1 : starEach [a] X.env = [(false, eval a X.env)] := by rfl) : DF X (.Call (.Name "dict" p) [a] [] pos) (eCB gDictOf (aCons fa aNil)) :=
  df_ct (fun G H ds d vs Q s r q k => by
    unfold gDictOf at q
    split at q
    · rename_i ks xs
      obtain ⟨nss, e1, q⟩ := bind_inv q
      split at q
      · rename_i hc
        cases q
        obtain ⟨v, rfl, h⟩ := r.one_inv
        obtain ⟨a, us, rfl, h1, h2, h3⟩ := h.dic s
        have hz : (ks.zip us).map (·.1) = ks := by
          have := List.map_fst_zip (l₁ := ks) (l₂ := us) (by rw [h3.len, h2]; exact Nat.le_refl _)
          exact this
        exact ⟨a, _, nss, rfl, h1, by rw [hz]; exact e1, hc.1, fun p np => k p G _ (Grow.out s np) np (s.free np) ⟨us, upd_same, h2, h3⟩⟩
      · cases q
    · cases q) (cr_dictT hr) hx hm (by decide +kernel) (dpa_cons ha dpa_nil h1) (he := h1)
end

/-! ### for k, v in d.items(), tuple keys -/
def ItT (d : Addr) (o : Obj) (kvs : List (List Key × V)) : It :=
  ⟨fun i H => H d = some (.frz o (.dT kvs)) ∧ i < kvs.length, fun i H v H' => ∃ T q k x, kvs[i]? = some (k, x) ∧ v = .ref T ∧ H T = none ∧ H q = some (.tup (k.map kV)) ∧ H' = upd H T (.tup [.ref q, x]),
    fun i H => H d = some (.frz o (.dT kvs)) ∧ i = kvs.length⟩
/-- what a locked dict says of its entries -/
theorem frzT_at {X : Cx} {pins : List (Addr × Obj)} {σ : L2.St} {H : Hp} {s : Shared} {d : Addr} {o : Obj} {kvs : List (List Key × V)} (I : Inv X pins σ H s) (h : H d = some (.frz o (.dT kvs))) :
    (d == sysModules) = false ∧ ∃ es ep, o.data = .dict es ep ∧ s.heap.DictRaw d es ep ∧ es.size = kvs.length ∧ ∀ (i : Nat) (hi : i < es.size) (k : List Key) (x : V), kvs[i]? = some (k, x) → ∃ q, es[i].key = .ref q ∧ H q = some (.tup (k.map kV)) ∧ RelV x es[i].val := by
  obtain ⟨hd, z, hs, xs, pr, o', es, ep, ho, hx, hdt, he, _⟩ := I.hok d _ h
  rw [hd] at ho
  cases ho
  have l1 : es.size = xs.length := size_of_entries he
  have l2 : kvs.length = xs.length := Paired.length pr
  refine ⟨hs, es, ep, hdt, ⟨o, hd, hx, hdt⟩, by omega, fun i hi k x e => ?_⟩
  obtain ⟨b, hb, e1, e2, e3⟩ := paired_get pr e
  have q := entry_at he i
  rw [hb] at q
  rw [Array.getElem?_eq_getElem hi] at q
  have q := Option.some.inj q
  rw [q]
  exact ⟨b.2.1, rfl, e2, e3⟩
theorem turn_itemsT {P : Program} {w : World} {K : PySem.W.Frag} {elts : List Expr} {kk : Nat} {tpos : Pos} {d N : Addr} {o : Obj} {kvs : List (List Key × V)} {es : Array DictEntry} {ep : Nat} (hod : o.data = .dict es ep) (hdN : d < N) :
    Turn P w K (.Tuple elts kk tpos) (ItT d o kvs) [N] N (fun i h => ∃ ok ov, IsItemIter h N d i es.size ep ok ov) := by
  have ne : d ≠ N := Nat.ne_of_lt hdN
  refine turn_of (wr := [N]) (by simp) (fun c hc => hc) (fun i h st c hc => ?_) (fun i h h' st k => ?_) (fun X hP hw hK hcm i pins s σ H I st hg => ?_) (fun X hP hw hK hcm i pins s σ H I st hg => ?_) (fun A i s Q E st q => ?_)
  · obtain ⟨ok, ov, he⟩ := st
    have e : c = N := by simpa using hc
    rw [e]
    exact ⟨_, he, fun v z => nomatch z⟩
  · obtain ⟨ok, ov, he⟩ := st
    exact ⟨ok, ov, k N (by simp) _ he⟩
  · subst hP hw hK
    obtain ⟨hd, hi⟩ := hg
    obtain ⟨hs, es', ep', e1, hr, hsz, hent⟩ := frzT_at I hd
    obtain ⟨rfl, rfl⟩ := dict_ep hod e1
    obtain ⟨⟨k, x⟩, hkx⟩ : ∃ p, kvs[i]? = some p := ⟨kvs[i], List.getElem?_eq_getElem hi⟩
    have hie : i < es'.size := by omega
    obtain ⟨q, q1, q2, q3⟩ := hent i hie k x hkx
    refine ⟨_, _, _, _, GoesN.rawItems (I.ok.hd hcm) N d ne es' ep', hie, ⟨st, hr⟩, fun h' st' => st'.1, fun v h' ⟨T, hi', ev, hT, hTT⟩ => ?_⟩
    rw [q1] at hTT
    exact ⟨T, [.ref q, x], [.ref q, es'[i].val], ev, hT, hTT, .cons rfl (.cons q3 .nil), by simp, fun nT => ⟨T, q, k, x, hkx, rfl, nT, q2, rfl⟩⟩
  · subst hP hw hK
    obtain ⟨hd, hi⟩ := hg
    obtain ⟨hs, es', ep', e1, hr, hsz, hent⟩ := frzT_at I hd
    obtain ⟨rfl, rfl⟩ := dict_ep hod e1
    have hie : es'.size = i := by omega
    subst hie
    exact ⟨_, _, _, GoesN.rawItems (I.ok.hd hcm) N d ne es' ep', ⟨st, hr⟩⟩
  · obtain ⟨ok, ov, he⟩ := st
    exact wpAny_pyIter_itemiter he q
section
variable {X : Cx} {e : Expr} {td : TE} {fe : FE} {apos cpos : Pos}
def iItemsT (td : TE) : TI := fun σ H R => td σ H fun x H1 => ∃ d o kvs, x = .ref d ∧ H1 d = some (.frz o (.dT kvs)) ∧ R (ItT d o kvs) H1
theorem pi_itemsT {elts : List Expr} {kk : Nat} {tpos : Pos} (he : PE X e td) (hbase : attributeBase e "items" X.env (eval e X.env) = eval e X.env := by rfl) (hline : (apos.endLine == cpos.line) = true := by rfl) :
    PI X (.Tuple elts kk tpos) (.Call (.Attribute e "items" apos) [] [] cpos) (iItemsT td) := by
  refine ⟨fun pins s σ H R I h => ?_⟩
  refine wpAny_Call_method (T := "dict") (id := "dict.items") hbase rfl hline F.plainAttrs_dict F.slot_dict_items F.type_dict_items (thn (he.run pins s σ H _ I h) fun u s1 ⟨x, H1, I1, rx, d, o, kvs, ex, hd, q⟩ => ?_)
  subst ex
  obtain rfl : u = Value.ref d := rx
  obtain ⟨hs, es, ep, hod, hr, hsz, hent⟩ := frzT_at I1 hd
  obtain ⟨ob, r1, r2, r3⟩ := id hr
  refine ⟨hr.typeIs, fun o' e' => ?_, ?_⟩
  · cases e'
    exact ⟨ob, r1, r2.2.1⟩
  have lt : d < s1.heap.objs.size := Heap.lt_size r1
  have I2 : Inv X pins σ H1 { s1 with heap := s1.heap.push { cls := .type "dict_items", data := .fields #[.ref d] } } := I1.kept (t' := s1.toks) fun b ob q => Heap.get?_push_of_some _ q
  have fin : wpAny (model X.prog X.w) X.A (pyIter (.ref s1.heap.objs.size)) (PIE X pins σ (.Tuple elts kk tpos) R) X.xe { s1 with heap := s1.heap.push { cls := .type "dict_items", data := .fields #[.ref d] } } := by
    refine wpAny_pyIter_items_raw (d := d) ⟨_, Heap.get?_push_size _ rfl, rfl, rfl⟩ (hr.push _) (pi_one (tk := s1.toks) I2 _ (turn_itemsT hod (by rw [show (s1.heap.push { cls := .type "dict_items", data := .fields #[.ref d] }).objs.size = s1.heap.objs.size + 1 from Heap.size_push ..]; exact Nat.lt_succ_of_lt lt)) ⟨.none, .none, ?_⟩ q)
    exact Heap.get?_push_size _ rfl
  exact method_meetsIn F.slot_dict_items F.entry_dict_items rfl (PySem.evalArgs_none ⟨rfl, hr.typeIs, F.args_dict_items_1 _, _, meets_dict_items_raw d hs, ⟨es, ep, hr⟩, fin⟩)
def itemsD (ks : List (List Key)) (xs : List D) : List D := List.zipWith (fun k x => .tup [.tup (k.map dOfK), x]) ks xs
def iItemsD (fe : FE) : FI := fun ρ => match fe ρ with
  | some (.dic ks xs) => some (itemsD ks xs)
  | _ => none
theorem walk_itemsT {K : PySem.W.Frag} {G : Hp} {d : Addr} {o : Obj} {ks : List (List Key)} {xs : List D} {vs : List V} (h : G d = some (.frz o (.dT (ks.zip vs)))) (hl : ks.length = xs.length) (r : RepL K G xs vs) : Walk K (ItT d o (ks.zip vs)) G (itemsD ks xs) := fun i G1 H1 s1 s2 => by
  have hd := s2 _ _ (s1 _ _ h)
  have lz : (ks.zip vs).length = ks.length := zip_len _ _ (by rw [r.len, hl])
  refine ⟨fun y e => ?_, fun e => ⟨hd, by rw [lz, e]; unfold itemsD; rw [List.length_zipWith, hl, Nat.min_self]⟩⟩
  unfold itemsD at e
  rw [List.getElem?_zipWith] at e
  cases ek : ks[i]? with
  | none => rw [ek] at e; cases e
  | some k =>
    cases ex : xs[i]? with
    | none => rw [ek, ex] at e; cases e
    | some x =>
      rw [ek, ex] at e
      cases e
      obtain ⟨v, a1, a2⟩ := r.get ex
      refine ⟨⟨hd, by rw [lz]; exact (List.getElem?_eq_some_iff.mp ek).1⟩, fun x' H2 ⟨T, q, k', x'', e3, e4, nT, hq, e5⟩ => ?_⟩
      subst e4 e5
      have ez : (ks.zip vs)[i]? = some (k, v) := by
        rw [List.getElem?_zip_eq_some]; exact ⟨ek, a1⟩
      rw [ez] at e3
      cases e3
      -- the key's tuple joins the part that stays
      have s3 : Same (upd G1 q (.tup (k.map kV))) H1 := fun b o hb => by
        by_cases e : b = q
        · rw [e] at hb ⊢; rw [upd_same] at hb; cases hb; exact hq
        · rw [upd_ne e] at hb; exact s2 _ _ hb
      have s4 : Same G1 (upd G1 q (.tup (k.map kV))) := fun b o hb => by
        by_cases e : b = q
        · rw [e] at hb ⊢
          have := s2 _ _ hb
          rw [hq] at this
          cases this
          exact upd_same
        · rw [upd_ne e]; exact hb
      have g0 : Grow G1 H1 (upd G1 q (.tup (k.map kV))) H1 := ⟨s4, .refl _, s3, fun a o h t z => by
        rw [upd_ne]
        · exact z
        · rintro rfl; rw [hq] at h; cases h; cases t⟩
      have g := Grow.new (o := .tup [.ref q, v]) s3 nT
      refine ⟨_, g0.trans g, rep_tup.mpr ⟨T, _, rfl, upd_same, .cons (rep_tup.mpr ⟨q, _, rfl, ?_, (rep_keys k)⟩) (.one (((a2.mono s1).mono s4).mono g.g))⟩⟩
      exact g.g _ _ upd_same
theorem di_itemsT {elts : List Expr} {kk : Nat} {tpos : Pos} (he : DE X e fe) (hbase : attributeBase e "items" X.env (eval e X.env) = eval e X.env := by rfl) (hline : (apos.endLine == cpos.line) = true := by rfl) :
    DIt X (.Tuple elts kk tpos) (.Call (.Attribute e "items" apos) [] [] cpos) (iItemsD fe) :=
  PI.imp (pi_itemsT he hbase hline) fun σ H R ⟨G0, H0, G, ρ, ds, s, q, k⟩ => by
    unfold iItemsD at q
    split at q
    · rename_i ks xs z
      cases q
      refine ⟨G0, H0, G, ρ, _, s, z, fun v G1 H1 g1 r1 => ?_⟩
      obtain ⟨a, o, vs, rfl, h1, h2, h3⟩ := rep_dic.mp r1
      exact ⟨a, o, _, rfl, g1.sub _ _ h1, k _ G1 H1 g1 (walk_itemsT h1 h2 h3)⟩
    · cases q
end
end DL
namespace DL
open PySem PySem.Spec PyProof.Rows L2

/-! ### x = [new row for .. in ..]; x[r][c] = e -/
/-- rows that nobody else holds -/
structure RowsAt (K : PySem.W.Frag) (G1 H1 : Hp) (p : Addr) (rows : List (List D)) (rs : List Addr) (G H : Hp) : Prop where
  g : Grow G1 H1 G H
  at_ : H p = some (.lst (rs.map V.ref))
  out : G p = none
  len : rs.length = rows.length
  row : ∀ (k : Nat) (r : Addr) (xs : List D), rs[k]? = some r → rows[k]? = some xs → G r = none ∧ H1 r = none ∧ r ≠ p ∧ ∃ vs, H r = some (.lst vs) ∧ RepL K G xs vs
  nd : rs.Nodup
theorem RowsAt.grow {K : PySem.W.Frag} {G1 H1 G H G' H' : Hp} {p : Addr} {rows : List (List D)} {rs : List Addr} (s : RowsAt K G1 H1 p rows rs G H) (g : Grow G H G' H') : RowsAt K G1 H1 p rows rs G' H' where
  g := s.g.trans g
  at_ := g.h _ _ s.at_
  out := g.fr p _ s.at_ rfl s.out
  len := s.len
  row := fun k r xs e1 e2 => by
    obtain ⟨a1, a2, a3, vs, a4, a5⟩ := s.row k r xs e1 e2
    exact ⟨g.fr r _ a4 rfl a1, a2, a3, vs, g.h _ _ a4, a5.mono g.g⟩
  nd := s.nd
theorem RowsAt.push {K : PySem.W.Frag} {G1 H1 G H : Hp} {p r : Addr} {rows : List (List D)} {rs : List Addr} {xs : List D} {vs : List V} (hn : H1 p = none) (s : RowsAt K G1 H1 p rows rs G H)
    (g1 : G r = none) (h1 : H1 r = none) (ne : r ≠ p) (hr : H r = some (.lst vs)) (rl : RepL K G xs vs) (hnew : r ∉ rs) : RowsAt K G1 H1 p (rows ++ [xs]) (rs ++ [r]) G (upd H p (.lst (rs.map V.ref ++ [.ref r]))) where
  g := ⟨s.g.g, fun a x h => by rw [upd_ne (ne_of_none h hn)]; exact s.g.h _ _ h, fun a x h => by rw [upd_ne (ne_of_none h s.out)]; exact s.g.sub _ _ h, s.g.fr⟩
  at_ := by rw [upd_same, List.map_append]; rfl
  out := s.out
  len := by simp [s.len]
  row := fun k r' ys e1 e2 => by
    by_cases hk : k < rs.length
    · rw [List.getElem?_append_left hk] at e1
      rw [List.getElem?_append_left (by rw [← s.len]; exact hk)] at e2
      obtain ⟨a1, a2, a3, us, a4, a5⟩ := s.row k r' ys e1 e2
      exact ⟨a1, a2, a3, us, by rw [upd_ne a3]; exact a4, a5⟩
    · rw [List.getElem?_append_right (by omega)] at e1
      rw [List.getElem?_append_right (by rw [← s.len]; omega), ← s.len] at e2
      cases hz : k - rs.length with
      | zero =>
        rw [hz] at e1 e2
        cases e1
        cases e2
        exact ⟨g1, h1, ne, vs, by rw [upd_ne ne]; exact hr, rl⟩
      | succ m => rw [hz] at e1; cases e1
  nd := by
    rw [List.nodup_append]
    exact ⟨s.nd, by simp, fun a ha b hb => by
      have : b = r := by simpa using hb
      rw [this]
      rintro rfl
      exact hnew ha⟩
/-- all join what stays, one of them changed -/
theorem RowsAt.join {K : PySem.W.Frag} {G1 H1 G H : Hp} {p r : Addr} {rows : List (List D)} {rs : List Addr} {j m : Nat} {xs : List D} {d : D} {v : V} {vs : List V} (s : RowsAt K G1 H1 p rows rs G H) (hj : rs[j]? = some r) (hx : rows[j]? = some xs)
    (hr : H r = some (.lst vs)) (rv : Rep K G d v) (hg1 : G1 p = none) (hh1 : H1 p = none) : ∃ G', Grow G1 H1 G' (upd H r (.lst (vs.set m v))) ∧ Same G G' ∧ G' p = none ∧ (upd H r (.lst (vs.set m v))) p = some (.lst (rs.map V.ref)) ∧ RepL K G' ((rows.set j (xs.set m d)).map D.lst) (rs.map V.ref) := by
  obtain ⟨a1, a2, a3, us, a4, a5⟩ := s.row j r xs hj hx
  rw [hr] at a4
  cases a4
  have hrow : ∀ a ∈ rs, G a = none ∧ H1 a = none ∧ a ≠ p ∧ ∃ ws, H a = some (.lst ws) := fun a ha => by
    obtain ⟨k, hk⟩ := List.getElem?_of_mem ha
    have hl : k < rows.length := by rw [← s.len]; exact (List.getElem?_eq_some_iff.mp hk).1
    obtain ⟨b1, b2, b3, ws, b4, _⟩ := s.row k a _ hk (List.getElem?_eq_getElem hl)
    exact ⟨b1, b2, b3, ws, b4⟩
  have hrm : r ∈ rs := List.mem_of_getElem? hj
  let G' : Hp := fun a => if a ∈ rs then (upd H r (.lst (vs.set m v))) a else G a
  have sg : Same G G' := fun a o e => by
    show (if a ∈ rs then _ else G a) = _
    rw [if_neg (fun ha => by rw [(hrow a ha).1] at e; cases e)]
    exact e
  have gin : ∀ a ∈ rs, G' a = (upd H r (.lst (vs.set m v))) a := fun a ha => if_pos ha
  refine ⟨G', ⟨s.g.g.trans sg, fun a o e => ?_, fun a o e => ?_, fun a o e t z => ?_⟩, sg, ?_, ?_, ?_⟩
  · rw [upd_ne (ne_of_none e a2)]
    exact s.g.h _ _ e
  · by_cases ha : a ∈ rs
    · rw [gin a ha] at e; exact e
    · have e : G a = some o := by have e : (if a ∈ rs then _ else G a) = some o := e; rw [if_neg ha] at e; exact e
      rw [upd_ne (ne_of_none e a1)]
      exact s.g.sub _ _ e
  · have ha : a ∉ rs := fun ha => by rw [(hrow a ha).2.1] at e; cases e
    show (if a ∈ rs then _ else G a) = none
    rw [if_neg ha]
    exact s.g.fr a o e t z
  · have ha : p ∉ rs := fun ha => (hrow p ha).2.2.1 rfl
    show (if p ∈ rs then _ else G p) = none
    rw [if_neg ha]
    exact s.out
  · rw [upd_ne (Ne.symm a3)]; exact s.at_
  · -- the rows, one by one
    have key : ∀ (n : Nat), RepL K G' (((rows.set j (xs.set m d)).drop n).map D.lst) ((rs.drop n).map V.ref) := by
      intro n
      generalize hk : rs.length - n = k
      induction k generalizing n with
      | zero =>
        have h1 : rs.drop n = [] := List.drop_eq_nil_of_le (by omega)
        have h2 : (rows.set j (xs.set m d)).drop n = [] := List.drop_eq_nil_of_le (by rw [List.length_set, ← s.len]; omega)
        rw [h1, h2]
        exact .nil
      | succ k ih =>
        have hn : n < rs.length := by omega
        have hn2 : n < rows.length := by rw [← s.len]; exact hn
        have hn3 : n < (rows.set j (xs.set m d)).length := by rw [List.length_set]; exact hn2
        rw [List.drop_eq_getElem_cons hn, List.drop_eq_getElem_cons hn3, List.map_cons, List.map_cons]
        refine .cons ?_ (ih (n + 1) (by omega))
        have e1 : rs[n]? = some rs[n] := List.getElem?_eq_getElem hn
        have ha : rs[n] ∈ rs := List.getElem_mem hn
        obtain ⟨b1, b2, b3, ws, b4, b5⟩ := s.row n _ _ e1 (List.getElem?_eq_getElem hn2)
        by_cases e : j = n
        · subst e
          have er : rs[j] = r := by rw [e1] at hj; exact Option.some.inj hj
          have ex : rows[j] = xs := by rw [List.getElem?_eq_getElem hn2] at hx; exact Option.some.inj hx
          rw [List.getElem_set_self, er]
          refine rep_lst.mpr ⟨r, _, rfl, SqL.of (by rw [gin r hrm, upd_same]), (RepL.setAt rv m ?_).mono sg⟩
          exact a5
        · rw [List.getElem_set_ne e]
          have ne : rs[n] ≠ r := fun z => by
            have hjl : j < rs.length := (List.getElem?_eq_some_iff.mp hj).1
            have hjr : rs[j] = r := by rw [List.getElem?_eq_getElem hjl] at hj; exact Option.some.inj hj
            have pw := List.pairwise_iff_getElem.mp s.nd
            rcases Nat.lt_or_gt_of_ne e with h | h
            · exact pw j n hjl hn h (hjr.trans z.symm)
            · exact pw n j hn hjl h (z.trans hjr.symm)
          exact rep_lst.mpr ⟨rs[n], ws, rfl, SqL.of (by rw [gin _ ha, upd_ne ne]; exact b4), b5.mono sg⟩
    simpa using key 0

def asRows : List D → Option (List (List D))
  | [] => some []
  | .lst xs :: ds => (asRows ds).map (xs :: ·)
  | _ :: _ => none
def asI : D → Option Int
  | .int i => some i
  | _ => none
theorem asI_inv {o : Option D} {i : Int} (h : o.bind asI = some i) : o = some (.int i) := by
  obtain ⟨d, e, h⟩ := bind_inv h
  rw [e]
  cases d <;> first | (cases h; rfl) | cases h
def rowsD (i : Nat) (fi : FI) (vs : List Nat) (g : FG) (fe fr fc fv : FE) (ρ : DEnv) : Option (List D) :=
  if i < ρ.length then ((fi ρ).bind fun ds => (lcL g tYesD fe (wipeD ρ vs) ds).bind fun ys => if ys.length ≤ sizeLine then asRows ys else none).bind fun rows => (fv (ρ.set i none)).bind fun d =>
    ((fr (ρ.set i none)).bind asI).bind fun r => ((fc (ρ.set i none)).bind asI).bind fun c => (ixN rows.length r).bind fun j => (rows[j]?).bind fun xs => (ixN xs.length c).map fun m => (rows.set j (xs.set m d)).map D.lst
  else none
def xRows (i : Nat) (fi : FI) (vs : List Nat) (g : FG) (fe fr fc fv : FE) : FS := fun ρ => match rowsD i fi vs g fe fr fc fv ρ with
  | some l => .nx (ρ.set i (some (.own (.lst l))))
  | none => .bad
theorem asRows_app : ∀ {a b : List D} {r : List (List D)}, asRows (a ++ b) = some r → ∃ r1 r2, asRows a = some r1 ∧ asRows b = some r2 ∧ r = r1 ++ r2
  | [], b, r, h => ⟨[], r, rfl, h, rfl⟩
  | .lst xs :: a, b, r, h => by
    obtain ⟨r0, h1, h2⟩ := map_inv (show (asRows (a ++ b)).map (xs :: ·) = some r from h)
    obtain ⟨r1, r2, e1, e2, e3⟩ := asRows_app h1
    subst h2 e3
    exact ⟨xs :: r1, r2, by show (asRows a).map _ = _; rw [e1]; rfl, e2, rfl⟩
  | .non :: a, b, r, h => by cases h
  | .bl _ :: a, b, r, h => by cases h
  | .int _ :: a, b, r, h => by cases h
  | .str _ :: a, b, r, h => by cases h
  | .ty _ :: a, b, r, h => by cases h
  | .tup _ :: a, b, r, h => by cases h
  | .obj _ _ _ :: a, b, r, h => by cases h
  | .dic _ _ :: a, b, r, h => by cases h
  | .dik _ _ :: a, b, r, h => by cases h
theorem asRows_cons {y : D} {ys : List D} {r : List (List D)} (h : asRows (y :: ys) = some r) : ∃ xs r', y = .lst xs ∧ asRows ys = some r' ∧ r = xs :: r' := by
  cases y with
  | lst xs =>
    obtain ⟨r0, h1, h2⟩ := map_inv (show (asRows ys).map (xs :: ·) = some r from h)
    exact ⟨xs, r0, rfl, h1, h2.symm⟩
  | _ => cases h
theorem DSt.clear {K : PySem.W.Frag} {G0 : Ent} {H0 G H : Hp} {σ : L2.St} {ρ : DEnv} (s : DSt K G0 H0 G H σ ρ) (i : Nat) (v : Option V) : DSt K G0 H0 G H (σ.set i v) (ρ.set i none) where
  gr := s.gr
  len := by simpa using s.len
  val := fun j e q => by
    by_cases h : i = j
    · subst h
      have hl : i < ρ.length := by have := (List.getElem?_eq_some_iff.mp q).1; simpa using this
      rw [List.getElem?_set_self hl] at q; cases q
    · rw [List.getElem?_set_ne h] at q ⊢; exact s.val j e q
  own := fun j e q => by
    by_cases h : i = j
    · subst h
      have hl : i < ρ.length := by have := (List.getElem?_eq_some_iff.mp q).1; simpa using this
      rw [List.getElem?_set_self hl] at q; cases q
    · rw [List.getElem?_set_ne h] at q ⊢; exact s.own j e q
  sep := fun j k e f p hjk q1 q2 q3 q4 => by
    have f1 : i ≠ j := fun h => by
      subst h
      have hl : i < ρ.length := by have := (List.getElem?_eq_some_iff.mp q1).1; simpa using this
      rw [List.getElem?_set_self hl] at q1; cases q1
    have f2 : i ≠ k := fun h => by
      subst h
      have hl : i < ρ.length := by have := (List.getElem?_eq_some_iff.mp q2).1; simpa using this
      rw [List.getElem?_set_self hl] at q2; cases q2
    rw [List.getElem?_set_ne f1] at q1 q3
    rw [List.getElem?_set_ne f2] at q2 q4
    exact s.sep j k e f p hjk q1 q2 q3 q4
  slf := fun p e h1 h2 q => by
    by_cases h : i = 0
    · subst h
      have hl : 0 < ρ.length := by have := (List.getElem?_eq_some_iff.mp q).1; simpa using this
      rw [List.getElem?_set_self hl] at q; cases q
    · rw [List.getElem?_set_ne h] at q ⊢; exact s.slf p e h1 h2 q
theorem asRows_len : ∀ {a : List D} {r : List (List D)}, asRows a = some r → a.length = r.length
  | [], r, h => by cases h; rfl
  | y :: a, r, h => by
    obtain ⟨xs, r', rfl, h2, rfl⟩ := asRows_cons h
    simp [asRows_len h2]
theorem asRows_snoc : ∀ {a : List D} {r : List (List D)} {xs : List D}, asRows a = some r → asRows (a ++ [.lst xs]) = some (r ++ [xs])
  | [], r, xs, h => by cases h; rfl
  | y :: a, r, xs, h => by
    obtain ⟨ys, r', rfl, h2, rfl⟩ := asRows_cons h
    show (asRows (a ++ [.lst xs])).map _ = _
    rw [asRows_snoc h2]; rfl
section
variable {X : Cx} {tg iter elt er ec e : Expr} {fi : FI} {g : FG} {fe fr fc fv : FE} {scope : Scope} {own : List (Str × Nat)} {pos spos pos2 tp1 tp2 py p2 : Pos} {rest : List Stmt} {fs : FS}
theorem lift_rows {K : PySem.W.Frag} {vs : List Nat} {σ : L2.St} {H : Hp} {Q : VK}
    (h : ∃ (G0 : Ent) (H0 G : Hp) (ρ : DEnv) (ds ys : List D) (rows : List (List D)), DSt K G0 H0 G H σ ρ ∧ fi ρ = some ds ∧ lcL g tYesD fe (wipeD ρ vs) ds = some ys ∧ ys.length ≤ sizeLine ∧ asRows ys = some rows ∧
      ∀ p rs G1 H1 G' H', Grow G H G1 H1 → H1 p = none → RowsAt K G1 H1 p rows rs G' H' → Q (.ref p) H') : tLc (liftI K fi) (liftG K vs g) (liftT K tYesD) (liftF K fe) vs σ H Q := by
  obtain ⟨G0, H0, G, ρ, ds, ys, rows, s, z, z2, hsz, hrows, k⟩ := h
  refine ⟨G0, H0, G, ρ, ds, s, z, fun J G1 H1 g1 walk p hp => ?_⟩
  have hgp : G1 p = none := g1.sub.free hp
  refine ⟨fun i m H' => ∃ G2 out rest rs r1, RowsAt K G1 H1 p r1 rs G2 H' ∧ i ≤ ds.length ∧ m = ds.length - i ∧ lcL g tYesD fe (wipeD ρ vs) (ds.drop i) = some rest ∧ out ++ rest = ys ∧ asRows out = some r1,
    ⟨ds.length, G1, [], ys, [], [], ⟨Grow.out g1.sub hp, upd_same, hgp, rfl, (fun k r xs e => by cases e), List.nodup_nil⟩, Nat.zero_le _, rfl, z2, rfl, rfl⟩, ?_⟩
  rintro i m H2 ⟨G2, out, rest, rs, r1, l2, hil, rfl, z3, e3, e4⟩
  have w := walk i G2 H2 l2.g.g l2.g.sub
  cases e : ds[i]? with
  | none =>
    have hi' : ds.length ≤ i := List.getElem?_eq_none_iff.mp e
    have hi'' : i = ds.length := Nat.le_antisymm hil hi'
    rw [hi'', List.drop_length] at z3
    cases z3
    rw [List.append_nil] at e3
    subst e3
    rw [e4] at hrows
    cases hrows
    exact .inl ⟨w.2 hi'', k p rs G1 H1 G2 H2 g1 hp l2⟩
  | some d =>
    have hl : i < ds.length := (List.getElem?_eq_some_iff.mp e).1
    rw [drop_eq e] at z3
    unfold lcL at z3
    obtain ⟨ρ1, z4, z3⟩ := bind_inv z3
    obtain ⟨b, z5, z3⟩ := bind_inv z3
    cases z5
    obtain ⟨y', z6, z3⟩ := bind_inv z3
    obtain ⟨rest', z7, z8⟩ := map_inv z3
    subst z8
    obtain ⟨w1, w2⟩ := w.1 d e
    refine .inr ⟨w1, fun H' => ∃ G3 out rest rs r1, RowsAt K G1 H1 p r1 rs G3 H' ∧ lcL g tYesD fe (wipeD ρ vs) (ds.drop (i + 1)) = some rest ∧ out ++ rest = ys ∧ asRows out = some r1, fun H' ⟨G3, out', rest', rs', r1', l3, y1, y2, y3⟩ => ⟨ds.length - (i + 1), by omega, G3, out', rest', rs', r1', l3, by omega, rfl, y1, y2, y3⟩, fun x H3 y => ?_⟩
    obtain ⟨G3, g3, r3⟩ := w2 x H3 y
    have s2 : DSt K G0 H0 G3 H3 (wipe σ vs) (wipeD ρ vs) := (s.wiped _).grow (g1.trans (l2.g.trans g3))
    have l3 := l2.grow g3
    refine ⟨G0, H0, G3, wipeD ρ vs, d, ρ1, s2, r3, z4, fun σ4 G4 H4 s4 g4 hw => ⟨hw.trans (wipe_wipe _ _), G0, H0, G4, ρ1, true, s4, rfl, fun G5 H5 g5 => ?_⟩⟩
    have l5 := (l3.grow g4).grow g5
    refine iteT ⟨G0, H0, G5, ρ1, y', s4.grow g5, z6, fun q G6 H6 g6 n1 n2 r6 => ?_⟩
    have l6 := l5.grow g6
    have hr2 := hrows
    rw [← e3] at hr2
    obtain ⟨ra, rb, f1, f2, f3⟩ := asRows_app hr2
    obtain ⟨xs, rc, f4, f5, f6⟩ := asRows_cons f2
    subst f4
    obtain ⟨us, hq, rq⟩ := r6
    have hqp : q ≠ p := by
      rintro rfl
      rw [l5.at_] at n1; cases n1
    have hqr : q ∉ rs := fun hm => by
      obtain ⟨kk, hk⟩ := List.getElem?_of_mem hm
      have hl2 : kk < r1.length := by rw [← l5.len]; exact (List.getElem?_eq_some_iff.mp hk).1
      obtain ⟨_, _, _, ws, b4, _⟩ := l5.row kk q _ hk (List.getElem?_eq_getElem hl2)
      rw [n1] at b4; cases b4
    refine ⟨_, l6.at_, ?_, G6, out ++ [.lst xs], rest', rs ++ [q], r1 ++ [xs], l6.push hp n2 (l5.g.h.free n1) hqp hq rq hqr, z7, by rw [List.append_assoc]; exact e3, ?_⟩
    · rw [List.length_map, l6.len, ← asRows_len e4]
      have : (out ++ D.lst xs :: rest').length ≤ sizeLine := by rw [e3]; exact hsz
      rw [List.length_append, List.length_cons] at this
      omega
    · exact asRows_snoc e4
theorem ds_rows (i : Nat) {y : Str} (hc : X.calm = true) (hN : X.N.Nodup) (hi : DIt X tg iter fi) (ok : BlkOk X.N X.env.scope scope own)
    (hg : ∀ (s : Shared) (H : Hp) (C : Addr) (cl : List (Str × Addr)) (fp : List Addr), DGt (X.blk s H scope (compEnvC scope cl C X.env) fp) (own.map (·.2)) tg g)
    (he : ∀ (s : Shared) (H : Hp) (C : Addr) (cl : List (Str × Addr)) (fp : List Addr), DF (X.blk s H scope (compEnvC scope cl C X.env) fp) elt fe)
    (hv : DE X e fv) (hr : DP X er fr) (hcc : DP X ec fc) (hrest : DSs X rest fs)
    (hy : X.N[i]? = some y := by rfl) (hyl : X.env.scope.names.lookup y = some .local := by rfl) (hsw : swapsWith (.ListComp elt [⟨tg, iter, [], 0⟩] scope pos) (some (.Name y py)) spos.line X.env = pure true := by rfl)
    (hs : ∀ x, foldedSetIterable iter X.env x = pure x := by intro _; rfl) (hd : (y == ("__debug__" : Str)) = false := by decide) (hcd : (y == ("__classdict__" : Str)) = false := by decide) (hpi : PlainIx er := by exact fun _ _ => rfl)
    (ha : ∀ v, assign (.Subscript (.Subscript (.Name y p2) er tp1) ec tp2) X.env v = (do
      let ov ← holding [v] (eval (.Subscript (.Name y p2) er tp1) X.env)
      let iv ← holding [v, ov] (eval ec X.env)
      standAt tp2
      holding [v, ov, iv] (setItem ov iv v)
      release [v, ov, iv] []) := by intro _; rfl)
    (hs1 : swapsWithSole [(.Subscript (.Subscript (.Name y p2) er tp1) ec tp2 : Expr)] e pos2.line X.env = pure false := by rfl) (hw : swappedStores [(.Subscript (.Subscript (.Name y p2) er tp1) ec tp2 : Expr)] e X.env = pure none := by rfl)
    (h1 : (assignEach [(.Subscript (.Subscript (.Name y p2) er tp1) ec tp2 : Expr)] X.env).map (·.2) = [assign (.Subscript (.Subscript (.Name y p2) er tp1) ec tp2) X.env] := by rfl) :
    DSs X (.Assign [.Name y py] (.ListComp elt [⟨tg, iter, [], 0⟩] scope pos) spos :: .Assign [.Subscript (.Subscript (.Name y p2) er tp1) ec tp2] e pos2 :: rest) (xSeq (xRows i fi (own.map (·.2)) g fe fr fc fv) fs) :=
  PSs.imp (pss_cons (ps_setLc (wi := liftI X.K fi) (g := liftG X.K (own.map (fun x : Str × Nat => x.2)) g) (tt := liftT X.K tYesD) (te := liftF X.K fe) hc hN hy hyl hsw hi ok hg (fun _ _ _ _ _ => dts_nil) he hs)
    (pss_cons (ps_asg hv (pg_sub (pe_ix ix_seq (pe_var hy (.inl hyl) hd hcd) hr hpi) hcc set_list ha) hs1 hw h1) hrest)) fun D σ H ⟨G0, H0, G, ρ, s, q⟩ => by
    unfold xSeq xRows at q
    cases z : rowsD i fi (own.map (·.2)) g fe fr fc fv ρ with
    | none => rw [z] at q; exact q.elim
    | some l =>
      rw [z] at q
      dsimp only at q
      unfold rowsD at z
      split at z
      case isFalse => cases z
      rename_i hil
      obtain ⟨rows, za, zz⟩ := bind_inv z
      obtain ⟨ds, z1, za⟩ := bind_inv za
      obtain ⟨ys, z2, za⟩ := bind_inv za
      split at za
      case isFalse => cases za
      rename_i hsz
      obtain ⟨d, e1, zz⟩ := bind_inv zz
      obtain ⟨r, e2, zz⟩ := bind_inv zz
      obtain ⟨c, e3, zz⟩ := bind_inv zz
      obtain ⟨j, hj, zz⟩ := bind_inv zz
      obtain ⟨xs, hx, zz⟩ := bind_inv zz
      obtain ⟨m, hm, zz⟩ := map_inv zz
      subst zz
      have e2 := asI_inv e2
      have e3 := asI_inv e3
      show tLc (liftI X.K fi) (liftG X.K (List.map (fun x => x.snd) own) g) (liftT X.K tYesD) (liftF X.K fe) (List.map (fun x => x.snd) own) σ H (fun x H1 => gName i x σ H1 fun σ1 H2 => tSeq (tAsg (liftE X.K fv) (L2.gSub (tOp (rIx X.K) (tVar i) (liftP X.K fr)) (liftP X.K fc) rSetL)) (liftS X.K fs) D σ1 H2)
      refine lift_rows ⟨G0, H0, G, ρ, ds, ys, rows, s, z1, z2, hsz, za, fun p rs G1 H1 G2 H2 g1 hp R => ?_⟩
      have hgp : G1 p = none := g1.sub.free hp
      have hl : i < σ.length := by rw [s.len]; exact hil
      have sg : DSt X.K G0 H0 G2 H2 (σ.set i (some (.ref p))) (ρ.set i none) := (s.grow (g1.trans R.g)).clear i _
      refine ⟨G0, H0, G2, _, d, sg, e1, fun x G3 H3 g3 r3 => ?_⟩
      have R3 := R.grow g3
      refine ⟨.ref p, ?_, G0, H0, G3, _, _, sg.grow g3, e2, fun vr G4 H4 g4 r4 => ?_⟩
      · exact List.getElem?_set_self hl
      · have R4 := R3.grow g4
        have hjr : j < rs.length := by rw [R.len]; exact (List.getElem?_eq_some_iff.mp hx).1
        have hrj : rs[j]? = some rs[j] := List.getElem?_eq_getElem hjr
        refine .inl ⟨p, rs.map V.ref, r, .ref rs[j], rfl, by simpa using r4, SqL.of R4.at_, ?_, G0, H0, G4, _, _, (sg.grow g3).grow g4, e3, fun vc G5 H5 g5 r5 => ?_⟩
        · unfold atI
          rw [List.length_map, R.len, hj]
          show (rs.map V.ref)[j]? = _
          rw [List.getElem?_map, hrj]; rfl
        · have R5 := R4.grow g5
          obtain ⟨b1, b2, b3, ws, b4, b5⟩ := R5.row j _ xs hrj hx
          refine ⟨rs[j], ws, c, m, rfl, by simpa using r5, b4, by rw [b5.len]; exact hm, ?_⟩
          obtain ⟨G6, g6, sg6, n6, p6, r6⟩ := R5.join (m := m) hrj hx b4 ((r3.mono g4.g).mono g5.g) hgp hp
          have sF := (s.grow (g1.trans g6)).setOwn (i := i) (d := .lst ((rows.set j (xs.set m d)).map DL.D.lst)) (p := p) ((s.gr.h.trans g1.h).free hp) n6 ⟨_, p6, r6⟩ (fun jj ee hjj w1 w2 => ?_) (.inr rfl)
          · exact ⟨G0, H0, G6, _, sF, q.mono (g1.g.trans g6.g)⟩
          · obtain ⟨p', ep, _, _, rr⟩ := s.own jj ee w1
            rw [w2] at ep
            cases ep
            exact rr.there (g1.h.free hp)
end
end DL
namespace DL
open PySem PySem.Spec PyProof.Rows L2
section
variable {X : Cx} {a b : Expr} {fa fb : FE} {pos : Pos}
theorem dt_isN {j p2} (ha : DP X a fa) : DT X (.Compare a [.Is] [.Constant .none j p2] pos) (tBool (eBin gIsN fa (eK .non))) := dt_cmp (fun G H x y d v u Q s r1 r2 q k => by
  cases y <;> first | cases q | skip
  refine ⟨by simpa using r2, ?_⟩
  rw [prep_isnon r1]
  exact k _ G H (.refl s) (rep_bl.mpr rfl)) op_isN ha de_non.p (nomark _)
theorem dt_notN {j p2} (ha : DP X a fa) : DT X (.Compare a [.IsNot] [.Constant .none j p2] pos) (tBool (eBin gNotN fa (eK .non))) := dt_cmp (fun G H x y d v u Q s r1 r2 q k => by
  cases y <;> first | cases q | skip
  refine ⟨by simpa using r2, ?_⟩
  rw [prep_isnon r1]
  exact k _ G H (.refl s) (rep_bl.mpr rfl)) op_notN ha de_non.p (nomark _)
theorem bindsOf {K : PySem.W.Frag} {fd : FuncData} {ps : List Str} {dvs : List V} (h : ∃ ds, Vals (dvs.drop dvs.length) ds ∧ Binds K fd ps ds) : Binds K fd ps [] := by
  obtain ⟨ds, h1, h2⟩ := h
  rw [List.drop_length] at h1
  cases h1
  exact h2
end
end DL
namespace K75
open PySem PySem.Spec PyProof.Rows L2 DL
def top (i : Nat) : Stmt := PySem.Challenge.pw_hiredhands_k75_cheapest_whole.main.body.getD i (.Pass ⟨0, 0, 0, 0⟩)
structure Tx (K : PySem.W.Frag) (mg : Str → Option Value) : Prop where
  cls_Crew : Cls K (He.ga K "Crew")
  d_Crew_init : ∃ fd, FunD K "__init__" "Crew.__init__" (defArgs (inClass (top 10) 0)) (defBody (inClass (top 10) 0)) (defScope (inClass (top 10) 0)) [.int 0] [] (He.fAd K ("Crew", some "__init__")) fd
  d_Crew_of_kind : ∃ fd, FunD K "of_kind" "Crew.of_kind" (defArgs (inClass (top 10) 2)) (defBody (inClass (top 10) 2)) (defScope (inClass (top 10) 2)) [] [] (He.fAd K ("Crew", some "of_kind")) fd
  d_Crew_slack : ∃ fd, FunD K "slack" "Crew.slack" (defArgs (inClass (top 10) 1)) (defBody (inClass (top 10) 1)) (defScope (inClass (top 10) 1)) [] [] (He.fAd K ("Crew", some "slack")) fd
  d_Crew_slacks : ∃ fd, FunD K "slacks" "Crew.slacks" (defArgs (inClass (top 10) 4)) (defBody (inClass (top 10) 4)) (defScope (inClass (top 10) 4)) [] [] (He.fAd K ("Crew", some "slacks")) fd
  d_Crew_strength : ∃ fd, FunD K "strength" "Crew.strength" (defArgs (inClass (top 10) 8)) (defBody (inClass (top 10) 8)) (defScope (inClass (top 10) 8)) [] [] (He.fAd K ("Crew", some "strength")) fd
  d__law_all_counts : ∃ fd, FunD K "_law_all_counts" "_law_all_counts" (defArgs (top 42)) (defBody (top 42)) (defScope (top 42)) [] [] (He.fAd K ("_law_all_counts", none)) fd
  g__law_all_counts : mg "_law_all_counts" = some (.ref (He.fAd K ("_law_all_counts", none)))
  d__law_best : ∃ fd, FunD K "_law_best" "_law_best" (defArgs (top 44)) (defBody (top 44)) (defScope (top 44)) [] [] (He.fAd K ("_law_best", none)) fd
  g__law_best : mg "_law_best" = some (.ref (He.fAd K ("_law_best", none)))
  d__law_bound : ∃ fd, FunD K "_law_bound" "_law_bound" (defArgs (top 45)) (defBody (top 45)) (defScope (top 45)) [] [] (He.fAd K ("_law_bound", none)) fd
  g__law_bound : mg "_law_bound" = some (.ref (He.fAd K ("_law_bound", none)))
  d__law_bound_right : ∃ fd, FunD K "_law_bound_right" "_law_bound_right" (defArgs (top 47)) (defBody (top 47)) (defScope (top 47)) [] [] (He.fAd K ("_law_bound_right", none)) fd
  g__law_bound_right : mg "_law_bound_right" = some (.ref (He.fAd K ("_law_bound_right", none)))
  d__law_cell : ∃ fd, FunD K "_law_cell" "_law_cell" (defArgs (top 35)) (defBody (top 35)) (defScope (top 35)) [] [] (He.fAd K ("_law_cell", none)) fd
  g__law_cell : mg "_law_cell" = some (.ref (He.fAd K ("_law_cell", none)))
  d__law_crew_right : ∃ fd, FunD K "_law_crew_right" "_law_crew_right" (defArgs (top 46)) (defBody (top 46)) (defScope (top 46)) [] [] (He.fAd K ("_law_crew_right", none)) fd
  g__law_crew_right : mg "_law_crew_right" = some (.ref (He.fAd K ("_law_crew_right", none)))
  d__law_dealt : ∃ fd, FunD K "_law_dealt" "_law_dealt" (defArgs (top 40)) (defBody (top 40)) (defScope (top 40)) [] [] (He.fAd K ("_law_dealt", none)) fd
  g__law_dealt : mg "_law_dealt" = some (.ref (He.fAd K ("_law_dealt", none)))
  d__law_digits : ∃ fd, FunD K "_law_digits" "_law_digits" (defArgs (top 36)) (defBody (top 36)) (defScope (top 36)) [] [] (He.fAd K ("_law_digits", none)) fd
  g__law_digits : mg "_law_digits" = some (.ref (He.fAd K ("_law_digits", none)))
  d__law_enough : ∃ fd, FunD K "_law_enough" "_law_enough" (defArgs (top 41)) (defBody (top 41)) (defScope (top 41)) [] [] (He.fAd K ("_law_enough", none)) fd
  g__law_enough : mg "_law_enough" = some (.ref (He.fAd K ("_law_enough", none)))
  d__law_enough_counts : ∃ fd, FunD K "_law_enough_counts" "_law_enough_counts" (defArgs (top 43)) (defBody (top 43)) (defScope (top 43)) [] [] (He.fAd K ("_law_enough_counts", none)) fd
  g__law_enough_counts : mg "_law_enough_counts" = some (.ref (He.fAd K ("_law_enough_counts", none)))
  d__law_parts : ∃ fd, FunD K "_law_parts" "_law_parts" (defArgs (top 38)) (defBody (top 38)) (defScope (top 38)) [] [] (He.fAd K ("_law_parts", none)) fd
  g__law_parts : mg "_law_parts" = some (.ref (He.fAd K ("_law_parts", none)))
  d__law_slacks : ∃ fd, FunD K "_law_slacks" "_law_slacks" (defArgs (top 37)) (defBody (top 37)) (defScope (top 37)) [] [] (He.fAd K ("_law_slacks", none)) fd
  g__law_slacks : mg "_law_slacks" = some (.ref (He.fAd K ("_law_slacks", none)))
  d__law_takes : ∃ fd, FunD K "_law_takes" "_law_takes" (defArgs (top 39)) (defBody (top 39)) (defScope (top 39)) [] [] (He.fAd K ("_law_takes", none)) fd
  g__law_takes : mg "_law_takes" = some (.ref (He.fAd K ("_law_takes", none)))
  d__law_whole : ∃ fd, FunD K "_law_whole" "_law_whole" (defArgs (top 34)) (defBody (top 34)) (defScope (top 34)) [] [] (He.fAd K ("_law_whole", none)) fd
  g__law_whole : mg "_law_whole" = some (.ref (He.fAd K ("_law_whole", none)))
  d_all_counts : ∃ fd, FunD K "all_counts" "all_counts" (defArgs (top 15)) (defBody (top 15)) (defScope (top 15)) [] [] (He.fAd K ("all_counts", none)) fd
  g_all_counts : mg "all_counts" = some (.ref (He.fAd K ("all_counts", none)))
  d_cheapest : ∃ fd, FunD K "cheapest" "cheapest" (defArgs (top 30)) (defBody (top 30)) (defScope (top 30)) [] [] (He.fAd K ("cheapest", none)) fd
  g_cheapest : mg "cheapest" = some (.ref (He.fAd K ("cheapest", none)))
  d_dealt_hires : ∃ fd, FunD K "dealt_hires" "dealt_hires" (defArgs (top 20)) (defBody (top 20)) (defScope (top 20)) [] [] (He.fAd K ("dealt_hires", none)) fd
  g_dealt_hires : mg "dealt_hires" = some (.ref (He.fAd K ("dealt_hires", none)))
  d_enough_counts : ∃ fd, FunD K "enough_counts" "enough_counts" (defArgs (top 27)) (defBody (top 27)) (defScope (top 27)) [] [] (He.fAd K ("enough_counts", none)) fd
  g_enough_counts : mg "enough_counts" = some (.ref (He.fAd K ("enough_counts", none)))
  d_first_hire : ∃ fd, FunD K "first_hire" "first_hire" (defArgs (top 29)) (defBody (top 29)) (defScope (top 29)) [] [] (He.fAd K ("first_hire", none)) fd
  g_first_hire : mg "first_hire" = some (.ref (He.fAd K ("first_hire", none)))
  d_grouping : ∃ fd, FunD K "grouping" "grouping" (defArgs (top 23)) (defBody (top 23)) (defScope (top 23)) [] [] (He.fAd K ("grouping", none)) fd
  g_grouping : mg "grouping" = some (.ref (He.fAd K ("grouping", none)))
  d_hire_crew : ∃ fd, FunD K "hire_crew" "hire_crew" (defArgs (top 14)) (defBody (top 14)) (defScope (top 14)) [] [] (He.fAd K ("hire_crew", none)) fd
  g_hire_crew : mg "hire_crew" = some (.ref (He.fAd K ("hire_crew", none)))
  d_hire_order : ∃ fd, FunD K "hire_order" "hire_order" (defArgs (top 28)) (defBody (top 28)) (defScope (top 28)) [] [] (He.fAd K ("hire_order", none)) fd
  g_hire_order : mg "hire_order" = some (.ref (He.fAd K ("hire_order", none)))
  d_hire_price : ∃ fd, FunD K "hire_price" "hire_price" (defArgs (top 13)) (defBody (top 13)) (defScope (top 13)) [] [] (He.fAd K ("hire_price", none)) fd
  g_hire_price : mg "hire_price" = some (.ref (He.fAd K ("hire_price", none)))
  d_hires : ∃ fd, FunD K "hires" "hires" (defArgs (top 19)) (defBody (top 19)) (defScope (top 19)) [] [] (He.fAd K ("hires", none)) fd
  g_hires : mg "hires" = some (.ref (He.fAd K ("hires", none)))
  d_is_enough : ∃ fd, FunD K "is_enough" "is_enough" (defArgs (top 24)) (defBody (top 24)) (defScope (top 24)) [] [] (He.fAd K ("is_enough", none)) fd
  g_is_enough : mg "is_enough" = some (.ref (He.fAd K ("is_enough", none)))
  d_is_kind : ∃ fd, FunD K "is_kind" "is_kind" (defArgs (top 9)) (defBody (top 9)) (defScope (top 9)) [] [] (He.fAd K ("is_kind", none)) fd
  g_is_kind : mg "is_kind" = some (.ref (He.fAd K ("is_kind", none)))
  d_law : ∃ fd, FunD K "law" "law" (defArgs (top 48)) (defBody (top 48)) (defScope (top 48)) [] [] (He.fAd K ("law", none)) fd
  g_law : mg "law" = some (.ref (He.fAd K ("law", none)))
  d_named_groups : ∃ fd, FunD K "named_groups" "named_groups" (defArgs (top 21)) (defBody (top 21)) (defScope (top 21)) [] [] (He.fAd K ("named_groups", none)) fd
  g_named_groups : mg "named_groups" = some (.ref (He.fAd K ("named_groups", none)))
  d_needed_strength : ∃ fd, FunD K "needed_strength" "needed_strength" (defArgs (top 17)) (defBody (top 17)) (defScope (top 17)) [] [] (He.fAd K ("needed_strength", none)) fd
  g_needed_strength : mg "needed_strength" = some (.ref (He.fAd K ("needed_strength", none)))
  d_open_grouping : ∃ fd, FunD K "open_grouping" "open_grouping" (defArgs (top 22)) (defBody (top 22)) (defScope (top 22)) [] [] (He.fAd K ("open_grouping", none)) fd
  g_open_grouping : mg "open_grouping" = some (.ref (He.fAd K ("open_grouping", none)))
  d_partitions : ∃ fd, FunD K "partitions" "partitions" (defArgs (top 18)) (defBody (top 18)) (defScope (top 18)) [] [] (He.fAd K ("partitions", none)) fd
  g_partitions : mg "partitions" = some (.ref (He.fAd K ("partitions", none)))
  d_price_bound : ∃ fd, FunD K "price_bound" "price_bound" (defArgs (top 32)) (defBody (top 32)) (defScope (top 32)) [] [] (He.fAd K ("price_bound", none)) fd
  g_price_bound : mg "price_bound" = some (.ref (He.fAd K ("price_bound", none)))
  d_worth_price : ∃ fd, FunD K "worth_price" "worth_price" (defArgs (top 31)) (defBody (top 31)) (defScope (top 31)) [] [] (He.fAd K ("worth_price", none)) fd
  g_worth_price : mg "worth_price" = some (.ref (He.fAd K ("worth_price", none)))
  m_all : mg "all" = none
  m_bool : mg "bool" = none
  m_dict : mg "dict" = none
  m_enumerate : mg "enumerate" = none
  m_int : mg "int" = none
  m_isinstance : mg "isinstance" = none
  m_len : mg "len" = none
  m_list : mg "list" = none
  m_max : mg "max" = none
  m_min : mg "min" = none
  m_range : mg "range" = none
  m_sorted : mg "sorted" = none
  m_sum : mg "sum" = none
  m_tuple : mg "tuple" = none
  m_zip : mg "zip" = none
  v_GREATEST_NUMBER : ∃ t, mg "GREATEST_NUMBER" = some (.int 9 t)
  v_GREATEST_PRICE : ∃ t, mg "GREATEST_PRICE" = some (.int 999 t)
  v_MOST_HIRED : ∃ t, mg "MOST_HIRED" = some (.int 9 t)
  me_Crew_of_kind : Meth K (He.ga K "Crew") "of_kind" (He.fAd K ("Crew", some "of_kind"))
  me_Crew_slack : Meth K (He.ga K "Crew") "slack" (He.fAd K ("Crew", some "slack"))
  me_Crew_slacks : Meth K (He.ga K "Crew") "slacks" (He.fAd K ("Crew", some "slacks"))
  me_Crew_strength : Meth K (He.ga K "Crew") "strength" (He.fAd K ("Crew", some "strength"))
  mk_Crew : Mk K (He.ga K "Crew") (He.fAd K ("Crew", some "__init__"))
  g_Crew : mg "Crew" = some (.ref (He.ga K "Crew"))
  cf_hands : ∀ c ∈ (["Crew"] : List Str), CFact K c "hands"
  cf_kinds : ∀ c ∈ (["Crew"] : List Str), CFact K c "kinds"
  cf_members : ∀ c ∈ (["Crew"] : List Str), CFact K c "members"
  cf_peeks : ∀ c ∈ (["Crew"] : List Str), CFact K c "peeks"
section
variable {P : Program} {w : World} {K : PySem.W.Frag} {mg : Str → Option Value} {base : Heap}
/-! ### _law_digits -/
def N__law_digits : List Str := ["cell", "sizes", "row", "rest", "seed", "k", "size", "twice"]
theorem sc__law_digits : FnScope N__law_digits ["cell", "sizes"] (defScope (top 36)) := ⟨rfl, rfl, rfl, by decide +kernel, rfl, by decide +kernel, by decide +kernel⟩
def B__law_digits_1 : FS := (xSeq (xApp 2 (eBin gMod (eCB gInt (aCons (pName 3) aNil)) (pName 6)))
  (xSet 3 (eBin gDiv (eCB gInt (aCons (pName 3) aNil)) (pName 6))))
def B__law_digits_2 : FS := (xSeq (xSet 4 (eBin gMod (eCB gInt (aCons (eBin gAdd (eBin gAdd (eBin gMul (pName 4) (eK (.int 48271))) (eBin gMul (eK (.int 974711)) (pName 5))) (eK (.int 12345))) aNil)) (eK (.int 2147483647))))
  (xSeq (xSet 7 (eBin gMod (eCB gInt (aCons (eBin gMul (pName 4) (eBin gAdd (eBin gDiv (pName 4) (eK (.int 65537))) (eK (.int 3)))) aNil)) (eK (.int 2147483629))))
  (xApp 2 (eBin gMod (eBin gDiv (pName 7) (eK (.int 19))) (eBin gIx (pName 1) (pName 5))))))
def S__law_digits : FS := (xSeq (xNew 2 (eLst aNil))
  (xSeq (xSet 3 (eCB gInt (aCons (pName 0) aNil)))
  (xSeq (xIf (tBool (eBin gGe (pName 3) (eBin gPow (eK (.int 10)) (eK (.int 18))))) (xSeq (xSet 3 (eBin gSub (pName 3) (eBin gPow (eK (.int 10)) (eK (.int 18)))))
  (xSeq (xFor (iSeq (eName 1)) (gtName 6) B__law_digits_1)
  (xFrz [2] (xRet (eName 2))))) xPass)
  (xSeq (xSet 4 (eBin gMod (eCB gInt (aCons (pName 3) aNil)) (eK (.int 2147483629))))
  (xSeq (xFor (iRange (aCons (eCB gLen (aCons (pName 1) aNil)) aNil)) (gtName 5) B__law_digits_2)
  (xFrz [2] (xRet (eName 2))))))))
def F__law_digits : FF := fnOfS 8 S__law_digits
theorem ok__law_digits (T : Tx K mg) : DFn P w K mg base "_law_digits" 1 2 [] F__law_digits := by
  obtain ⟨fd, FD⟩ := T.d__law_digits
  have nd := sc__law_digits.nd
  exact ⟨_, fd, ["cell", "sizes"], [], [], T.g__law_digits, FD.kp, rfl, (FD.bindsN fun _ _ _ _ _ _ us hl => match us, hl with | [_, _], _ => rfl), .nil, fun _ => .nil, fnok FD sc__law_digits (fun cdv A outer s H E hr => by
    unfold S__law_digits B__law_digits_2 B__law_digits_1
    exact (dss_cons (ds_new 2 nd (df_lst da_nil))
      (dss_cons (ds_set 3 nd (de_intOf rfl T.m_int (dp_name 0)))
      (dss_cons (ds_if (dt_ge (dp_name 3) (DE.p (de_pow (DE.p de_int) (DE.p de_int)))) (dss_cons (ds_set 3 nd (de_sub (dp_name 3) (DE.p (de_pow (DE.p de_int) (DE.p de_int)))))
      (dss_cons (ds_for (vs := [6]) .never rfl (di_seq (de_name 1)) (dg_name 6 nd) (dss_cons (ds_append 2 (pe_bm PySem.F.plainAttrs_list PySem.F.slot_list_append PySem.F.type_list_append mt_append (pv 2) (DAr.run (da_cons (de_mod (DE.p (de_intOf rfl T.m_int (dp_name 3))) (dp_name 6)) da_nil))))
      (dss_one (ds_set 3 nd (de_fdiv (DE.p (de_intOf rfl T.m_int (dp_name 3))) (dp_name 6))))))
      (dss_one (ds_frz [2] (ds_ret (de_name 2)))))) dss_nil)
      (dss_cons (ds_set 4 nd (de_mod (DE.p (de_intOf rfl T.m_int (dp_name 3))) (DE.p de_int)))
      (dss_cons (ds_for (vs := [5]) .never rfl (di_range1 rfl T.m_range (da_cons (de_len rfl T.m_len (dp_name 1)) da_nil)) (dg_name 5 nd) (dss_cons (ds_set 4 nd (de_mod (DE.p (de_intOf rfl T.m_int (DE.p (de_add (DE.p (de_add (DE.p (de_mul (dp_name 4) (DE.p de_int))) (DE.p (de_mul (DE.p de_int) (dp_name 5))))) (DE.p de_int))))) (DE.p de_int)))
      (dss_cons (ds_set 7 nd (de_mod (DE.p (de_intOf rfl T.m_int (DE.p (de_mul (dp_name 4) (DE.p (de_add (DE.p (de_fdiv (dp_name 4) (DE.p de_int))) (DE.p de_int))))))) (DE.p de_int)))
      (dss_one (ds_append 2 (pe_bm PySem.F.plainAttrs_list PySem.F.slot_list_append PySem.F.type_list_append mt_append (pv 2) (DAr.run (da_cons (de_mod (DE.p (de_fdiv (dp_name 7) (DE.p de_int))) (DE.p (de_ix (dp_name 1) (dp_name 5)))) da_nil))))))))
      (dss_one (ds_frz [2] (ds_ret (de_name 2))))))))))⟩
/-! ### _law_cell -/
def N__law_cell : List Str := ["script", "k", "seed", "cell"]
theorem sc__law_cell : FnScope N__law_cell ["script", "k"] (defScope (top 35)) := ⟨rfl, rfl, rfl, by decide +kernel, rfl, by decide +kernel, by decide +kernel⟩
def B__law_cell_1 : FS := (xSet 2 (eBin gMod (eCB gInt (aCons (eBin gAdd (eBin gMul (pName 2) (eK (.int 31))) (eBin gMod (eCB gInt (aCons (pName 3) aNil)) (eK (.int 1000003)))) aNil)) (eK (.int 1000003))))
def S__law_cell : FS := (xSeq (xIf (tBool (eBin gLt (pName 1) (eCB gLen (aCons (pName 0) aNil)))) (xRet (eBin gIx (pName 0) (pName 1))) xPass)
  (xSeq (xSet 2 (eK (.int 17)))
  (xSeq (xFor (iSeq (eName 0)) (gtName 3) B__law_cell_1)
  (xRet (eBin gMod (eCB gInt (aCons (eBin gMul (eBin gMul (eBin gAdd (pName 2) (eK (.int 7))) (eBin gAdd (pName 1) (eK (.int 3)))) (eK (.int 69621))) aNil)) (eK (.int 2147483647)))))))
def F__law_cell : FF := fnOfS 4 S__law_cell
theorem ok__law_cell (T : Tx K mg) : DFn P w K mg base "_law_cell" 1 2 [] F__law_cell := by
  obtain ⟨fd, FD⟩ := T.d__law_cell
  have nd := sc__law_cell.nd
  exact ⟨_, fd, ["script", "k"], [], [], T.g__law_cell, FD.kp, rfl, (FD.bindsN fun _ _ _ _ _ _ us hl => match us, hl with | [_, _], _ => rfl), .nil, fun _ => .nil, fnok FD sc__law_cell (fun cdv A outer s H E hr => by
    unfold S__law_cell B__law_cell_1
    exact (dss_cons (ds_if (dt_lt (dp_name 1) (DE.p (de_len rfl T.m_len (dp_name 0)))) (dss_one (ds_ret (de_ix (dp_name 0) (dp_name 1)))) dss_nil)
      (dss_cons (ds_set 2 nd de_int)
      (dss_cons (ds_for (vs := [3]) .never rfl (di_seq (de_name 0)) (dg_name 3 nd) (dss_one (ds_set 2 nd (de_mod (DE.p (de_intOf rfl T.m_int (DE.p (de_add (DE.p (de_mul (dp_name 2) (DE.p de_int))) (DE.p (de_mod (DE.p (de_intOf rfl T.m_int (dp_name 3))) (DE.p de_int))))))) (DE.p de_int)))))
      (dss_one (ds_ret (de_mod (DE.p (de_intOf rfl T.m_int (DE.p (de_mul (DE.p (de_mul (DE.p (de_add (dp_name 2) (DE.p de_int))) (DE.p (de_add (dp_name 1) (DE.p de_int))))) (DE.p de_int))))) (DE.p de_int))))))))⟩
/-! ### _law_slacks -/
def N__law_slacks : List Str := ["kinds", "kind"]
theorem sc__law_slacks : FnScope N__law_slacks ["kinds"] (defScope (top 37)) := ⟨rfl, rfl, rfl, by decide +kernel, rfl, by decide +kernel, by decide +kernel⟩
def L__law_slacks_1 : FE := (eLc (iSeq (eName 0)) [1] (gtName 1) tYesD (eBin gAdd (eBin gIx (pName 1) (eK (.int 0))) (eBin gMul (eK (.int 2)) (eBin gIx (pName 1) (eK (.int 1))))))
def S__law_slacks : FS := (xRet L__law_slacks_1)
def F__law_slacks : FF := fnOfS 2 S__law_slacks
theorem ok__law_slacks (T : Tx K mg) : DFn P w K mg base "_law_slacks" 1 1 [] F__law_slacks := by
  obtain ⟨fd, FD⟩ := T.d__law_slacks
  have nd := sc__law_slacks.nd
  exact ⟨_, fd, ["kinds"], [], [], T.g__law_slacks, FD.kp, rfl, (FD.bindsN fun _ _ _ _ _ _ us hl => match us, hl with | [_], _ => rfl), .nil, fun _ => .nil, fnok FD sc__law_slacks (fun cdv A outer s H E hr => by
    unfold S__law_slacks L__law_slacks_1
    exact (dss_one (ds_ret (DF.toE (df_lc rfl nd (own := [("kind", 1)]) (di_seq (de_name 0)) (by show BlkOk N__law_slacks (defScope (top 37)) _ _; exact ⟨rfl, by decide +kernel, by decide +kernel, by decide +kernel, by decide +kernel⟩) (fun _ _ _ _ _ => (dg_name 1 nd)) (fun _ _ _ _ _ => dts_nil) (fun _ _ _ _ _ => (de_add (DE.p (de_ix (dp_name 1) (DE.p de_int))) (DE.p (de_mul (DE.p de_int) (DE.p (de_ix (dp_name 1) (DE.p de_int))))))))))))⟩
/-! ### _law_all_counts -/
def N__law_all_counts : List Str := ["offers", "most", "found", "offer", "grown", "one", "count"]
theorem sc__law_all_counts : FnScope N__law_all_counts ["offers", "most"] (defScope (top 42)) := ⟨rfl, rfl, rfl, by decide +kernel, rfl, by decide +kernel, by decide +kernel⟩
def B__law_all_counts_1 : FS := (xApp 4 (eBin gAdd (pName 5) (eLst (aCons (eName 6) aNil))))
def B__law_all_counts_2 : FS := (xFor (iRange (aCons (eBin gAdd (eCB gMin2 (aCons (eBin gIx (pName 3) (eK (.int 1))) (aCons (eBin gSub (pName 1) (eCB gSum (aCons (pName 5) aNil))) aNil))) (eK (.int 1))) aNil)) (gtName 6) B__law_all_counts_1)
def B__law_all_counts_3 : FS := (xSeq (xNew 4 (eLst aNil))
  (xSeq (xFor (iSeq (eName 2)) (gtName 5) B__law_all_counts_2)
  (xSet 2 (eCB gList (aCons (pName 4) aNil)))))
def S__law_all_counts : FS := (xSeq (xSet 2 (eLst (aCons (eLst aNil) aNil)))
  (xSeq (xFor (iSeq (eName 0)) (gtName 3) B__law_all_counts_3)
  (xRet (eName 2))))
def F__law_all_counts : FF := fnOfS 7 S__law_all_counts
theorem ok__law_all_counts (T : Tx K mg) : DFn P w K mg base "_law_all_counts" 1 2 [] F__law_all_counts := by
  obtain ⟨fd, FD⟩ := T.d__law_all_counts
  have nd := sc__law_all_counts.nd
  exact ⟨_, fd, ["offers", "most"], [], [], T.g__law_all_counts, FD.kp, rfl, (FD.bindsN fun _ _ _ _ _ _ us hl => match us, hl with | [_, _], _ => rfl), .nil, fun _ => .nil, fnok FD sc__law_all_counts (fun cdv A outer s H E hr => by
    unfold S__law_all_counts B__law_all_counts_3 B__law_all_counts_2 B__law_all_counts_1
    exact (dss_cons (ds_set 2 nd (DF.toE (df_lst (da_cons (DF.toE (df_lst da_nil)) da_nil))))
      (dss_cons (ds_for (vs := [3]) .never rfl (di_seq (de_name 0)) (dg_name 3 nd) (dss_cons (ds_new 4 nd (df_lst da_nil))
      (dss_cons (ds_for (vs := [5]) .never rfl (di_seq (de_name 2)) (dg_name 5 nd) (dss_one (ds_for (vs := [6]) .never rfl (di_range1 rfl T.m_range (da_cons (de_add (DE.p (de_min2 rfl rfl T.m_min (DE.p (de_ix (dp_name 3) (DE.p de_int))) (DE.p (de_sub (dp_name 1) (DE.p (de_sum rfl rfl T.m_sum (dp_name 5))))))) (DE.p de_int)) da_nil)) (dg_name 6 nd) (dss_one (ds_append 4 (pe_bm PySem.F.plainAttrs_list PySem.F.slot_list_append PySem.F.type_list_append mt_append (pv 4) (DAr.run (da_cons (de_add (dp_name 5) (DF.p (df_lst (da_cons (de_name 6) da_nil)))) da_nil))))))))
      (dss_one (ds_set 2 nd (DF.toE (df_listOf rfl T.m_list (dp_name 4))))))))
      (dss_one (ds_ret (de_name 2))))))⟩
/-! ### _law_parts -/
def N__law_parts : List Str := ["total", "top", "found", "step", "grown", "one", "first"]
theorem sc__law_parts : FnScope N__law_parts ["total", "top"] (defScope (top 38)) := ⟨rfl, rfl, rfl, by decide +kernel, rfl, by decide +kernel, by decide +kernel⟩
def B__law_parts_1 : FS := (xApp 4 (eLst (aCons (eBin gAdd (eBin gIx (pName 5) (eK (.int 0))) (eLst (aCons (eName 6) aNil))) (aCons (eBin gSub (eBin gIx (pName 5) (eK (.int 1))) (pName 6)) (aCons (eName 6) aNil)))))
def B__law_parts_2 : FS := (xSeq (xIf (tBool (eBin gEq (eBin gIx (pName 5) (eK (.int 1))) (eK (.int 0)))) (xApp 4 (eName 5)) xPass)
  (xFor (iRange (aCons (eK (.int 1)) (aCons (eBin gAdd (eCB gMin2 (aCons (eBin gIx (pName 5) (eK (.int 1))) (aCons (eBin gIx (pName 5) (eK (.int 2))) aNil))) (eK (.int 1))) aNil))) (gtName 6) B__law_parts_1))
def B__law_parts_3 : FS := (xSeq (xNew 4 (eLst aNil))
  (xSeq (xFor (iSeq (eName 2)) (gtName 5) B__law_parts_2)
  (xSet 2 (eCB gList (aCons (pName 4) aNil)))))
def L__law_parts_4 : FE := (eLc (iSeq (eName 2)) [5] (gtName 5) (tBool (eBin gEq (eBin gIx (pName 5) (eK (.int 1))) (eK (.int 0)))) (eBin gIx (pName 5) (eK (.int 0))))
def S__law_parts : FS := (xSeq (xSet 2 (eLst (aCons (eLst (aCons (eLst aNil) (aCons (eName 0) (aCons (eName 1) aNil)))) aNil)))
  (xSeq (xFor (iRange (aCons (eName 0) aNil)) (gtName 3) B__law_parts_3)
  (xRet L__law_parts_4)))
def F__law_parts : FF := fnOfS 7 S__law_parts
theorem ok__law_parts (T : Tx K mg) : DFn P w K mg base "_law_parts" 1 2 [] F__law_parts := by
  obtain ⟨fd, FD⟩ := T.d__law_parts
  have nd := sc__law_parts.nd
  exact ⟨_, fd, ["total", "top"], [], [], T.g__law_parts, FD.kp, rfl, (FD.bindsN fun _ _ _ _ _ _ us hl => match us, hl with | [_, _], _ => rfl), .nil, fun _ => .nil, fnok FD sc__law_parts (fun cdv A outer s H E hr => by
    unfold S__law_parts L__law_parts_4 B__law_parts_3 B__law_parts_2 B__law_parts_1
    exact (dss_cons (ds_set 2 nd (DF.toE (df_lst (da_cons (DF.toE (df_lst (da_cons (DF.toE (df_lst da_nil)) (da_cons (de_name 0) (da_cons (de_name 1) da_nil))))) da_nil))))
      (dss_cons (ds_for (vs := [3]) .never rfl (di_range1 rfl T.m_range (da_cons (de_name 0) da_nil)) (dg_name 3 nd) (dss_cons (ds_new 4 nd (df_lst da_nil))
      (dss_cons (ds_for (vs := [5]) .never rfl (di_seq (de_name 2)) (dg_name 5 nd) (dss_cons (ds_if (dt_eq hr (DE.p (de_ix (dp_name 5) (DE.p de_int))) (DE.p de_int)) (dss_one (ds_append 4 (pe_bm PySem.F.plainAttrs_list PySem.F.slot_list_append PySem.F.type_list_append mt_append (pv 4) (DAr.run (da_cons (de_name 5) da_nil))))) dss_nil)
      (dss_one (ds_for (vs := [6]) .never rfl (di_range2 rfl T.m_range (da_cons de_int (da_cons (de_add (DE.p (de_min2 rfl rfl T.m_min (DE.p (de_ix (dp_name 5) (DE.p de_int))) (DE.p (de_ix (dp_name 5) (DE.p de_int))))) (DE.p de_int)) da_nil))) (dg_name 6 nd) (dss_one (ds_append 4 (pe_bm PySem.F.plainAttrs_list PySem.F.slot_list_append PySem.F.type_list_append mt_append (pv 4) (DAr.run (da_cons (DF.toE (df_lst (da_cons (de_add (DE.p (de_ix (dp_name 5) (DE.p de_int))) (DF.p (df_lst (da_cons (de_name 6) da_nil)))) (da_cons (de_sub (DE.p (de_ix (dp_name 5) (DE.p de_int))) (dp_name 6)) (da_cons (de_name 6) da_nil))))) da_nil)))))))))
      (dss_one (ds_set 2 nd (DF.toE (df_listOf rfl T.m_list (dp_name 4))))))))
      (dss_one (ds_ret (DF.toE (df_lc rfl nd (own := [("one", 5)]) (di_seq (de_name 2)) (by show BlkOk N__law_parts (defScope (top 38)) _ _; exact ⟨rfl, by decide +kernel, by decide +kernel, by decide +kernel, by decide +kernel⟩) (fun _ _ _ _ _ => (dg_name 5 nd)) (fun _ _ _ _ _ => (dts_one (dt_eq hr (DE.p (de_ix (dp_name 5) (DE.p de_int))) (DE.p de_int)))) (fun _ _ _ _ _ => (de_ix (dp_name 5) (DE.p de_int))))))))))⟩
/-! ### _law_takes -/
def N__law_takes : List Str := ["slacks", "need", "counts", "found", "kind", "grown", "one", "part", "taken"]
theorem sc__law_takes : FnScope N__law_takes ["slacks", "need", "counts"] (defScope (top 39)) := ⟨rfl, rfl, rfl, by decide +kernel, rfl, by decide +kernel, by decide +kernel⟩
def B__law_takes_1 : FS := (xSeq (xSet 8 (eBin gAdd (pName 7) (eBin gMul (eBin gIx (pName 0) (pName 4)) (eCB gInt (aCons (eBin gGt (pName 7) (eK (.int 0))) aNil)))))
  (xIf (tBool (eBin gLe (pName 8) (eBin gIx (pName 2) (pName 4)))) (xApp 5 (eLst (aCons (eBin gAdd (eBin gIx (pName 6) (eK (.int 0))) (pName 7)) (aCons (eBin gAdd (eBin gIx (pName 6) (eK (.int 1))) (eLst (aCons (eName 8) aNil))) aNil)))) xPass))
def B__law_takes_2 : FS := (xFor (iRange (aCons (eBin gAdd (eBin gSub (pName 1) (eBin gIx (pName 6) (eK (.int 0)))) (eK (.int 1))) aNil)) (gtName 7) B__law_takes_1)
def B__law_takes_3 : FS := (xSeq (xNew 5 (eLst aNil))
  (xSeq (xFor (iSeq (eName 3)) (gtName 6) B__law_takes_2)
  (xSet 3 (eCB gList (aCons (pName 5) aNil)))))
def L__law_takes_4 : FE := (eLc (iSeq (eName 3)) [6] (gtName 6) (tBool (eBin gEq (eBin gIx (pName 6) (eK (.int 0))) (pName 1))) (eBin gIx (pName 6) (eK (.int 1))))
def S__law_takes : FS := (xSeq (xSet 3 (eLst (aCons (eLst (aCons (eK (.int 0)) (aCons (eLst aNil) aNil))) aNil)))
  (xSeq (xFor (iRange (aCons (eCB gLen (aCons (pName 0) aNil)) aNil)) (gtName 4) B__law_takes_3)
  (xRet L__law_takes_4)))
def F__law_takes : FF := fnOfS 9 S__law_takes
theorem ok__law_takes (T : Tx K mg) : DFn P w K mg base "_law_takes" 1 3 [] F__law_takes := by
  obtain ⟨fd, FD⟩ := T.d__law_takes
  have nd := sc__law_takes.nd
  exact ⟨_, fd, ["slacks", "need", "counts"], [], [], T.g__law_takes, FD.kp, rfl, (FD.bindsN fun _ _ _ _ _ _ us hl => match us, hl with | [_, _, _], _ => rfl), .nil, fun _ => .nil, fnok FD sc__law_takes (fun cdv A outer s H E hr => by
    unfold S__law_takes L__law_takes_4 B__law_takes_3 B__law_takes_2 B__law_takes_1
    exact (dss_cons (ds_set 3 nd (DF.toE (df_lst (da_cons (DF.toE (df_lst (da_cons de_int (da_cons (DF.toE (df_lst da_nil)) da_nil)))) da_nil))))
      (dss_cons (ds_for (vs := [4]) .never rfl (di_range1 rfl T.m_range (da_cons (de_len rfl T.m_len (dp_name 0)) da_nil)) (dg_name 4 nd) (dss_cons (ds_new 5 nd (df_lst da_nil))
      (dss_cons (ds_for (vs := [6]) .never rfl (di_seq (de_name 3)) (dg_name 6 nd) (dss_one (ds_for (vs := [7]) .never rfl (di_range1 rfl T.m_range (da_cons (de_add (DE.p (de_sub (dp_name 1) (DE.p (de_ix (dp_name 6) (DE.p de_int))))) (DE.p de_int)) da_nil)) (dg_name 7 nd) (dss_cons (ds_set 8 nd (de_add (dp_name 7) (DE.p (de_mul (DE.p (de_ix (dp_name 0) (dp_name 4))) (DE.p (de_intOf rfl T.m_int (DE.p (de_gt (dp_name 7) (DE.p de_int)))))))))
      (dss_one (ds_if (dt_le (dp_name 8) (DE.p (de_ix (dp_name 2) (dp_name 4)))) (dss_one (ds_append 5 (pe_bm PySem.F.plainAttrs_list PySem.F.slot_list_append PySem.F.type_list_append mt_append (pv 5) (DAr.run (da_cons (DF.toE (df_lst (da_cons (de_add (DE.p (de_ix (dp_name 6) (DE.p de_int))) (dp_name 7)) (da_cons (de_add (DE.p (de_ix (dp_name 6) (DE.p de_int))) (DF.p (df_lst (da_cons (de_name 8) da_nil)))) da_nil)))) da_nil))))) dss_nil))))))
      (dss_one (ds_set 3 nd (DF.toE (df_listOf rfl T.m_list (dp_name 5))))))))
      (dss_one (ds_ret (DF.toE (df_lc rfl nd (own := [("one", 6)]) (di_seq (de_name 3)) (by show BlkOk N__law_takes (defScope (top 39)) _ _; exact ⟨rfl, by decide +kernel, by decide +kernel, by decide +kernel, by decide +kernel⟩) (fun _ _ _ _ _ => (dg_name 6 nd)) (fun _ _ _ _ _ => (dts_one (dt_eq hr (DE.p (de_ix (dp_name 6) (DE.p de_int))) (dp_name 1)))) (fun _ _ _ _ _ => (de_ix (dp_name 6) (DE.p de_int))))))))))⟩
/-! ### _law_dealt -/
def N__law_dealt : List Str := ["slacks", "needs", "counts", "states", "need", "grown", "have", "take", "rest", "k"]
theorem sc__law_dealt : FnScope N__law_dealt ["slacks", "needs", "counts"] (defScope (top 40)) := ⟨rfl, rfl, rfl, by decide +kernel, rfl, by decide +kernel, by decide +kernel⟩
def L__law_dealt_1 : FE := (eLc (iRange (aCons (eCB gLen (aCons (pName 6) aNil)) aNil)) [9] (gtName 9) tYesD (eBin gSub (eBin gIx (pName 6) (pName 9)) (eBin gIx (pName 7) (pName 9))))
def B__law_dealt_2 : FS := (xSeq (xNew 8 L__law_dealt_1)
  (xIf (tBool (eBin gNotIn (pName 8) (pName 5))) (xFrz [8] (xApp 5 (eName 8))) xPass))
def B__law_dealt_3 : FS := (xFor (iSeq (eCall F__law_takes [] 3 (aCons (eName 0) (aCons (eName 4) (aCons (eName 6) aNil))))) (gtName 7) B__law_dealt_2)
def B__law_dealt_4 : FS := (xSeq (xNew 5 (eLst aNil))
  (xSeq (xFor (iSeq (eName 3)) (gtName 6) B__law_dealt_3)
  (xSet 3 (eCB gList (aCons (pName 5) aNil)))))
def S__law_dealt : FS := (xSeq (xSet 3 (eLst (aCons (eCB gList (aCons (pName 2) aNil)) aNil)))
  (xSeq (xFor (iSeq (eName 1)) (gtName 4) B__law_dealt_4)
  (xRet (eBin gGt (eCB gLen (aCons (pName 3) aNil)) (eK (.int 0))))))
def F__law_dealt : FF := fnOfS 10 S__law_dealt
theorem ok__law_dealt (T : Tx K mg) : DFn P w K mg base "_law_dealt" 2 3 [] F__law_dealt := by
  obtain ⟨fd, FD⟩ := T.d__law_dealt
  have nd := sc__law_dealt.nd
  exact ⟨_, fd, ["slacks", "needs", "counts"], [], [], T.g__law_dealt, FD.kp, rfl, (FD.bindsN fun _ _ _ _ _ _ us hl => match us, hl with | [_, _, _], _ => rfl), .nil, fun _ => .nil, fnok FD sc__law_dealt (fun cdv A outer s H E hr => by
    unfold S__law_dealt B__law_dealt_4 B__law_dealt_3 B__law_dealt_2 L__law_dealt_1
    exact (dss_cons (ds_set 3 nd (DF.toE (df_lst (da_cons (DF.toE (df_listOf rfl T.m_list (dp_name 2))) da_nil))))
      (dss_cons (ds_for (vs := [4]) .never rfl (di_seq (de_name 1)) (dg_name 4 nd) (dss_cons (ds_new 5 nd (df_lst da_nil))
      (dss_cons (ds_for (vs := [6]) .never rfl (di_seq (de_name 3)) (dg_name 6 nd) (dss_one (ds_for (vs := [7]) .never rfl (di_seq (de_call (ok__law_takes T) (hr.mono (by decide)) rfl (da_cons (de_name 0) (da_cons (de_name 4) (da_cons (de_name 6) da_nil))))) (dg_name 7 nd) (dss_cons (ds_newLc 8 rfl nd (own := [("k", 9)]) (di_range1 rfl T.m_range (da_cons (de_len rfl T.m_len (dp_name 6)) da_nil)) (by show BlkOk N__law_dealt (defScope (top 40)) _ _; exact ⟨rfl, by decide +kernel, by decide +kernel, by decide +kernel, by decide +kernel⟩) (fun _ _ _ _ _ => (dg_name 9 nd)) (fun _ _ _ _ _ => dts_nil) (fun _ _ _ _ _ => (de_sub (DE.p (de_ix (dp_name 6) (dp_name 9))) (DE.p (de_ix (dp_name 7) (dp_name 9))))))
      (dss_one (ds_if (dt_notIn hr (dp_name 8) (dp_name 5)) (dss_one (ds_frz [8] (ds_append 5 (pe_bm PySem.F.plainAttrs_list PySem.F.slot_list_append PySem.F.type_list_append mt_append (pv 5) (DAr.run (da_cons (de_name 8) da_nil)))))) dss_nil))))))
      (dss_one (ds_set 3 nd (DF.toE (df_listOf rfl T.m_list (dp_name 5))))))))
      (dss_one (ds_ret (de_gt (DE.p (de_len rfl T.m_len (dp_name 3))) (DE.p de_int)))))))⟩
/-! ### _law_enough -/
def N__law_enough : List Str := ["lots", "degree", "kinds", "counts", "peeks", "slacks", "parts", "strength", "k", "part"]
theorem sc__law_enough : FnScope N__law_enough ["lots", "degree", "kinds", "counts", "peeks"] (defScope (top 41)) := ⟨rfl, rfl, rfl, by decide +kernel, rfl, by decide +kernel, by decide +kernel⟩
def L__law_enough_1 : FE := (eLc (iRange (aCons (eCB gLen (aCons (pName 2) aNil)) aNil)) [8] (gtName 8) tYesD (eCB gMax2 (aCons (eK (.int 0)) (aCons (eBin gSub (eBin gIx (pName 3) (pName 8)) (eBin gIx (pName 5) (pName 8))) aNil))))
def L__law_enough_2 : FE := (eLc (iSeq (eName 6)) [9] (gtName 9) tYesD (eBin gAdd (eBin gMul (eBin gSub (pName 9) (eK (.int 1))) (pName 1)) (eK (.int 1))))
def B__law_enough_3 : FS := (xIf (tBool (eCall F__law_dealt [] 3 (aCons (eName 5) (aCons L__law_enough_2 (aCons (eName 3) aNil))))) (xRet (eK (.bl true))) xPass)
def S__law_enough : FS := (xSeq (xSet 5 (eCall F__law_slacks [] 1 (aCons (eName 2) aNil)))
  (xSeq (xIf (tBool (eBin gGt (pName 4) (eK (.int 0)))) (xSeq (xSet 7 (eCB gSum (aCons L__law_enough_1 aNil)))
  (xRet (eBin gGe (pName 7) (eBin gAdd (eBin gMul (eBin gSub (eBin gAdd (pName 0) (pName 4)) (eK (.int 1))) (pName 1)) (eK (.int 1)))))) xPass)
  (xSeq (xFor (iSeq (eCall F__law_parts [] 2 (aCons (eName 0) (aCons (eName 0) aNil)))) (gtName 6) B__law_enough_3)
  (xRet (eK (.bl false))))))
def F__law_enough : FF := fnOfS 10 S__law_enough
theorem ok__law_enough (T : Tx K mg) : DFn P w K mg base "_law_enough" 3 5 [] F__law_enough := by
  obtain ⟨fd, FD⟩ := T.d__law_enough
  have nd := sc__law_enough.nd
  exact ⟨_, fd, ["lots", "degree", "kinds", "counts", "peeks"], [], [], T.g__law_enough, FD.kp, rfl, (FD.bindsN fun _ _ _ _ _ _ us hl => match us, hl with | [_, _, _, _, _], _ => rfl), .nil, fun _ => .nil, fnok FD sc__law_enough (fun cdv A outer s H E hr => by
    unfold S__law_enough B__law_enough_3 L__law_enough_2 L__law_enough_1
    exact (dss_cons (ds_set 5 nd (de_call (ok__law_slacks T) (hr.mono (by decide)) rfl (da_cons (de_name 2) da_nil)))
      (dss_cons (ds_if (dt_gt (dp_name 4) (DE.p de_int)) (dss_cons (ds_set 7 nd (de_sum rfl rfl T.m_sum (DF.p (df_lc rfl nd (own := [("k", 8)]) (di_range1 rfl T.m_range (da_cons (de_len rfl T.m_len (dp_name 2)) da_nil)) (by show BlkOk N__law_enough (defScope (top 41)) _ _; exact ⟨rfl, by decide +kernel, by decide +kernel, by decide +kernel, by decide +kernel⟩) (fun _ _ _ _ _ => (dg_name 8 nd)) (fun _ _ _ _ _ => dts_nil) (fun _ _ _ _ _ => (de_max2 rfl rfl T.m_max (DE.p de_int) (DE.p (de_sub (DE.p (de_ix (dp_name 3) (dp_name 8))) (DE.p (de_ix (dp_name 5) (dp_name 8)))))))))))
      (dss_one (ds_ret (de_ge (dp_name 7) (DE.p (de_add (DE.p (de_mul (DE.p (de_sub (DE.p (de_add (dp_name 0) (dp_name 4))) (DE.p de_int))) (dp_name 1))) (DE.p de_int))))))) dss_nil)
      (dss_cons (ds_for (vs := [6]) .never rfl (di_seq (de_call (ok__law_parts T) (hr.mono (by decide)) rfl (da_cons (de_name 0) (da_cons (de_name 0) da_nil)))) (dg_name 6 nd) (dss_one (ds_if (dt_val (DE.p (de_call (ok__law_dealt T) (hr.mono (by decide)) rfl (da_cons (de_name 5) (da_cons (DF.toE (df_lc rfl nd (own := [("part", 9)]) (di_seq (de_name 6)) (by show BlkOk N__law_enough (defScope (top 41)) _ _; exact ⟨rfl, by decide +kernel, by decide +kernel, by decide +kernel, by decide +kernel⟩) (fun _ _ _ _ _ => (dg_name 9 nd)) (fun _ _ _ _ _ => dts_nil) (fun _ _ _ _ _ => (de_add (DE.p (de_mul (DE.p (de_sub (dp_name 9) (DE.p de_int))) (dp_name 1))) (DE.p de_int))))) (da_cons (de_name 3) da_nil)))))) (dss_one (ds_ret de_bl)) dss_nil)))
      (dss_one (ds_ret de_bl))))))⟩
/-! ### _law_enough_counts -/
def N__law_enough_counts : List Str := ["lots", "degree", "peeks", "offers", "kinds", "slacks", "found", "counts", "offer"]
theorem sc__law_enough_counts : FnScope N__law_enough_counts ["lots", "degree", "peeks", "offers"] (defScope (top 43)) := ⟨rfl, rfl, rfl, by decide +kernel, rfl, by decide +kernel, by decide +kernel⟩
def L__law_enough_counts_1 : FE := (eLc (iSeq (eName 3)) [8] (gtName 8) tYesD (eLst (aCons (eBin gIx (pName 8) (eK (.int 2))) (aCons (eBin gIx (pName 8) (eK (.int 3))) aNil))))
def B__law_enough_counts_2 : FS := (xFrz [4] (xIf (tBool (eCall F__law_enough [] 5 (aCons (eName 0) (aCons (eName 1) (aCons (eName 4) (aCons (eName 7) (aCons (eName 2) aNil))))))) (xApp 6 (eName 7)) xPass))
def S__law_enough_counts : FS := (xSeq (xNew 4 L__law_enough_counts_1)
  (xSeq (xFrz [4] (xSet 5 (eCall F__law_slacks [] 1 (aCons (eName 4) aNil))))
  (xSeq (xNew 6 (eLst aNil))
  (xSeq (xFor (iSeq (eCall F__law_all_counts [] 2 (aCons (eName 3) (aCons (eK (.int 9)) aNil)))) (gtName 7) B__law_enough_counts_2)
  (xFrz [6] (xRet (eName 6)))))))
def F__law_enough_counts : FF := fnOfS 9 S__law_enough_counts
theorem ok__law_enough_counts (T : Tx K mg) : DFn P w K mg base "_law_enough_counts" 4 4 [] F__law_enough_counts := by
  obtain ⟨fd, FD⟩ := T.d__law_enough_counts
  have nd := sc__law_enough_counts.nd
  exact ⟨_, fd, ["lots", "degree", "peeks", "offers"], [], [], T.g__law_enough_counts, FD.kp, rfl, (FD.bindsN fun _ _ _ _ _ _ us hl => match us, hl with | [_, _, _, _], _ => rfl), .nil, fun _ => .nil, fnok FD sc__law_enough_counts (fun cdv A outer s H E hr => by
    unfold S__law_enough_counts B__law_enough_counts_2 L__law_enough_counts_1
    exact (dss_cons (ds_newLc 4 rfl nd (own := [("offer", 8)]) (di_seq (de_name 3)) (by show BlkOk N__law_enough_counts (defScope (top 43)) _ _; exact ⟨rfl, by decide +kernel, by decide +kernel, by decide +kernel, by decide +kernel⟩) (fun _ _ _ _ _ => (dg_name 8 nd)) (fun _ _ _ _ _ => dts_nil) (fun _ _ _ _ _ => (DF.toE (df_lst (da_cons (de_ix (dp_name 8) (DE.p de_int)) (da_cons (de_ix (dp_name 8) (DE.p de_int)) da_nil))))))
      (dss_cons (ds_frz [4] (ds_set 5 nd (de_call (ok__law_slacks T) (hr.mono (by decide)) rfl (da_cons (de_name 4) da_nil))))
      (dss_cons (ds_new 6 nd (df_lst da_nil))
      (dss_cons (ds_for (vs := [7]) .never rfl (di_seq (de_call (ok__law_all_counts T) (hr.mono (by decide)) rfl (da_cons (de_name 3) (da_cons de_int da_nil)))) (dg_name 7 nd) (dss_one (ds_frz [4] (ds_if (dt_val (DE.p (de_call (ok__law_enough T) (hr.mono (by decide)) rfl (da_cons (de_name 0) (da_cons (de_name 1) (da_cons (de_name 4) (da_cons (de_name 7) (da_cons (de_name 2) da_nil)))))))) (dss_one (ds_append 6 (pe_bm PySem.F.plainAttrs_list PySem.F.slot_list_append PySem.F.type_list_append mt_append (pv 6) (DAr.run (da_cons (de_name 7) da_nil))))) dss_nil))))
      (dss_one (ds_frz [6] (ds_ret (de_name 6)))))))))⟩
/-! ### _law_best -/
def N__law_best : List Str := ["offers", "found", "best", "counts", "price", "order", "k"]
theorem sc__law_best : FnScope N__law_best ["offers", "found"] (defScope (top 44)) := ⟨rfl, rfl, rfl, by decide +kernel, rfl, by decide +kernel, by decide +kernel⟩
def L__law_best_1 : FE := (eLc (iRange (aCons (eCB gLen (aCons (pName 0) aNil)) aNil)) [6] (gtName 6) tYesD (eBin gMul (eBin gIx (eBin gIx (pName 0) (pName 6)) (eK (.int 0))) (eBin gIx (pName 3) (pName 6))))
def B__law_best_2 : FS := (xSeq (xSet 4 (eCB gSum (aCons L__law_best_1 aNil)))
  (xSeq (xSet 5 (eLst (aCons (eName 4) (aCons (eCB gSum (aCons (pName 3) aNil)) (aCons (eName 3) aNil)))))
  (xIf (tOr (tBool (eBin gIsN (pName 2) (eK .non))) (tBool (eBin (gOrd .lt) (pName 5) (pName 2)))) (xSet 2 (eName 5)) xPass)))
def S__law_best : FS := (xSeq (xSet 2 (eK .non))
  (xSeq (xFor (iSeq (eName 1)) (gtName 3) B__law_best_2)
  (xRet (eName 2))))
def F__law_best : FF := fnOfS 7 S__law_best
theorem ok__law_best (T : Tx K mg) : DFn P w K mg base "_law_best" 1 2 [] F__law_best := by
  obtain ⟨fd, FD⟩ := T.d__law_best
  have nd := sc__law_best.nd
  exact ⟨_, fd, ["offers", "found"], [], [], T.g__law_best, FD.kp, rfl, (FD.bindsN fun _ _ _ _ _ _ us hl => match us, hl with | [_, _], _ => rfl), .nil, fun _ => .nil, fnok FD sc__law_best (fun cdv A outer s H E hr => by
    unfold S__law_best B__law_best_2 L__law_best_1
    exact (dss_cons (ds_set 2 nd de_non)
      (dss_cons (ds_for (vs := [3]) .never rfl (di_seq (de_name 1)) (dg_name 3 nd) (dss_cons (ds_set 4 nd (de_sum rfl rfl T.m_sum (DF.p (df_lc rfl nd (own := [("k", 6)]) (di_range1 rfl T.m_range (da_cons (de_len rfl T.m_len (dp_name 0)) da_nil)) (by show BlkOk N__law_best (defScope (top 44)) _ _; exact ⟨rfl, by decide +kernel, by decide +kernel, by decide +kernel, by decide +kernel⟩) (fun _ _ _ _ _ => (dg_name 6 nd)) (fun _ _ _ _ _ => dts_nil) (fun _ _ _ _ _ => (de_mul (DE.p (de_ix (DE.p (de_ix (dp_name 0) (dp_name 6))) (DE.p de_int))) (DE.p (de_ix (dp_name 3) (dp_name 6)))))))))
      (dss_cons (ds_set 5 nd (DF.toE (df_lst (da_cons (de_name 4) (da_cons (de_sum rfl rfl T.m_sum (dp_name 3)) (da_cons (de_name 3) da_nil))))))
      (dss_one (ds_if (DW.t (dw_or (dt_isN (dp_name 2)) (dw_or1 (dt_oLt hr (dp_name 5) (dp_name 2))))) (dss_one (ds_set 2 nd (de_name 5))) dss_nil)))))
      (dss_one (ds_ret (de_name 2))))))⟩
/-! ### hire_price -/
def N_hire_price : List Str := ["offers", "counts", "offer", "count"]
theorem sc_hire_price : FnScope N_hire_price ["offers", "counts"] (defScope (top 13)) := ⟨rfl, rfl, rfl, by decide +kernel, rfl, by decide +kernel, by decide +kernel⟩
def L_hire_price_1 : FE := (eLc (iZip (aCons (eName 0) (aCons (eName 1) aNil))) [2, 3] (gtTup 2 (gtCons (gtName 2) (gtCons (gtName 3) gtNil))) tYesD (eBin gMul (eBin gIx (pName 2) (eK (.int 0))) (pName 3)))
def S_hire_price : FS := (xRet (eCB gSum (aCons L_hire_price_1 aNil)))
def F_hire_price : FF := fnOfS 4 S_hire_price
theorem ok_hire_price (T : Tx K mg) : DFn P w K mg base "hire_price" 1 2 [] F_hire_price := by
  obtain ⟨fd, FD⟩ := T.d_hire_price
  have nd := sc_hire_price.nd
  exact ⟨_, fd, ["offers", "counts"], [], [], T.g_hire_price, FD.kp, rfl, (FD.bindsN fun _ _ _ _ _ _ us hl => match us, hl with | [_, _], _ => rfl), .nil, fun _ => .nil, fnok FD sc_hire_price (fun cdv A outer s H E hr => by
    unfold S_hire_price L_hire_price_1
    exact (dss_one (ds_ret (de_sum rfl rfl T.m_sum (DF.p (df_lc rfl nd (own := [("offer", 2), ("count", 3)]) (di_zip2 rfl T.m_zip (da_cons (de_name 0) (da_cons (de_name 1) da_nil))) (by show BlkOk N_hire_price (defScope (top 13)) _ _; exact ⟨rfl, by decide +kernel, by decide +kernel, by decide +kernel, by decide +kernel⟩) (fun _ _ _ _ _ => (dg_tup rfl (dgs_cons (dg_name 2 nd) (dgs_cons (dg_name 3 nd) dgs_nil)))) (fun _ _ _ _ _ => dts_nil) (fun _ _ _ _ _ => (de_mul (DE.p (de_ix (dp_name 2) (DE.p de_int))) (dp_name 3)))))))))⟩
/-! ### hire_order -/
def N_hire_order : List Str := ["offers", "counts"]
theorem sc_hire_order : FnScope N_hire_order ["offers", "counts"] (defScope (top 28)) := ⟨rfl, rfl, rfl, by decide +kernel, rfl, by decide +kernel, by decide +kernel⟩
def S_hire_order : FS := (xRet (eTup (aCons (eCall F_hire_price [] 2 (aCons (eName 0) (aCons (eName 1) aNil))) (aCons (eCB gSum (aCons (pName 1) aNil)) (aCons (eName 1) aNil)))))
def F_hire_order : FF := fnOfS 2 S_hire_order
theorem ok_hire_order (T : Tx K mg) : DFn P w K mg base "hire_order" 2 2 [] F_hire_order := by
  obtain ⟨fd, FD⟩ := T.d_hire_order
  have nd := sc_hire_order.nd
  exact ⟨_, fd, ["offers", "counts"], [], [], T.g_hire_order, FD.kp, rfl, (FD.bindsN fun _ _ _ _ _ _ us hl => match us, hl with | [_, _], _ => rfl), .nil, fun _ => .nil, fnok FD sc_hire_order (fun cdv A outer s H E hr => by
    unfold S_hire_order
    exact (dss_one (ds_ret (de_tup (da_cons (de_call (ok_hire_price T) (hr.mono (by decide)) rfl (da_cons (de_name 0) (da_cons (de_name 1) da_nil))) (da_cons (de_sum rfl rfl T.m_sum (dp_name 1)) (da_cons (de_name 1) da_nil)))))))⟩
/-! ### first_hire -/
def N_first_hire : List Str := ["offers", "found", "counts"]
theorem sc_first_hire : FnScope N_first_hire ["offers", "found"] (defScope (top 29)) := ⟨rfl, rfl, rfl, by decide +kernel, rfl, by decide +kernel, by decide +kernel⟩
def L_first_hire_1 : FE := (eLc (iSeq (eName 1)) [2] (gtName 2) tYesD (eCall F_hire_order [] 2 (aCons (eName 0) (aCons (eName 2) aNil))))
def S_first_hire : FS := (xSeq (xIf (tBool (eBin gEq (eCB gLen (aCons (pName 1) aNil)) (eK (.int 0)))) (xRet (eK .non)) xPass)
  (xRet (eCB gLeast (aCons L_first_hire_1 aNil))))
def F_first_hire : FF := fnOfS 3 S_first_hire
theorem ok_first_hire (T : Tx K mg) : DFn P w K mg base "first_hire" 3 2 [] F_first_hire := by
  obtain ⟨fd, FD⟩ := T.d_first_hire
  have nd := sc_first_hire.nd
  exact ⟨_, fd, ["offers", "found"], [], [], T.g_first_hire, FD.kp, rfl, (FD.bindsN fun _ _ _ _ _ _ us hl => match us, hl with | [_, _], _ => rfl), .nil, fun _ => .nil, fnok FD sc_first_hire (fun cdv A outer s H E hr => by
    unfold S_first_hire L_first_hire_1
    exact (dss_cons (ds_if (dt_eq hr (DE.p (de_len rfl T.m_len (dp_name 1))) (DE.p de_int)) (dss_one (ds_ret de_non)) dss_nil)
      (dss_one (ds_ret (de_least hr rfl rfl T.m_min (DF.p (df_lc rfl nd (own := [("counts", 2)]) (di_seq (de_name 1)) (by show BlkOk N_first_hire (defScope (top 29)) _ _; exact ⟨rfl, by decide +kernel, by decide +kernel, by decide +kernel, by decide +kernel⟩) (fun _ _ _ _ _ => (dg_name 2 nd)) (fun _ _ _ _ _ => dts_nil) (fun _ _ _ _ _ => (de_call (ok_hire_order T) (hr.mono (by decide)) rfl (da_cons (de_name 0) (da_cons (de_name 2) da_nil)))))))))))⟩
/-! ### all_counts -/
def N_all_counts : List Str := ["offers", "left", "found", "price", "most", "late", "lies", "grown", "done", "count"]
theorem sc_all_counts : FnScope N_all_counts ["offers", "left"] (defScope (top 15)) := ⟨rfl, rfl, rfl, by decide +kernel, rfl, by decide +kernel, by decide +kernel⟩
def B_all_counts_1 : FS := (xApp 7 (eBin gAdd (pName 8) (eTup (aCons (eName 9) aNil))))
def B_all_counts_2 : FS := (xFor (iRange (aCons (eBin gAdd (eCB gMin2 (aCons (pName 4) (aCons (eBin gSub (pName 1) (eCB gSum (aCons (pName 8) aNil))) aNil))) (eK (.int 1))) aNil)) (gtName 9) B_all_counts_1)
def B_all_counts_3 : FS := (xSeq (xNew 7 (eLst aNil))
  (xSeq (xFor (iSeq (eName 2)) (gtName 8) B_all_counts_2)
  (xSet 2 (eCB gList (aCons (pName 7) aNil)))))
def S_all_counts : FS := (xSeq (xSet 2 (eLst (aCons (eTup aNil) aNil)))
  (xSeq (xFor (iSeq (eName 0)) (gtTup 4 (gtCons (gtName 3) (gtCons (gtName 4) (gtCons (gtName 5) (gtCons (gtName 6) gtNil))))) B_all_counts_3)
  (xRet (eName 2))))
def F_all_counts : FF := fnOfS 10 S_all_counts
theorem ok_all_counts (T : Tx K mg) : DFn P w K mg base "all_counts" 1 2 [] F_all_counts := by
  obtain ⟨fd, FD⟩ := T.d_all_counts
  have nd := sc_all_counts.nd
  exact ⟨_, fd, ["offers", "left"], [], [], T.g_all_counts, FD.kp, rfl, (FD.bindsN fun _ _ _ _ _ _ us hl => match us, hl with | [_, _], _ => rfl), .nil, fun _ => .nil, fnok FD sc_all_counts (fun cdv A outer s H E hr => by
    unfold S_all_counts B_all_counts_3 B_all_counts_2 B_all_counts_1
    exact (dss_cons (ds_set 2 nd (DF.toE (df_lst (da_cons (de_tup da_nil) da_nil))))
      (dss_cons (ds_for (vs := [3, 4, 5, 6]) .never rfl (di_seq (de_name 0)) (dg_tup rfl (dgs_cons (dg_name 3 nd) (dgs_cons (dg_name 4 nd) (dgs_cons (dg_name 5 nd) (dgs_cons (dg_name 6 nd) dgs_nil))))) (dss_cons (ds_new 7 nd (df_lst da_nil))
      (dss_cons (ds_for (vs := [8]) .never rfl (di_seq (de_name 2)) (dg_name 8 nd) (dss_one (ds_for (vs := [9]) .never rfl (di_range1 rfl T.m_range (da_cons (de_add (DE.p (de_min2 rfl rfl T.m_min (dp_name 4) (DE.p (de_sub (dp_name 1) (DE.p (de_sum rfl rfl T.m_sum (dp_name 8))))))) (DE.p de_int)) da_nil)) (dg_name 9 nd) (dss_one (ds_append 7 (pe_bm PySem.F.plainAttrs_list PySem.F.slot_list_append PySem.F.type_list_append mt_append (pv 7) (DAr.run (da_cons (de_add (dp_name 8) (DE.p (de_tup (da_cons (de_name 9) da_nil)))) da_nil))))))))
      (dss_one (ds_set 2 nd (DF.toE (df_listOf rfl T.m_list (dp_name 7))))))))
      (dss_one (ds_ret (de_name 2))))))⟩
/-! ### Crew.of_kind -/
def N_Crew_of_kind : List Str := ["self", "hands", "kind", "hand"]
theorem sc_Crew_of_kind : FnScope N_Crew_of_kind ["self", "hands", "kind"] (defScope (inClass (top 10) 2)) := ⟨rfl, rfl, rfl, by decide +kernel, rfl, by decide +kernel, by decide +kernel⟩
def L_Crew_of_kind_1 : FE := (eLc (iSeq (eName 1)) [3] (gtName 3) (tBool (eBin gEq (eBin gIx (eFld ["Crew"] "members" (pName 0)) (pName 3)) (pName 2))) (eName 3))
def S_Crew_of_kind : FS := (xRet (eCB gSorted (aCons L_Crew_of_kind_1 aNil)))
def F_Crew_of_kind : FF := fnOfS 4 S_Crew_of_kind
theorem ok_Crew_of_kind (T : Tx K mg) : DMe P w K mg base "Crew" "of_kind" 1 3 [] F_Crew_of_kind := by
  obtain ⟨fd, FD⟩ := T.d_Crew_of_kind
  have nd := sc_Crew_of_kind.nd
  exact ⟨_, fd, ["self", "hands", "kind"], [], [], T.cls_Crew, T.me_Crew_of_kind, rfl, (FD.bindsN fun _ _ _ _ _ _ us hl => match us, hl with | [_, _, _], _ => rfl), .nil, fun _ => .nil, fnok FD sc_Crew_of_kind (fun cdv A outer s H E hr => by
    unfold S_Crew_of_kind L_Crew_of_kind_1
    exact (dss_one (ds_ret (DF.toE (df_sorted rfl T.m_sorted (DF.p (df_lc rfl nd (own := [("hand", 3)]) (di_seq (de_name 1)) (by show BlkOk N_Crew_of_kind (defScope (inClass (top 10) 2)) _ _; exact ⟨rfl, by decide +kernel, by decide +kernel, by decide +kernel, by decide +kernel⟩) (fun _ _ _ _ _ => (dg_name 3 nd)) (fun _ _ _ _ _ => (dts_one (dt_eq hr (DE.p (de_ix (DE.p (de_fld ["Crew"] T.cf_members (dp_name 0))) (dp_name 3))) (dp_name 2)))) (fun _ _ _ _ _ => (de_name 3)))))))))⟩
/-! ### partitions -/
def N_partitions : List Str := ["total", "top", "parts", "_", "grown", "done", "left", "most", "first"]
theorem sc_partitions : FnScope N_partitions ["total", "top"] (defScope (top 18)) := ⟨rfl, rfl, rfl, by decide +kernel, rfl, by decide +kernel, by decide +kernel⟩
def B_partitions_1 : FS := (xApp 4 (eTup (aCons (eBin gAdd (pName 5) (eTup (aCons (eName 8) aNil))) (aCons (eBin gSub (pName 6) (pName 8)) (aCons (eName 8) aNil)))))
def B_partitions_2 : FS := (xSeq (xIf (tBool (eBin gEq (pName 6) (eK (.int 0)))) (xApp 4 (eTup (aCons (eName 5) (aCons (eName 6) (aCons (eName 7) aNil))))) xPass)
  (xFor (iRange (aCons (eCB gMin2 (aCons (pName 6) (aCons (pName 7) aNil))) (aCons (eK (.int 0)) (aCons (eUn gNeg (eK (.int 1))) aNil)))) (gtName 8) B_partitions_1))
def B_partitions_3 : FS := (xSeq (xNew 4 (eLst aNil))
  (xSeq (xFor (iSeq (eName 2)) (gtTup 3 (gtCons (gtName 5) (gtCons (gtName 6) (gtCons (gtName 7) gtNil)))) B_partitions_2)
  (xSet 2 (eCB gList (aCons (pName 4) aNil)))))
def L_partitions_4 : FE := (eLc (iSeq (eName 2)) [5, 6, 7] (gtTup 3 (gtCons (gtName 5) (gtCons (gtName 6) (gtCons (gtName 7) gtNil)))) (tBool (eBin gEq (pName 6) (eK (.int 0)))) (eName 5))
def S_partitions : FS := (xSeq (xSet 2 (eLst (aCons (eTup (aCons (eTup aNil) (aCons (eName 0) (aCons (eName 1) aNil)))) aNil)))
  (xSeq (xFor (iRange (aCons (eName 0) aNil)) (gtName 3) B_partitions_3)
  (xRet L_partitions_4)))
def F_partitions : FF := fnOfS 9 S_partitions
theorem ok_partitions (T : Tx K mg) : DFn P w K mg base "partitions" 1 2 [] F_partitions := by
  obtain ⟨fd, FD⟩ := T.d_partitions
  have nd := sc_partitions.nd
  exact ⟨_, fd, ["total", "top"], [], [], T.g_partitions, FD.kp, rfl, (FD.bindsN fun _ _ _ _ _ _ us hl => match us, hl with | [_, _], _ => rfl), .nil, fun _ => .nil, fnok FD sc_partitions (fun cdv A outer s H E hr => by
    unfold S_partitions L_partitions_4 B_partitions_3 B_partitions_2 B_partitions_1
    exact (dss_cons (ds_set 2 nd (DF.toE (df_lst (da_cons (de_tup (da_cons (de_tup da_nil) (da_cons (de_name 0) (da_cons (de_name 1) da_nil)))) da_nil))))
      (dss_cons (ds_for (vs := [3]) .never rfl (di_range1 rfl T.m_range (da_cons (de_name 0) da_nil)) (dg_name 3 nd) (dss_cons (ds_new 4 nd (df_lst da_nil))
      (dss_cons (ds_for (vs := [5, 6, 7]) .never rfl (di_seq (de_name 2)) (dg_tup rfl (dgs_cons (dg_name 5 nd) (dgs_cons (dg_name 6 nd) (dgs_cons (dg_name 7 nd) dgs_nil)))) (dss_cons (ds_if (dt_eq hr (dp_name 6) (DE.p de_int)) (dss_one (ds_append 4 (pe_bm PySem.F.plainAttrs_list PySem.F.slot_list_append PySem.F.type_list_append mt_append (pv 4) (DAr.run (da_cons (de_tup (da_cons (de_name 5) (da_cons (de_name 6) (da_cons (de_name 7) da_nil)))) da_nil))))) dss_nil)
      (dss_one (ds_for (vs := [8]) .never rfl (di_range3 rfl T.m_range (da_cons (de_min2 rfl rfl T.m_min (dp_name 6) (dp_name 7)) (da_cons de_int (da_cons (de_neg (DE.p de_int)) da_nil)))) (dg_name 8 nd) (dss_one (ds_append 4 (pe_bm PySem.F.plainAttrs_list PySem.F.slot_list_append PySem.F.type_list_append mt_append (pv 4) (DAr.run (da_cons (de_tup (da_cons (de_add (dp_name 5) (DE.p (de_tup (da_cons (de_name 8) da_nil)))) (da_cons (de_sub (dp_name 6) (dp_name 8)) (da_cons (de_name 8) da_nil)))) da_nil)))))))))
      (dss_one (ds_set 2 nd (DF.toE (df_listOf rfl T.m_list (dp_name 4))))))))
      (dss_one (ds_ret (DF.toE (df_lc rfl nd (own := [("done", 5), ("left", 6), ("most", 7)]) (di_seq (de_name 2)) (by show BlkOk N_partitions (defScope (top 18)) _ _; exact ⟨rfl, by decide +kernel, by decide +kernel, by decide +kernel, by decide +kernel⟩) (fun _ _ _ _ _ => (dg_tup rfl (dgs_cons (dg_name 5 nd) (dgs_cons (dg_name 6 nd) (dgs_cons (dg_name 7 nd) dgs_nil))))) (fun _ _ _ _ _ => (dts_one (dt_eq hr (dp_name 6) (DE.p de_int)))) (fun _ _ _ _ _ => (de_name 5)))))))))⟩
/-! ### needed_strength -/
def N_needed_strength : List Str := ["lots", "degree", "peeks"]
theorem sc_needed_strength : FnScope N_needed_strength ["lots", "degree", "peeks"] (defScope (top 17)) := ⟨rfl, rfl, rfl, by decide +kernel, rfl, by decide +kernel, by decide +kernel⟩
def S_needed_strength : FS := (xRet (eBin gAdd (eBin gMul (eBin gSub (eBin gAdd (pName 0) (pName 2)) (eK (.int 1))) (pName 1)) (eK (.int 1))))
def F_needed_strength : FF := fnOfS 3 S_needed_strength
theorem ok_needed_strength (T : Tx K mg) : DFn P w K mg base "needed_strength" 1 3 [] F_needed_strength := by
  obtain ⟨fd, FD⟩ := T.d_needed_strength
  have nd := sc_needed_strength.nd
  exact ⟨_, fd, ["lots", "degree", "peeks"], [], [], T.g_needed_strength, FD.kp, rfl, (FD.bindsN fun _ _ _ _ _ _ us hl => match us, hl with | [_, _, _], _ => rfl), .nil, fun _ => .nil, fnok FD sc_needed_strength (fun cdv A outer s H E hr => by
    unfold S_needed_strength
    exact (dss_one (ds_ret (de_add (DE.p (de_mul (DE.p (de_sub (DE.p (de_add (dp_name 0) (dp_name 2))) (DE.p de_int))) (dp_name 1))) (DE.p de_int)))))⟩
/-! ### hires -/
def N_hires : List Str := ["slacks", "need", "left", "parts", "slack", "have", "grown", "done", "more", "part", "taken"]
theorem sc_hires : FnScope N_hires ["slacks", "need", "left"] (defScope (top 19)) := ⟨rfl, rfl, rfl, by decide +kernel, rfl, by decide +kernel, by decide +kernel⟩
def B_hires_1 : FS := (xSeq (xSet 10 (eK (.int 0)))
  (xSeq (xIf (tBool (eBin gGt (pName 9) (eK (.int 0)))) (xSet 10 (eBin gAdd (pName 9) (pName 4))) xPass)
  (xIf (tBool (eBin gLe (pName 10) (pName 5))) (xApp 6 (eTup (aCons (eBin gAdd (pName 7) (eTup (aCons (eName 10) aNil))) (aCons (eBin gSub (pName 8) (pName 9)) aNil)))) xPass)))
def B_hires_2 : FS := (xFor (iRange (aCons (eBin gAdd (pName 8) (eK (.int 1))) aNil)) (gtName 9) B_hires_1)
def B_hires_3 : FS := (xSeq (xNew 6 (eLst aNil))
  (xSeq (xFor (iSeq (eName 3)) (gtTup 2 (gtCons (gtName 7) (gtCons (gtName 8) gtNil))) B_hires_2)
  (xSet 3 (eCB gList (aCons (pName 6) aNil)))))
def L_hires_4 : FE := (eLc (iSeq (eName 3)) [7, 8] (gtTup 2 (gtCons (gtName 7) (gtCons (gtName 8) gtNil))) (tBool (eBin gEq (pName 8) (eK (.int 0)))) (eName 7))
def S_hires : FS := (xSeq (xSet 3 (eLst (aCons (eTup (aCons (eTup aNil) (aCons (eName 1) aNil))) aNil)))
  (xSeq (xFor (iZip (aCons (eName 0) (aCons (eName 2) aNil))) (gtTup 2 (gtCons (gtName 4) (gtCons (gtName 5) gtNil))) B_hires_3)
  (xRet L_hires_4)))
def F_hires : FF := fnOfS 11 S_hires
theorem ok_hires (T : Tx K mg) : DFn P w K mg base "hires" 1 3 [] F_hires := by
  obtain ⟨fd, FD⟩ := T.d_hires
  have nd := sc_hires.nd
  exact ⟨_, fd, ["slacks", "need", "left"], [], [], T.g_hires, FD.kp, rfl, (FD.bindsN fun _ _ _ _ _ _ us hl => match us, hl with | [_, _, _], _ => rfl), .nil, fun _ => .nil, fnok FD sc_hires (fun cdv A outer s H E hr => by
    unfold S_hires L_hires_4 B_hires_3 B_hires_2 B_hires_1
    exact (dss_cons (ds_set 3 nd (DF.toE (df_lst (da_cons (de_tup (da_cons (de_tup da_nil) (da_cons (de_name 1) da_nil))) da_nil))))
      (dss_cons (ds_for (vs := [4, 5]) .never rfl (di_zip2 rfl T.m_zip (da_cons (de_name 0) (da_cons (de_name 2) da_nil))) (dg_tup rfl (dgs_cons (dg_name 4 nd) (dgs_cons (dg_name 5 nd) dgs_nil))) (dss_cons (ds_new 6 nd (df_lst da_nil))
      (dss_cons (ds_for (vs := [7, 8]) .never rfl (di_seq (de_name 3)) (dg_tup rfl (dgs_cons (dg_name 7 nd) (dgs_cons (dg_name 8 nd) dgs_nil))) (dss_one (ds_for (vs := [9]) .never rfl (di_range1 rfl T.m_range (da_cons (de_add (dp_name 8) (DE.p de_int)) da_nil)) (dg_name 9 nd) (dss_cons (ds_set 10 nd de_int)
      (dss_cons (ds_if (dt_gt (dp_name 9) (DE.p de_int)) (dss_one (ds_set 10 nd (de_add (dp_name 9) (dp_name 4)))) dss_nil)
      (dss_one (ds_if (dt_le (dp_name 10) (dp_name 5)) (dss_one (ds_append 6 (pe_bm PySem.F.plainAttrs_list PySem.F.slot_list_append PySem.F.type_list_append mt_append (pv 6) (DAr.run (da_cons (de_tup (da_cons (de_add (dp_name 7) (DE.p (de_tup (da_cons (de_name 10) da_nil)))) (da_cons (de_sub (dp_name 8) (dp_name 9)) da_nil))) da_nil))))) dss_nil)))))))
      (dss_one (ds_set 3 nd (DF.toE (df_listOf rfl T.m_list (dp_name 6))))))))
      (dss_one (ds_ret (DF.toE (df_lc rfl nd (own := [("done", 7), ("more", 8)]) (di_seq (de_name 3)) (by show BlkOk N_hires (defScope (top 19)) _ _; exact ⟨rfl, by decide +kernel, by decide +kernel, by decide +kernel, by decide +kernel⟩) (fun _ _ _ _ _ => (dg_tup rfl (dgs_cons (dg_name 7 nd) (dgs_cons (dg_name 8 nd) dgs_nil)))) (fun _ _ _ _ _ => (dts_one (dt_eq hr (dp_name 8) (DE.p de_int)))) (fun _ _ _ _ _ => (de_name 7)))))))))⟩
/-! ### dealt_hires -/
def N_dealt_hires : List Str := ["slacks", "needs", "left", "states", "need", "grown", "rest", "done", "have", "hired", "number", "taken"]
theorem sc_dealt_hires : FnScope N_dealt_hires ["slacks", "needs", "left"] (defScope (top 20)) := ⟨rfl, rfl, rfl, by decide +kernel, rfl, by decide +kernel, by decide +kernel⟩
def L_dealt_hires_1 : FE := (eLc (iZip (aCons (eName 8) (aCons (eName 9) aNil))) [10, 11] (gtTup 2 (gtCons (gtName 10) (gtCons (gtName 11) gtNil))) tYesD (eBin gSub (pName 10) (pName 11)))
def B_dealt_hires_2 : FS := (xSeq (xSet 6 (eCB gTuple (aCons L_dealt_hires_1 aNil)))
  (xIf (tBool (eBin (gDIn true) (eName 6) (pName 5))) (xDPut 5 (eName 6) (eBin gAdd (pName 7) (eTup (aCons (eName 9) aNil)))) xPass))
def B_dealt_hires_3 : FS := (xFor (iSeq (eCall F_hires [] 3 (aCons (eName 0) (aCons (eName 4) (aCons (eName 8) aNil))))) (gtName 9) B_dealt_hires_2)
def B_dealt_hires_4 : FS := (xSeq (xNew 5 (eK (.dic [] [])))
  (xSeq (xFor (iItemsD (eName 3)) (gtTup 2 (gtCons (gtName 8) (gtCons (gtName 7) gtNil))) B_dealt_hires_3)
  (xSet 3 (eCB gDictOf (aCons (pName 5) aNil)))))
def B_dealt_hires_5 : FS := (xRet (eName 7))
def S_dealt_hires : FS := (xSeq (xSet 3 (eDic1 (eCB gTuple (aCons (pName 2) aNil)) (eTup aNil)))
  (xSeq (xFor (iSeq (eName 1)) (gtName 4) B_dealt_hires_4)
  (xSeq (xFor (iItemsD (eName 3)) (gtTup 2 (gtCons (gtName 6) (gtCons (gtName 7) gtNil))) B_dealt_hires_5)
  (xRet (eK .non)))))
def F_dealt_hires : FF := fnOfS 12 S_dealt_hires
theorem ok_dealt_hires (T : Tx K mg) : DFn P w K mg base "dealt_hires" 2 3 [] F_dealt_hires := by
  obtain ⟨fd, FD⟩ := T.d_dealt_hires
  have nd := sc_dealt_hires.nd
  exact ⟨_, fd, ["slacks", "needs", "left"], [], [], T.g_dealt_hires, FD.kp, rfl, (FD.bindsN fun _ _ _ _ _ _ us hl => match us, hl with | [_, _, _], _ => rfl), .nil, fun _ => .nil, fnok FD sc_dealt_hires (fun cdv A outer s H E hr => by
    unfold S_dealt_hires B_dealt_hires_5 B_dealt_hires_4 B_dealt_hires_3 B_dealt_hires_2 L_dealt_hires_1
    exact (dss_cons (ds_set 3 nd (DF.toE (df_dic1 hr (de_tupleOf rfl T.m_tuple (dp_name 2)) (de_tup da_nil))))
      (dss_cons (ds_for (vs := [4]) .never rfl (di_seq (de_name 1)) (dg_name 4 nd) (dss_cons (ds_new 5 nd df_dic0)
      (dss_cons (ds_for (vs := [8, 7]) .never rfl (di_itemsT (de_name 3)) (dg_tup rfl (dgs_cons (dg_name 8 nd) (dgs_cons (dg_name 7 nd) dgs_nil))) (dss_one (ds_for (vs := [9]) .never rfl (di_seq (de_call (ok_hires T) (hr.mono (by decide)) rfl (da_cons (de_name 0) (da_cons (de_name 4) (da_cons (de_name 8) da_nil))))) (dg_name 9 nd) (dss_cons (ds_set 6 nd (de_tupleOf rfl T.m_tuple (DF.p (df_lc rfl nd (own := [("number", 10), ("taken", 11)]) (di_zip2 rfl T.m_zip (da_cons (de_name 8) (da_cons (de_name 9) da_nil))) (by show BlkOk N_dealt_hires (defScope (top 20)) _ _; exact ⟨rfl, by decide +kernel, by decide +kernel, by decide +kernel, by decide +kernel⟩) (fun _ _ _ _ _ => (dg_tup rfl (dgs_cons (dg_name 10 nd) (dgs_cons (dg_name 11 nd) dgs_nil)))) (fun _ _ _ _ _ => dts_nil) (fun _ _ _ _ _ => (de_sub (dp_name 10) (dp_name 11)))))))
      (dss_one (ds_if (dt_dnotIn hr (de_name 6) (dp_name 5)) (dss_one (ds_dput hr 5 (de_name 6) (de_add (dp_name 7) (DE.p (de_tup (da_cons (de_name 9) da_nil)))))) dss_nil))))))
      (dss_one (ds_set 3 nd (DF.toE (df_dictOf hr rfl T.m_dict (dp_name 5))))))))
      (dss_cons (ds_for (vs := [6, 7]) .never rfl (di_itemsT (de_name 3)) (dg_tup rfl (dgs_cons (dg_name 6 nd) (dgs_cons (dg_name 7 nd) dgs_nil))) (dss_one (ds_ret (de_name 7))))
      (dss_one (ds_ret de_non))))))⟩
/-! ### Crew.slack -/
def N_Crew_slack : List Str := ["self", "kind", "late", "lies"]
theorem sc_Crew_slack : FnScope N_Crew_slack ["self", "kind"] (defScope (inClass (top 10) 1)) := ⟨rfl, rfl, rfl, by decide +kernel, rfl, by decide +kernel, by decide +kernel⟩
def S_Crew_slack : FS := (xSeq (xAsg (eBin gIx (eFld ["Crew"] "kinds" (pName 0)) (pName 1)) (gtTup 2 (gtCons (gtName 2) (gtCons (gtName 3) gtNil))))
  (xRet (eBin gAdd (pName 2) (eBin gMul (eK (.int 2)) (pName 3)))))
def F_Crew_slack : FF := fnOfS 4 S_Crew_slack
theorem ok_Crew_slack (T : Tx K mg) : DMe P w K mg base "Crew" "slack" 1 2 [] F_Crew_slack := by
  obtain ⟨fd, FD⟩ := T.d_Crew_slack
  have nd := sc_Crew_slack.nd
  exact ⟨_, fd, ["self", "kind"], [], [], T.cls_Crew, T.me_Crew_slack, rfl, (FD.bindsN fun _ _ _ _ _ _ us hl => match us, hl with | [_, _], _ => rfl), .nil, fun _ => .nil, fnok FD sc_Crew_slack (fun cdv A outer s H E hr => by
    unfold S_Crew_slack
    exact (dss_cons (ds_asg (vs := [2, 3]) (de_ix (DE.p (de_fld ["Crew"] T.cf_kinds (dp_name 0))) (dp_name 1)) (dg_tup rfl (dgs_cons (dg_name 2 nd) (dgs_cons (dg_name 3 nd) dgs_nil))))
      (dss_one (ds_ret (de_add (dp_name 2) (DE.p (de_mul (DE.p de_int) (dp_name 3))))))))⟩
/-! ### Crew.slacks -/
def N_Crew_slacks : List Str := ["self", "kind"]
theorem sc_Crew_slacks : FnScope N_Crew_slacks ["self"] (defScope (inClass (top 10) 4)) := ⟨rfl, rfl, rfl, by decide +kernel, rfl, by decide +kernel, by decide +kernel⟩
def L_Crew_slacks_1 : FE := (eLc (iRange (aCons (eCB gLen (aCons (eFld ["Crew"] "kinds" (pName 0)) aNil)) aNil)) [1] (gtName 1) tYesD (eMeth "Crew" "slack" F_Crew_slack [] 2 (eName 0) (aCons (eName 1) aNil)))
def S_Crew_slacks : FS := (xRet L_Crew_slacks_1)
def F_Crew_slacks : FF := fnOfS 2 S_Crew_slacks
theorem ok_Crew_slacks (T : Tx K mg) : DMe P w K mg base "Crew" "slacks" 2 1 [] F_Crew_slacks := by
  obtain ⟨fd, FD⟩ := T.d_Crew_slacks
  have nd := sc_Crew_slacks.nd
  exact ⟨_, fd, ["self"], [], [], T.cls_Crew, T.me_Crew_slacks, rfl, (FD.bindsN fun _ _ _ _ _ _ us hl => match us, hl with | [_], _ => rfl), .nil, fun _ => .nil, fnok FD sc_Crew_slacks (fun cdv A outer s H E hr => by
    unfold S_Crew_slacks L_Crew_slacks_1
    exact (dss_one (ds_ret (DF.toE (df_lc rfl nd (own := [("kind", 1)]) (di_range1 rfl T.m_range (da_cons (de_len rfl T.m_len (DE.p (de_fld ["Crew"] T.cf_kinds (dp_name 0)))) da_nil)) (by show BlkOk N_Crew_slacks (defScope (inClass (top 10) 4)) _ _; exact ⟨rfl, by decide +kernel, by decide +kernel, by decide +kernel, by decide +kernel⟩) (fun _ _ _ _ _ => (dg_name 1 nd)) (fun _ _ _ _ _ => dts_nil) (fun _ _ _ _ _ => (de_meth (ok_Crew_slack T) (hr.mono (by decide)) (de_name 0) (da_cons (de_name 1) da_nil))))))))⟩
/-! ### named_groups -/
def N_named_groups : List Str := ["crew", "sizes", "found", "everyone", "pools", "groups", "start", "size", "hired", "hands", "kind", "number"]
theorem sc_named_groups : FnScope N_named_groups ["crew", "sizes", "found"] (defScope (top 21)) := ⟨rfl, rfl, rfl, by decide +kernel, rfl, by decide +kernel, by decide +kernel⟩
def L_named_groups_1 : FE := (eLc (iRange (aCons (eCB gLen (aCons (eFld ["Crew"] "kinds" (pName 0)) aNil)) aNil)) [10] (gtName 10) tYesD (eMeth "Crew" "of_kind" F_Crew_of_kind [] 3 (eName 0) (aCons (eName 3) (aCons (eName 10) aNil))))
def B_named_groups_2 : FS := (xSeq (xExt 9 (eSlL (eBin gIx (pName 4) (pName 10)) oNone (oSome (eName 11))))
  (xPut 4 (pName 10) (eSl (eBin gIx (pName 4) (pName 10)) (oSome (eName 11)) oNone)))
def B_named_groups_3 : FS := (xSeq (xNew 9 (eLst aNil))
  (xSeq (xFor (iEnumD (eName 8)) (gtTup 2 (gtCons (gtName 10) (gtCons (gtName 11) gtNil))) B_named_groups_2)
  (xSeq (xApp 5 (eTup (aCons (eTupRg (fRg2 (pName 6) (eBin gAdd (pName 6) (pName 7)))) (aCons (eCB gTuple (aCons (eCB gSorted (aCons (pName 9) aNil)) aNil)) aNil))))
  (xAug 6 gAddI (eName 7)))))
def S_named_groups : FS := (xSeq (xSet 3 (eLstRg (fRg1 (eFld ["Crew"] "hands" (pName 0)))))
  (xSeq (xNew 4 L_named_groups_1)
  (xSeq (xNew 5 (eLst aNil))
  (xSeq (xSet 6 (eK (.int 0)))
  (xSeq (xFor (iZip (aCons (eName 1) (aCons (eName 2) aNil))) (gtTup 2 (gtCons (gtName 7) (gtCons (gtName 8) gtNil))) B_named_groups_3)
  (xRet (eCB gTuple (aCons (pName 5) aNil))))))))
def F_named_groups : FF := fnOfS 12 S_named_groups
theorem ok_named_groups (T : Tx K mg) : DFn P w K mg base "named_groups" 2 3 [] F_named_groups := by
  obtain ⟨fd, FD⟩ := T.d_named_groups
  have nd := sc_named_groups.nd
  exact ⟨_, fd, ["crew", "sizes", "found"], [], [], T.g_named_groups, FD.kp, rfl, (FD.bindsN fun _ _ _ _ _ _ us hl => match us, hl with | [_, _, _], _ => rfl), .nil, fun _ => .nil, fnok FD sc_named_groups (fun cdv A outer s H E hr => by
    unfold S_named_groups B_named_groups_3 B_named_groups_2 L_named_groups_1
    exact (dss_cons (ds_set 3 nd (DF.toE (df_listRg rfl rfl T.m_list (drg_1 rfl T.m_range (DE.p (de_fld ["Crew"] T.cf_hands (dp_name 0)))))))
      (dss_cons (ds_newLc 4 rfl nd (own := [("kind", 10)]) (di_range1 rfl T.m_range (da_cons (de_len rfl T.m_len (DE.p (de_fld ["Crew"] T.cf_kinds (dp_name 0)))) da_nil)) (by show BlkOk N_named_groups (defScope (top 21)) _ _; exact ⟨rfl, by decide +kernel, by decide +kernel, by decide +kernel, by decide +kernel⟩) (fun _ _ _ _ _ => (dg_name 10 nd)) (fun _ _ _ _ _ => dts_nil) (fun _ _ _ _ _ => (de_meth (ok_Crew_of_kind T) (hr.mono (by decide)) (de_name 0) (da_cons (de_name 3) (da_cons (de_name 10) da_nil)))))
      (dss_cons (ds_new 5 nd (df_lst da_nil))
      (dss_cons (ds_set 6 nd de_int)
      (dss_cons (ds_for (vs := [7, 8]) .never rfl (di_zip2 rfl T.m_zip (da_cons (de_name 1) (da_cons (de_name 2) da_nil))) (dg_tup rfl (dgs_cons (dg_name 7 nd) (dgs_cons (dg_name 8 nd) dgs_nil))) (dss_cons (ds_new 9 nd (df_lst da_nil))
      (dss_cons (ds_for (vs := [10, 11]) .never rfl (di_enum rfl T.m_enumerate (de_name 8)) (dg_tup rfl (dgs_cons (dg_name 10 nd) (dgs_cons (dg_name 11 nd) dgs_nil))) (dss_cons (ds_extend 9 (pe_bm PySem.F.plainAttrs_list PySem.F.slot_list_extend PySem.F.type_list_extend mt_extend (pv 9) (pa_one (df_slice (DE.p (de_ix (dp_name 4) (dp_name 10))) do_none (do_some (de_name 11))))))
      (dss_one (ds_put 4 (de_slice (DE.p (de_ix (dp_name 4) (dp_name 10))) (do_some (de_name 11)) do_none) (dp_name 10)))))
      (dss_cons (ds_append 5 (pe_bm PySem.F.plainAttrs_list PySem.F.slot_list_append PySem.F.type_list_append mt_append (pv 5) (DAr.run (da_cons (de_tup (da_cons (de_tupRg rfl rfl T.m_tuple (drg_2 rfl T.m_range (dp_name 6) (DE.p (de_add (dp_name 6) (dp_name 7))))) (da_cons (de_tupleOf rfl T.m_tuple (DF.p (df_sorted rfl T.m_sorted (dp_name 9)))) da_nil))) da_nil))))
      (dss_one (ds_augAdd 6 nd (de_name 7)))))))
      (dss_one (ds_ret (de_tupleOf rfl T.m_tuple (dp_name 5))))))))))⟩
/-! ### open_grouping -/
def N_open_grouping : List Str := ["lots", "degree", "crew", "everyone", "counts", "sizes", "needs", "found", "kind", "size"]
theorem sc_open_grouping : FnScope N_open_grouping ["lots", "degree", "crew"] (defScope (top 22)) := ⟨rfl, rfl, rfl, by decide +kernel, rfl, by decide +kernel, by decide +kernel⟩
def L_open_grouping_1 : FE := (eLc (iRange (aCons (eCB gLen (aCons (eFld ["Crew"] "kinds" (pName 2)) aNil)) aNil)) [8] (gtName 8) tYesD (eCB gLen (aCons (eMeth "Crew" "of_kind" F_Crew_of_kind [] 3 (eName 2) (aCons (eName 3) (aCons (eName 8) aNil))) aNil)))
def L_open_grouping_2 : FE := (eLc (iSeq (eName 5)) [9] (gtName 9) tYesD (eCall F_needed_strength [] 3 (aCons (eName 9) (aCons (eName 1) (aCons (eK (.int 0)) aNil)))))
def B_open_grouping_3 : FS := (xSeq (xNew 6 L_open_grouping_2)
  (xSeq (xFrz [4, 6] (xSet 7 (eCall F_dealt_hires [] 3 (aCons (eMeth "Crew" "slacks" F_Crew_slacks [] 1 (eName 2) aNil) (aCons (eName 6) (aCons (eName 4) aNil))))))
  (xIf (tBool (eBin gNotN (pName 7) (eK .non))) (xRet (eCall F_named_groups [] 3 (aCons (eName 2) (aCons (eName 5) (aCons (eName 7) aNil))))) xPass)))
def S_open_grouping : FS := (xSeq (xSet 3 (eLstRg (fRg1 (eFld ["Crew"] "hands" (pName 2)))))
  (xSeq (xNew 4 L_open_grouping_1)
  (xSeq (xFor (iSeq (eCall F_partitions [] 2 (aCons (eName 0) (aCons (eName 0) aNil)))) (gtName 5) B_open_grouping_3)
  (xRet (eK .non)))))
def F_open_grouping : FF := fnOfS 10 S_open_grouping
theorem ok_open_grouping (T : Tx K mg) : DFn P w K mg base "open_grouping" 3 3 [] F_open_grouping := by
  obtain ⟨fd, FD⟩ := T.d_open_grouping
  have nd := sc_open_grouping.nd
  exact ⟨_, fd, ["lots", "degree", "crew"], [], [], T.g_open_grouping, FD.kp, rfl, (FD.bindsN fun _ _ _ _ _ _ us hl => match us, hl with | [_, _, _], _ => rfl), .nil, fun _ => .nil, fnok FD sc_open_grouping (fun cdv A outer s H E hr => by
    unfold S_open_grouping B_open_grouping_3 L_open_grouping_2 L_open_grouping_1
    exact (dss_cons (ds_set 3 nd (DF.toE (df_listRg rfl rfl T.m_list (drg_1 rfl T.m_range (DE.p (de_fld ["Crew"] T.cf_hands (dp_name 2)))))))
      (dss_cons (ds_newLc 4 rfl nd (own := [("kind", 8)]) (di_range1 rfl T.m_range (da_cons (de_len rfl T.m_len (DE.p (de_fld ["Crew"] T.cf_kinds (dp_name 2)))) da_nil)) (by show BlkOk N_open_grouping (defScope (top 22)) _ _; exact ⟨rfl, by decide +kernel, by decide +kernel, by decide +kernel, by decide +kernel⟩) (fun _ _ _ _ _ => (dg_name 8 nd)) (fun _ _ _ _ _ => dts_nil) (fun _ _ _ _ _ => (de_len rfl T.m_len (DE.p (de_meth (ok_Crew_of_kind T) (hr.mono (by decide)) (de_name 2) (da_cons (de_name 3) (da_cons (de_name 8) da_nil)))))))
      (dss_cons (ds_for (vs := [5]) .never rfl (di_seq (de_call (ok_partitions T) (hr.mono (by decide)) rfl (da_cons (de_name 0) (da_cons (de_name 0) da_nil)))) (dg_name 5 nd) (dss_cons (ds_newLc 6 rfl nd (own := [("size", 9)]) (di_seq (de_name 5)) (by show BlkOk N_open_grouping (defScope (top 22)) _ _; exact ⟨rfl, by decide +kernel, by decide +kernel, by decide +kernel, by decide +kernel⟩) (fun _ _ _ _ _ => (dg_name 9 nd)) (fun _ _ _ _ _ => dts_nil) (fun _ _ _ _ _ => (de_call (ok_needed_strength T) (hr.mono (by decide)) rfl (da_cons (de_name 9) (da_cons (de_name 1) (da_cons de_int da_nil))))))
      (dss_cons (ds_frz [4, 6] (ds_set 7 nd (de_call (ok_dealt_hires T) (hr.mono (by decide)) rfl (da_cons (de_meth0 (ok_Crew_slacks T) (hr.mono (by decide)) (de_name 2)) (da_cons (de_name 6) (da_cons (de_name 4) da_nil))))))
      (dss_one (ds_if (dt_notN (dp_name 7)) (dss_one (ds_ret (de_call (ok_named_groups T) (hr.mono (by decide)) rfl (da_cons (de_name 2) (da_cons (de_name 5) (da_cons (de_name 7) da_nil)))))) dss_nil)))))
      (dss_one (ds_ret de_non))))))⟩
/-! ### Crew.strength -/
def N_Crew_strength : List Str := ["self", "hands", "parts", "kind", "limit"]
theorem sc_Crew_strength : FnScope N_Crew_strength ["self", "hands"] (defScope (inClass (top 10) 8)) := ⟨rfl, rfl, rfl, by decide +kernel, rfl, by decide +kernel, by decide +kernel⟩
def L_Crew_strength_1 : FE := (eLc (iEnumD (eMeth "Crew" "slacks" F_Crew_slacks [] 1 (eName 0) aNil)) [3, 4] (gtTup 2 (gtCons (gtName 3) (gtCons (gtName 4) gtNil))) tYesD (eCB gMax2 (aCons (eK (.int 0)) (aCons (eBin gSub (eCB gLen (aCons (eMeth "Crew" "of_kind" F_Crew_of_kind [] 3 (eName 0) (aCons (eName 1) (aCons (eName 3) aNil))) aNil)) (pName 4)) aNil))))
def S_Crew_strength : FS := (xSeq (xNew 2 L_Crew_strength_1)
  (xRet (eCB gSum (aCons (pName 2) aNil))))
def F_Crew_strength : FF := fnOfS 5 S_Crew_strength
theorem ok_Crew_strength (T : Tx K mg) : DMe P w K mg base "Crew" "strength" 3 2 [] F_Crew_strength := by
  obtain ⟨fd, FD⟩ := T.d_Crew_strength
  have nd := sc_Crew_strength.nd
  exact ⟨_, fd, ["self", "hands"], [], [], T.cls_Crew, T.me_Crew_strength, rfl, (FD.bindsN fun _ _ _ _ _ _ us hl => match us, hl with | [_, _], _ => rfl), .nil, fun _ => .nil, fnok FD sc_Crew_strength (fun cdv A outer s H E hr => by
    unfold S_Crew_strength L_Crew_strength_1
    exact (dss_cons (ds_newLc 2 rfl nd (own := [("kind", 3), ("limit", 4)]) (di_enum rfl T.m_enumerate (de_meth0 (ok_Crew_slacks T) (hr.mono (by decide)) (de_name 0))) (by show BlkOk N_Crew_strength (defScope (inClass (top 10) 8)) _ _; exact ⟨rfl, by decide +kernel, by decide +kernel, by decide +kernel, by decide +kernel⟩) (fun _ _ _ _ _ => (dg_tup rfl (dgs_cons (dg_name 3 nd) (dgs_cons (dg_name 4 nd) dgs_nil)))) (fun _ _ _ _ _ => dts_nil) (fun _ _ _ _ _ => (de_max2 rfl rfl T.m_max (DE.p de_int) (DE.p (de_sub (DE.p (de_len rfl T.m_len (DE.p (de_meth (ok_Crew_of_kind T) (hr.mono (by decide)) (de_name 0) (da_cons (de_name 1) (da_cons (de_name 3) da_nil)))))) (dp_name 4))))))
      (dss_one (ds_ret (de_sum rfl rfl T.m_sum (dp_name 2))))))⟩
/-! ### grouping -/
def N_grouping : List Str := ["lots", "degree", "crew", "everyone"]
theorem sc_grouping : FnScope N_grouping ["lots", "degree", "crew"] (defScope (top 23)) := ⟨rfl, rfl, rfl, by decide +kernel, rfl, by decide +kernel, by decide +kernel⟩
def S_grouping : FS := (xSeq (xIf (tBool (eBin gEq (eFld ["Crew"] "peeks" (pName 2)) (eK (.int 0)))) (xRet (eCall F_open_grouping [] 3 (aCons (eName 0) (aCons (eName 1) (aCons (eName 2) aNil))))) xPass)
  (xSeq (xSet 3 (eTupRg (fRg1 (eFld ["Crew"] "hands" (pName 2)))))
  (xSeq (xIf (tBool (eBin gLt (eMeth "Crew" "strength" F_Crew_strength [] 2 (eName 2) (aCons (eName 3) aNil)) (eCall F_needed_strength [] 3 (aCons (eName 0) (aCons (eName 1) (aCons (eFld ["Crew"] "peeks" (pName 2)) aNil)))))) (xRet (eK .non)) xPass)
  (xRet (eTup (aCons (eTup (aCons (eTupRg (fRg1 (pName 0))) (aCons (eName 3) aNil))) aNil))))))
def F_grouping : FF := fnOfS 4 S_grouping
theorem ok_grouping (T : Tx K mg) : DFn P w K mg base "grouping" 4 3 [] F_grouping := by
  obtain ⟨fd, FD⟩ := T.d_grouping
  have nd := sc_grouping.nd
  exact ⟨_, fd, ["lots", "degree", "crew"], [], [], T.g_grouping, FD.kp, rfl, (FD.bindsN fun _ _ _ _ _ _ us hl => match us, hl with | [_, _, _], _ => rfl), .nil, fun _ => .nil, fnok FD sc_grouping (fun cdv A outer s H E hr => by
    unfold S_grouping
    exact (dss_cons (ds_if (dt_eq hr (DE.p (de_fld ["Crew"] T.cf_peeks (dp_name 2))) (DE.p de_int)) (dss_one (ds_ret (de_call (ok_open_grouping T) (hr.mono (by decide)) rfl (da_cons (de_name 0) (da_cons (de_name 1) (da_cons (de_name 2) da_nil)))))) dss_nil)
      (dss_cons (ds_set 3 nd (de_tupRg rfl rfl T.m_tuple (drg_1 rfl T.m_range (DE.p (de_fld ["Crew"] T.cf_hands (dp_name 2))))))
      (dss_cons (ds_if (dt_lt (DE.p (de_meth (ok_Crew_strength T) (hr.mono (by decide)) (de_name 2) (da_cons (de_name 3) da_nil))) (DE.p (de_call (ok_needed_strength T) (hr.mono (by decide)) rfl (da_cons (de_name 0) (da_cons (de_name 1) (da_cons (de_fld ["Crew"] T.cf_peeks (dp_name 2)) da_nil)))))) (dss_one (ds_ret de_non)) dss_nil)
      (dss_one (ds_ret (de_tup (da_cons (de_tup (da_cons (de_tupRg rfl rfl T.m_tuple (drg_1 rfl T.m_range (dp_name 0))) (da_cons (de_name 3) da_nil))) da_nil))))))))⟩
/-! ### is_enough -/
def N_is_enough : List Str := ["lots", "degree", "crew"]
theorem sc_is_enough : FnScope N_is_enough ["lots", "degree", "crew"] (defScope (top 24)) := ⟨rfl, rfl, rfl, by decide +kernel, rfl, by decide +kernel, by decide +kernel⟩
def S_is_enough : FS := (xRet (eBin gNotN (eCall F_grouping [] 3 (aCons (eName 0) (aCons (eName 1) (aCons (eName 2) aNil)))) (eK .non)))
def F_is_enough : FF := fnOfS 3 S_is_enough
theorem ok_is_enough (T : Tx K mg) : DFn P w K mg base "is_enough" 5 3 [] F_is_enough := by
  obtain ⟨fd, FD⟩ := T.d_is_enough
  have nd := sc_is_enough.nd
  exact ⟨_, fd, ["lots", "degree", "crew"], [], [], T.g_is_enough, FD.kp, rfl, (FD.bindsN fun _ _ _ _ _ _ us hl => match us, hl with | [_, _, _], _ => rfl), .nil, fun _ => .nil, fnok FD sc_is_enough (fun cdv A outer s H E hr => by
    unfold S_is_enough
    exact (dss_one (ds_ret (de_notN (DE.p (de_call (ok_grouping T) (hr.mono (by decide)) rfl (da_cons (de_name 0) (da_cons (de_name 1) (da_cons (de_name 2) da_nil)))))))))⟩
/-! ### is_kind -/
def N_is_kind : List Str := ["kind", "number"]
theorem sc_is_kind : FnScope N_is_kind ["kind"] (defScope (top 9)) := ⟨rfl, rfl, rfl, by decide +kernel, rfl, by decide +kernel, by decide +kernel⟩
def L_is_kind_1 : FE := (eLc (iSeq (eName 0)) [1] (gtName 1) tYesD (eChain gLe gLe (eK (.int 0)) (pName 1) (eK (.int 9))))
def S_is_kind : FS := (xRet (eAnd (eBin gEq (eCB gLen (aCons (pName 0) aNil)) (eK (.int 2))) (eCB gAll (aCons L_is_kind_1 aNil))))
def F_is_kind : FF := fnOfS 2 S_is_kind
theorem ok_is_kind (T : Tx K mg) : DFn P w K mg base "is_kind" 1 1 [] F_is_kind := by
  obtain ⟨fd, FD⟩ := T.d_is_kind
  have nd := sc_is_kind.nd
  exact ⟨_, fd, ["kind"], [], [], T.g_is_kind, FD.kp, rfl, (FD.bindsN fun _ _ _ _ _ _ us hl => match us, hl with | [_], _ => rfl), .nil, fun _ => .nil, fnok FD sc_is_kind (fun cdv A outer s H E hr => by
    unfold S_is_kind L_is_kind_1
    exact (dss_one (ds_ret (de_and (de_eq hr (DE.p (de_len rfl T.m_len (dp_name 0))) (DE.p de_int)) (de_one (de_all rfl rfl T.m_all (DF.p (df_lc rfl nd (own := [("number", 1)]) (di_seq (de_name 0)) (by show BlkOk N_is_kind (defScope (top 9)) _ _; exact ⟨rfl, by decide +kernel, by decide +kernel, by decide +kernel, by decide +kernel⟩) (fun _ _ _ _ _ => (dg_name 1 nd)) (fun _ _ _ _ _ => dts_nil) (fun _ _ _ _ _ => (de_chain (r2d_bl0 _) (r2d_bl0 _) op_le op_le (DE.p de_int) (dp_name 1) (DE.p (de_globInt rfl T.v_GREATEST_NUMBER))))))))))))⟩
/-! ### Crew.__init__ -/
def N_Crew_init : List Str := ["self", "kinds", "members", "peeks", "at", "kind", "member", "late", "lies"]
theorem sc_Crew_init : FnScope N_Crew_init ["self", "kinds", "members", "peeks"] (defScope (inClass (top 10) 0)) := ⟨rfl, rfl, rfl, by decide +kernel, rfl, by decide +kernel, by decide +kernel⟩
def B_Crew_init_1 : FS := (xIf (tNot (tBool (eCall F_is_kind [] 1 (aCons (eName 5) aNil)))) xNever xPass)
def B_Crew_init_2 : FS := (xIf (tNot (tBool (eChain gLe gLt (eK (.int 0)) (pName 6) (eCB gLen (aCons (pName 1) aNil))))) xNever xPass)
def L_Crew_init_3 : FE := (eLc (iSeq (eName 1)) [7, 8] (gtTup 2 (gtCons (gtName 7) (gtCons (gtName 8) gtNil))) tYesD (eTup (aCons (eName 7) (aCons (eName 8) aNil))))
def S_Crew_init : FS := (xSeq (xFor (iEnumD (eName 1)) (gtTup 2 (gtCons (gtName 4) (gtCons (gtName 5) gtNil))) B_Crew_init_1)
  (xSeq (xFor (iEnumD (eName 2)) (gtTup 2 (gtCons (gtName 4) (gtCons (gtName 6) gtNil))) B_Crew_init_2)
  (xSeq (xFld 0 ["Crew"] "kinds" (eCB gTuple (aCons L_Crew_init_3 aNil)))
  (xSeq (xFld 0 ["Crew"] "members" (eCB gTuple (aCons (pName 2) aNil)))
  (xSeq (xFld 0 ["Crew"] "hands" (eCB gLen (aCons (pName 2) aNil)))
  (xFld 0 ["Crew"] "peeks" (eName 3)))))))
def F_Crew_init : FIn := inOfS "Crew" 9 S_Crew_init
theorem ok_Crew_init (T : Tx K mg) : DMk P w K mg base "Crew" 2 3 [] F_Crew_init := by
  obtain ⟨fd, FD⟩ := T.d_Crew_init
  have nd := sc_Crew_init.nd
  exact ⟨_, fd, ["self", "kinds", "members", "peeks"], [], [], T.g_Crew, T.mk_Crew, rfl, (bindsOf (dvs := [V.int 0]) (FD.binds1 4 1 (List.cons_ne_nil _ _) rfl (fun _ _ _ _ _ _ _ us its h1 h2 => match us, h1, its, h2 with | [_, _, _, _], _, [_], _ => ⟨_, rfl, rfl⟩))), .nil, fun _ => .nil, inok (N := N_Crew_init.drop 1) (ps0 := []) FD sc_Crew_init (fun cdv A outer s H E hr => by
    unfold S_Crew_init L_Crew_init_3 B_Crew_init_2 B_Crew_init_1
    exact (dss_cons (ds_for (vs := [4, 5]) .never rfl (di_enum rfl T.m_enumerate (de_name 1)) (dg_tup rfl (dgs_cons (dg_name 4 nd) (dgs_cons (dg_name 5 nd) dgs_nil))) (dss_one (ds_if (dt_not (dt_val (DE.p (de_call (ok_is_kind T) (hr.mono (by decide)) rfl (da_cons (de_name 5) da_nil))))) (dss_one ds_never) dss_nil)))
      (dss_cons (ds_for (vs := [4, 6]) .never rfl (di_enum rfl T.m_enumerate (de_name 2)) (dg_tup rfl (dgs_cons (dg_name 4 nd) (dgs_cons (dg_name 6 nd) dgs_nil))) (dss_one (ds_if (dt_not (dt_chain (r2d_bl0 _) (r2d_bl0 _) op_le op_lt (DE.p de_int) (dp_name 6) (DE.p (de_len rfl T.m_len (dp_name 1))))) (dss_one ds_never) dss_nil)))
      (dss_cons (ds_fld 0 ["Crew"] T.cf_kinds (de_tupleOf rfl T.m_tuple (DF.p (df_lc rfl nd (own := [("late", 7), ("lies", 8)]) (di_seq (de_name 1)) (by show BlkOk N_Crew_init (defScope (inClass (top 10) 0)) _ _; exact ⟨rfl, by decide +kernel, by decide +kernel, by decide +kernel, by decide +kernel⟩) (fun _ _ _ _ _ => (dg_tup rfl (dgs_cons (dg_name 7 nd) (dgs_cons (dg_name 8 nd) dgs_nil)))) (fun _ _ _ _ _ => dts_nil) (fun _ _ _ _ _ => (de_tup (da_cons (de_name 7) (da_cons (de_name 8) da_nil))))))))
      (dss_cons (ds_fld 0 ["Crew"] T.cf_members (de_tupleOf rfl T.m_tuple (dp_name 2)))
      (dss_cons (ds_fld 0 ["Crew"] T.cf_hands (de_len rfl T.m_len (dp_name 2)))
      (dss_one (ds_fld 0 ["Crew"] T.cf_peeks (de_name 3)))))))))⟩
/-! ### hire_crew -/
def N_hire_crew : List Str := ["offers", "counts", "peeks", "members", "kind", "count", "price", "most", "late", "lies"]
theorem sc_hire_crew : FnScope N_hire_crew ["offers", "counts", "peeks"] (defScope (top 14)) := ⟨rfl, rfl, rfl, by decide +kernel, rfl, by decide +kernel, by decide +kernel⟩
def B_hire_crew_1 : FS := (xExt 3 (eBin gRep (eLst (aCons (eName 4) aNil)) (pName 5)))
def L_hire_crew_2 : FE := (eLc (iSeq (eName 0)) [6, 7, 8, 9] (gtTup 4 (gtCons (gtName 6) (gtCons (gtName 7) (gtCons (gtName 8) (gtCons (gtName 9) gtNil))))) tYesD (eTup (aCons (eName 8) (aCons (eName 9) aNil))))
def S_hire_crew : FS := (xSeq (xNew 3 (eLst aNil))
  (xSeq (xFor (iEnumD (eName 1)) (gtTup 2 (gtCons (gtName 4) (gtCons (gtName 5) gtNil))) B_hire_crew_1)
  (xFrz [3] (xRet (eMake "Crew" F_Crew_init [] 3 (aCons L_hire_crew_2 (aCons (eName 3) (aCons (eName 2) aNil))))))))
def F_hire_crew : FF := fnOfS 10 S_hire_crew
theorem ok_hire_crew (T : Tx K mg) : DFn P w K mg base "hire_crew" 4 3 [] F_hire_crew := by
  obtain ⟨fd, FD⟩ := T.d_hire_crew
  have nd := sc_hire_crew.nd
  exact ⟨_, fd, ["offers", "counts", "peeks"], [], [], T.g_hire_crew, FD.kp, rfl, (FD.bindsN fun _ _ _ _ _ _ us hl => match us, hl with | [_, _, _], _ => rfl), .nil, fun _ => .nil, fnok FD sc_hire_crew (fun cdv A outer s H E hr => by
    unfold S_hire_crew L_hire_crew_2 B_hire_crew_1
    exact (dss_cons (ds_new 3 nd (df_lst da_nil))
      (dss_cons (ds_for (vs := [4, 5]) .never rfl (di_enum rfl T.m_enumerate (de_name 1)) (dg_tup rfl (dgs_cons (dg_name 4 nd) (dgs_cons (dg_name 5 nd) dgs_nil))) (dss_one (ds_extend 3 (pe_bm PySem.F.plainAttrs_list PySem.F.slot_list_extend PySem.F.type_list_extend mt_extend (pv 3) (pa_one (df_rep (df_lst (da_cons (de_name 4) da_nil)) (dp_name 5)))))))
      (dss_one (ds_frz [3] (ds_ret (DF.toE (df_make (ok_Crew_init T) (hr.mono (by decide)) rfl (da_cons (DF.toE (df_lc rfl nd (own := [("price", 6), ("most", 7), ("late", 8), ("lies", 9)]) (di_seq (de_name 0)) (by show BlkOk N_hire_crew (defScope (top 14)) _ _; exact ⟨rfl, by decide +kernel, by decide +kernel, by decide +kernel, by decide +kernel⟩) (fun _ _ _ _ _ => (dg_tup rfl (dgs_cons (dg_name 6 nd) (dgs_cons (dg_name 7 nd) (dgs_cons (dg_name 8 nd) (dgs_cons (dg_name 9 nd) dgs_nil)))))) (fun _ _ _ _ _ => dts_nil) (fun _ _ _ _ _ => (de_tup (da_cons (de_name 8) (da_cons (de_name 9) da_nil)))))) (da_cons (de_name 3) (da_cons (de_name 2) da_nil)))))))))))⟩
/-! ### enough_counts -/
def N_enough_counts : List Str := ["lots", "degree", "peeks", "offers", "found", "counts"]
theorem sc_enough_counts : FnScope N_enough_counts ["lots", "degree", "peeks", "offers"] (defScope (top 27)) := ⟨rfl, rfl, rfl, by decide +kernel, rfl, by decide +kernel, by decide +kernel⟩
def B_enough_counts_1 : FS := (xIf (tBool (eCall F_is_enough [] 3 (aCons (eName 0) (aCons (eName 1) (aCons (eCall F_hire_crew [] 3 (aCons (eName 3) (aCons (eName 5) (aCons (eName 2) aNil)))) aNil))))) (xApp 4 (eName 5)) xPass)
def S_enough_counts : FS := (xSeq (xNew 4 (eLst aNil))
  (xSeq (xFor (iSeq (eCall F_all_counts [] 2 (aCons (eName 3) (aCons (eK (.int 9)) aNil)))) (gtName 5) B_enough_counts_1)
  (xFrz [4] (xRet (eName 4)))))
def F_enough_counts : FF := fnOfS 6 S_enough_counts
theorem ok_enough_counts (T : Tx K mg) : DFn P w K mg base "enough_counts" 6 4 [] F_enough_counts := by
  obtain ⟨fd, FD⟩ := T.d_enough_counts
  have nd := sc_enough_counts.nd
  exact ⟨_, fd, ["lots", "degree", "peeks", "offers"], [], [], T.g_enough_counts, FD.kp, rfl, (FD.bindsN fun _ _ _ _ _ _ us hl => match us, hl with | [_, _, _, _], _ => rfl), .nil, fun _ => .nil, fnok FD sc_enough_counts (fun cdv A outer s H E hr => by
    unfold S_enough_counts B_enough_counts_1
    exact (dss_cons (ds_new 4 nd (df_lst da_nil))
      (dss_cons (ds_for (vs := [5]) .never rfl (di_seq (de_call (ok_all_counts T) (hr.mono (by decide)) rfl (da_cons (de_name 3) (da_cons (de_globInt rfl T.v_MOST_HIRED) da_nil)))) (dg_name 5 nd) (dss_one (ds_if (dt_val (DE.p (de_call (ok_is_enough T) (hr.mono (by decide)) rfl (da_cons (de_name 0) (da_cons (de_name 1) (da_cons (de_call (ok_hire_crew T) (hr.mono (by decide)) rfl (da_cons (de_name 3) (da_cons (de_name 5) (da_cons (de_name 2) da_nil)))) da_nil)))))) (dss_one (ds_append 4 (pe_bm PySem.F.plainAttrs_list PySem.F.slot_list_append PySem.F.type_list_append mt_append (pv 4) (DAr.run (da_cons (de_name 5) da_nil))))) dss_nil)))
      (dss_one (ds_frz [4] (ds_ret (de_name 4)))))))⟩
/-! ### cheapest -/
def N_cheapest : List Str := ["lots", "degree", "peeks", "offers", "best"]
theorem sc_cheapest : FnScope N_cheapest ["lots", "degree", "peeks", "offers"] (defScope (top 30)) := ⟨rfl, rfl, rfl, by decide +kernel, rfl, by decide +kernel, by decide +kernel⟩
def S_cheapest : FS := (xSeq (xSet 4 (eCall F_first_hire [] 2 (aCons (eName 3) (aCons (eCall F_enough_counts [] 4 (aCons (eName 0) (aCons (eName 1) (aCons (eName 2) (aCons (eName 3) aNil))))) aNil))))
  (xSeq (xIf (tBool (eBin gIsN (pName 4) (eK .non))) (xRet (eK .non)) xPass)
  (xRet (eBin gIx (pName 4) (eK (.int 2))))))
def F_cheapest : FF := fnOfS 5 S_cheapest
theorem ok_cheapest (T : Tx K mg) : DFn P w K mg base "cheapest" 7 4 [] F_cheapest := by
  obtain ⟨fd, FD⟩ := T.d_cheapest
  have nd := sc_cheapest.nd
  exact ⟨_, fd, ["lots", "degree", "peeks", "offers"], [], [], T.g_cheapest, FD.kp, rfl, (FD.bindsN fun _ _ _ _ _ _ us hl => match us, hl with | [_, _, _, _], _ => rfl), .nil, fun _ => .nil, fnok FD sc_cheapest (fun cdv A outer s H E hr => by
    unfold S_cheapest
    exact (dss_cons (ds_set 4 nd (de_call (ok_first_hire T) (hr.mono (by decide)) rfl (da_cons (de_name 3) (da_cons (de_call (ok_enough_counts T) (hr.mono (by decide)) rfl (da_cons (de_name 0) (da_cons (de_name 1) (da_cons (de_name 2) (da_cons (de_name 3) da_nil))))) da_nil))))
      (dss_cons (ds_if (dt_isN (dp_name 4)) (dss_one (ds_ret de_non)) dss_nil)
      (dss_one (ds_ret (de_ix (dp_name 4) (DE.p de_int)))))))⟩
/-! ### _law_crew_right -/
def N__law_crew_right : List Str := ["offers", "counts", "peeks", "crew", "members", "k", "kinds", "offer", "j"]
theorem sc__law_crew_right : FnScope N__law_crew_right ["offers", "counts", "peeks"] (defScope (top 46)) := ⟨rfl, rfl, rfl, by decide +kernel, rfl, by decide +kernel, by decide +kernel⟩
def L__law_crew_right_1 : FE := (eLc (iSeq (eName 0)) [7] (gtName 7) tYesD (eCB gTuple (aCons (pName 7) aNil)))
def L__law_crew_right_2 : FE := (eLc (iRange (aCons (eBin gIx (pName 1) (pName 5)) aNil)) [8] (gtName 8) tYesD (eName 5))
def B__law_crew_right_3 : FS := (xSet 4 (eBin gAdd (pName 4) L__law_crew_right_2))
def L__law_crew_right_4 : FE := (eLc (iSeq (eName 0)) [7] (gtName 7) tYesD (eTup (aCons (eBin gIx (pName 7) (eK (.int 2))) (aCons (eBin gIx (pName 7) (eK (.int 3))) aNil))))
def S__law_crew_right : FS := (xSeq (xSet 3 (eCall F_hire_crew [] 3 (aCons L__law_crew_right_1 (aCons (eCB gTuple (aCons (pName 1) aNil)) (aCons (eName 2) aNil)))))
  (xSeq (xSet 4 (eLst aNil))
  (xSeq (xFor (iRange (aCons (eCB gLen (aCons (pName 1) aNil)) aNil)) (gtName 5) B__law_crew_right_3)
  (xSeq (xSet 6 (eCB gTuple (aCons L__law_crew_right_4 aNil)))
  (xRet (eAnd (eBin gEq (eFld ["Crew"] "kinds" (pName 3)) (pName 6)) (eAnd (eBin gEq (eFld ["Crew"] "members" (pName 3)) (eCB gTuple (aCons (pName 4) aNil))) (eBin gEq (eFld ["Crew"] "peeks" (pName 3)) (pName 2)))))))))
def F__law_crew_right : FF := fnOfS 9 S__law_crew_right
theorem ok__law_crew_right (T : Tx K mg) : DFn P w K mg base "_law_crew_right" 5 3 [] F__law_crew_right := by
  obtain ⟨fd, FD⟩ := T.d__law_crew_right
  have nd := sc__law_crew_right.nd
  exact ⟨_, fd, ["offers", "counts", "peeks"], [], [], T.g__law_crew_right, FD.kp, rfl, (FD.bindsN fun _ _ _ _ _ _ us hl => match us, hl with | [_, _, _], _ => rfl), .nil, fun _ => .nil, fnok FD sc__law_crew_right (fun cdv A outer s H E hr => by
    unfold S__law_crew_right L__law_crew_right_4 B__law_crew_right_3 L__law_crew_right_2 L__law_crew_right_1
    exact (dss_cons (ds_set 3 nd (de_call (ok_hire_crew T) (hr.mono (by decide)) rfl (da_cons (DF.toE (df_lc rfl nd (own := [("offer", 7)]) (di_seq (de_name 0)) (by show BlkOk N__law_crew_right (defScope (top 46)) _ _; exact ⟨rfl, by decide +kernel, by decide +kernel, by decide +kernel, by decide +kernel⟩) (fun _ _ _ _ _ => (dg_name 7 nd)) (fun _ _ _ _ _ => dts_nil) (fun _ _ _ _ _ => (de_tupleOf rfl T.m_tuple (dp_name 7))))) (da_cons (de_tupleOf rfl T.m_tuple (dp_name 1)) (da_cons (de_name 2) da_nil)))))
      (dss_cons (ds_set 4 nd (DF.toE (df_lst da_nil)))
      (dss_cons (ds_for (vs := [5]) .never rfl (di_range1 rfl T.m_range (da_cons (de_len rfl T.m_len (dp_name 1)) da_nil)) (dg_name 5 nd) (dss_one (ds_set 4 nd (de_add (dp_name 4) (DF.p (df_lc rfl nd (own := [("j", 8)]) (di_range1 rfl T.m_range (da_cons (de_ix (dp_name 1) (dp_name 5)) da_nil)) (by show BlkOk N__law_crew_right (defScope (top 46)) _ _; exact ⟨rfl, by decide +kernel, by decide +kernel, by decide +kernel, by decide +kernel⟩) (fun _ _ _ _ _ => (dg_name 8 nd)) (fun _ _ _ _ _ => dts_nil) (fun _ _ _ _ _ => (de_name 5))))))))
      (dss_cons (ds_set 6 nd (de_tupleOf rfl T.m_tuple (DF.p (df_lc rfl nd (own := [("offer", 7)]) (di_seq (de_name 0)) (by show BlkOk N__law_crew_right (defScope (top 46)) _ _; exact ⟨rfl, by decide +kernel, by decide +kernel, by decide +kernel, by decide +kernel⟩) (fun _ _ _ _ _ => (dg_name 7 nd)) (fun _ _ _ _ _ => dts_nil) (fun _ _ _ _ _ => (de_tup (da_cons (de_ix (dp_name 7) (DE.p de_int)) (da_cons (de_ix (dp_name 7) (DE.p de_int)) da_nil))))))))
      (dss_one (ds_ret (de_and (de_eq hr (DE.p (de_fld ["Crew"] T.cf_kinds (dp_name 3))) (dp_name 6)) (de_and (de_eq hr (DE.p (de_fld ["Crew"] T.cf_members (dp_name 3))) (DE.p (de_tupleOf rfl T.m_tuple (dp_name 4)))) (de_one (de_eq hr (DE.p (de_fld ["Crew"] T.cf_peeks (dp_name 3))) (dp_name 2))))))))))))⟩
/-! ### _law_bound -/
def N__law_bound : List Str := ["offers", "found", "index", "low", "high", "step", "middle", "tried", "best", "offer"]
theorem sc__law_bound : FnScope N__law_bound ["offers", "found", "index"] (defScope (top 45)) := ⟨rfl, rfl, rfl, by decide +kernel, rfl, by decide +kernel, by decide +kernel⟩
def B__law_bound_1 : FS := (xSeq (xSet 6 (eBin gDiv (eBin gAdd (pName 3) (pName 4)) (eK (.int 2))))
  (xIf (tBool (eBin gGt (eBin gSub (pName 4) (pName 3)) (eK (.int 1)))) (xSeq (xRows 7 (iSeq (eName 0)) [9] (gtName 9) (eCB gList (aCons (pName 9) aNil)) (pName 2) (eK (.int 0)) (eName 6)) (xSeq (xFrz [7] (xSet 8 (eCall F__law_best [] 2 (aCons (eName 7) (aCons (eName 1) aNil)))))
  (xIf (tAnd (tBool (eBin gNotN (pName 8) (eK .non))) (tBool (eBin gGt (eBin gIx (eBin gIx (pName 8) (eK (.int 2))) (pName 2)) (eK (.int 0))))) (xSet 3 (eName 6)) (xSet 4 (eName 6))))) xPass))
def S__law_bound : FS := (xSeq (xSet 3 (eUn gNeg (eK (.int 1))))
  (xSeq (xSet 4 (eK (.int 1000)))
  (xSeq (xFor (iRange (aCons (eK (.int 11)) aNil)) (gtName 5) B__law_bound_1)
  (xSeq (xIf (tBool (eBin gLt (pName 3) (eK (.int 0)))) (xRet (eK .non)) xPass)
  (xRet (eName 3))))))
def F__law_bound : FF := fnOfS 10 S__law_bound
theorem ok__law_bound (T : Tx K mg) : DFn P w K mg base "_law_bound" 2 3 [] F__law_bound := by
  obtain ⟨fd, FD⟩ := T.d__law_bound
  have nd := sc__law_bound.nd
  exact ⟨_, fd, ["offers", "found", "index"], [], [], T.g__law_bound, FD.kp, rfl, (FD.bindsN fun _ _ _ _ _ _ us hl => match us, hl with | [_, _, _], _ => rfl), .nil, fun _ => .nil, fnok FD sc__law_bound (fun cdv A outer s H E hr => by
    unfold S__law_bound B__law_bound_1
    exact (dss_cons (ds_set 3 nd (de_neg (DE.p de_int)))
      (dss_cons (ds_set 4 nd de_int)
      (dss_cons (ds_for (vs := [5]) .never rfl (di_range1 rfl T.m_range (da_cons de_int da_nil)) (dg_name 5 nd) (dss_cons (ds_set 6 nd (de_fdiv (DE.p (de_add (dp_name 3) (dp_name 4))) (DE.p de_int)))
      (dss_one (ds_if (dt_gt (DE.p (de_sub (dp_name 4) (dp_name 3))) (DE.p de_int)) (ds_rows 7 rfl nd (own := [("offer", 9)]) (di_seq (de_name 0)) (by show BlkOk N__law_bound (defScope (top 45)) _ _; exact ⟨rfl, by decide +kernel, by decide +kernel, by decide +kernel, by decide +kernel⟩) (fun _ _ _ _ _ => (dg_name 9 nd)) (fun _ _ _ _ _ => (df_listOf rfl T.m_list (dp_name 9))) (de_name 6) (dp_name 2) (DE.p de_int) (dss_cons (ds_frz [7] (ds_set 8 nd (de_call (ok__law_best T) (hr.mono (by decide)) rfl (da_cons (de_name 7) (da_cons (de_name 1) da_nil)))))
      (dss_one (ds_if (DW.t (dw_and (dt_notN (dp_name 8)) (dw_and1 (dt_gt (DE.p (de_ix (DE.p (de_ix (dp_name 8) (DE.p de_int))) (dp_name 2))) (DE.p de_int))))) (dss_one (ds_set 3 nd (de_name 6))) (dss_one (ds_set 4 nd (de_name 6))))))) dss_nil))))
      (dss_cons (ds_if (dt_lt (dp_name 3) (DE.p de_int)) (dss_one (ds_ret de_non)) dss_nil)
      (dss_one (ds_ret (de_name 3))))))))⟩
/-! ### worth_price -/
def N_worth_price : List Str := ["offers", "counts", "index", "best", "others", "price"]
theorem sc_worth_price : FnScope N_worth_price ["offers", "counts", "index", "best"] (defScope (top 31)) := ⟨rfl, rfl, rfl, by decide +kernel, rfl, by decide +kernel, by decide +kernel⟩
def S_worth_price : FS := (xSeq (xIf (tBool (eBin gIsN (pName 3) (eK .non))) (xRet (eK (.int 999))) xPass)
  (xSeq (xSet 4 (eBin gSub (eCall F_hire_price [] 2 (aCons (eName 0) (aCons (eName 1) aNil))) (eBin gMul (eBin gIx (eBin gIx (pName 0) (pName 2)) (eK (.int 0))) (eBin gIx (pName 1) (pName 2)))))
  (xSeq (xSet 5 (eBin gDiv (eBin gSub (eBin gIx (pName 3) (eK (.int 0))) (pName 4)) (eBin gIx (pName 1) (pName 2))))
  (xSeq (xIf (tAnd (tBool (eBin gEq (eBin gAdd (pName 4) (eBin gMul (pName 5) (eBin gIx (pName 1) (pName 2)))) (eBin gIx (pName 3) (eK (.int 0))))) (tBool (eBin (gOrd .ge) (eTup (aCons (eCB gSum (aCons (pName 1) aNil)) (aCons (eName 1) aNil))) (eTup (aCons (eBin gIx (pName 3) (eK (.int 1))) (aCons (eBin gIx (pName 3) (eK (.int 2))) aNil)))))) (xAug 5 gSub (eK (.int 1))) xPass)
  (xRet (eCB gMin2 (aCons (pName 5) (aCons (eK (.int 999)) aNil))))))))
def F_worth_price : FF := fnOfS 6 S_worth_price
theorem ok_worth_price (T : Tx K mg) : DFn P w K mg base "worth_price" 2 4 [] F_worth_price := by
  obtain ⟨fd, FD⟩ := T.d_worth_price
  have nd := sc_worth_price.nd
  exact ⟨_, fd, ["offers", "counts", "index", "best"], [], [], T.g_worth_price, FD.kp, rfl, (FD.bindsN fun _ _ _ _ _ _ us hl => match us, hl with | [_, _, _, _], _ => rfl), .nil, fun _ => .nil, fnok FD sc_worth_price (fun cdv A outer s H E hr => by
    unfold S_worth_price
    exact (dss_cons (ds_if (dt_isN (dp_name 3)) (dss_one (ds_ret (de_globInt rfl T.v_GREATEST_PRICE))) dss_nil)
      (dss_cons (ds_set 4 nd (de_sub (DE.p (de_call (ok_hire_price T) (hr.mono (by decide)) rfl (da_cons (de_name 0) (da_cons (de_name 1) da_nil)))) (DE.p (de_mul (DE.p (de_ix (DE.p (de_ix (dp_name 0) (dp_name 2))) (DE.p de_int))) (DE.p (de_ix (dp_name 1) (dp_name 2)))))))
      (dss_cons (ds_set 5 nd (de_fdiv (DE.p (de_sub (DE.p (de_ix (dp_name 3) (DE.p de_int))) (dp_name 4))) (DE.p (de_ix (dp_name 1) (dp_name 2)))))
      (dss_cons (ds_if (DW.t (dw_and (dt_eq hr (DE.p (de_add (dp_name 4) (DE.p (de_mul (dp_name 5) (DE.p (de_ix (dp_name 1) (dp_name 2))))))) (DE.p (de_ix (dp_name 3) (DE.p de_int)))) (dw_and1 (dt_oGe hr (DE.p (de_tup (da_cons (de_sum rfl rfl T.m_sum (dp_name 1)) (da_cons (de_name 1) da_nil)))) (DE.p (de_tup (da_cons (de_ix (dp_name 3) (DE.p de_int)) (da_cons (de_ix (dp_name 3) (DE.p de_int)) da_nil)))))))) (dss_one (ds_augSub 5 nd de_int)) dss_nil)
      (dss_one (ds_ret (de_min2 rfl rfl T.m_min (dp_name 5) (DE.p (de_globInt rfl T.v_GREATEST_PRICE))))))))))⟩
/-! ### price_bound -/
def N_price_bound : List Str := ["lots", "degree", "peeks", "offers", "index", "found", "best", "bounds", "counts"]
theorem sc_price_bound : FnScope N_price_bound ["lots", "degree", "peeks", "offers", "index"] (defScope (top 32)) := ⟨rfl, rfl, rfl, by decide +kernel, rfl, by decide +kernel, by decide +kernel⟩
def L_price_bound_1 : FE := (eLc (iSeq (eName 5)) [8] (gtName 8) (tBool (eBin gEq (eBin gIx (pName 8) (pName 4)) (eK (.int 0)))) (eName 8))
def L_price_bound_2 : FE := (eLc (iSeq (eName 5)) [8] (gtName 8) (tBool (eBin gGt (eBin gIx (pName 8) (pName 4)) (eK (.int 0)))) (eCall F_worth_price [] 4 (aCons (eName 3) (aCons (eName 8) (aCons (eName 4) (aCons (eName 6) aNil))))))
def S_price_bound : FS := (xSeq (xSet 5 (eCall F_enough_counts [] 4 (aCons (eName 0) (aCons (eName 1) (aCons (eName 2) (aCons (eName 3) aNil))))))
  (xSeq (xSet 6 (eCall F_first_hire [] 2 (aCons (eName 3) (aCons L_price_bound_1 aNil))))
  (xSeq (xNew 7 L_price_bound_2)
  (xSeq (xIf (tOr (tBool (eBin gEq (eCB gLen (aCons (pName 7) aNil)) (eK (.int 0)))) (tBool (eBin gLt (eCB gMaxL (aCons (pName 7) aNil)) (eK (.int 0))))) (xRet (eK .non)) xPass)
  (xRet (eCB gMaxL (aCons (pName 7) aNil)))))))
def F_price_bound : FF := fnOfS 9 S_price_bound
theorem ok_price_bound (T : Tx K mg) : DFn P w K mg base "price_bound" 7 5 [] F_price_bound := by
  obtain ⟨fd, FD⟩ := T.d_price_bound
  have nd := sc_price_bound.nd
  exact ⟨_, fd, ["lots", "degree", "peeks", "offers", "index"], [], [], T.g_price_bound, FD.kp, rfl, (FD.bindsN fun _ _ _ _ _ _ us hl => match us, hl with | [_, _, _, _, _], _ => rfl), .nil, fun _ => .nil, fnok FD sc_price_bound (fun cdv A outer s H E hr => by
    unfold S_price_bound L_price_bound_2 L_price_bound_1
    exact (dss_cons (ds_set 5 nd (de_call (ok_enough_counts T) (hr.mono (by decide)) rfl (da_cons (de_name 0) (da_cons (de_name 1) (da_cons (de_name 2) (da_cons (de_name 3) da_nil))))))
      (dss_cons (ds_set 6 nd (de_call (ok_first_hire T) (hr.mono (by decide)) rfl (da_cons (de_name 3) (da_cons (DF.toE (df_lc rfl nd (own := [("counts", 8)]) (di_seq (de_name 5)) (by show BlkOk N_price_bound (defScope (top 32)) _ _; exact ⟨rfl, by decide +kernel, by decide +kernel, by decide +kernel, by decide +kernel⟩) (fun _ _ _ _ _ => (dg_name 8 nd)) (fun _ _ _ _ _ => (dts_one (dt_eq hr (DE.p (de_ix (dp_name 8) (dp_name 4))) (DE.p de_int)))) (fun _ _ _ _ _ => (de_name 8)))) da_nil))))
      (dss_cons (ds_newLc 7 rfl nd (own := [("counts", 8)]) (di_seq (de_name 5)) (by show BlkOk N_price_bound (defScope (top 32)) _ _; exact ⟨rfl, by decide +kernel, by decide +kernel, by decide +kernel, by decide +kernel⟩) (fun _ _ _ _ _ => (dg_name 8 nd)) (fun _ _ _ _ _ => (dts_one (dt_gt (DE.p (de_ix (dp_name 8) (dp_name 4))) (DE.p de_int)))) (fun _ _ _ _ _ => (de_call (ok_worth_price T) (hr.mono (by decide)) rfl (da_cons (de_name 3) (da_cons (de_name 8) (da_cons (de_name 4) (da_cons (de_name 6) da_nil)))))))
      (dss_cons (ds_if (DW.t (dw_or (dt_eq hr (DE.p (de_len rfl T.m_len (dp_name 7))) (DE.p de_int)) (dw_or1 (dt_lt (DE.p (de_maxL rfl rfl T.m_max (dp_name 7))) (DE.p de_int))))) (dss_one (ds_ret de_non)) dss_nil)
      (dss_one (ds_ret (de_maxL rfl rfl T.m_max (dp_name 7)))))))))⟩
/-! ### _law_whole -/
def N__law_whole : List Str := ["value"]
theorem sc__law_whole : FnScope N__law_whole ["value"] (defScope (top 34)) := ⟨rfl, rfl, rfl, by decide +kernel, rfl, by decide +kernel, by decide +kernel⟩
def S__law_whole : FS := (xRet (eAnd (eCB gIsi (aCons (pName 0) (aCons (eK (.ty "int")) aNil))) (eNot (eCB gIsi (aCons (pName 0) (aCons (eK (.ty "bool")) aNil))))))
def F__law_whole : FF := fnOfS 1 S__law_whole
theorem ok__law_whole (T : Tx K mg) : DFn P w K mg base "_law_whole" 1 1 [] F__law_whole := by
  obtain ⟨fd, FD⟩ := T.d__law_whole
  have nd := sc__law_whole.nd
  exact ⟨_, fd, ["value"], [], [], T.g__law_whole, FD.kp, rfl, (FD.bindsN fun _ _ _ _ _ _ us hl => match us, hl with | [_], _ => rfl), .nil, fun _ => .nil, fnok FD sc__law_whole (fun cdv A outer s H E hr => by
    unfold S__law_whole
    exact (dss_one (ds_ret (de_and (de_isi rfl T.m_isinstance (dp_name 0) (DE.p (de_type (n := "int") rfl T.m_int (by decide +kernel)))) (de_one (de_not (de_isi rfl T.m_isinstance (dp_name 0) (DE.p (de_type (n := "bool") rfl T.m_bool (by decide +kernel))))))))))⟩
/-! ### _law_bound_right -/
def N__law_bound_right : List Str := ["lots", "degree", "peeks", "offers", "found", "index", "due", "told", "price", "tried", "counts", "offer"]
theorem sc__law_bound_right : FnScope N__law_bound_right ["lots", "degree", "peeks", "offers", "found", "index"] (defScope (top 47)) := ⟨rfl, rfl, rfl, by decide +kernel, rfl, by decide +kernel, by decide +kernel⟩
def L__law_bound_right_1 : FE := (eLc (iSeq (eName 3)) [11] (gtName 11) tYesD (eCB gTuple (aCons (pName 11) aNil)))
def B__law_bound_right_2 : FS := (xIf (tBool (eBin gLe (pName 8) (eK (.int 999)))) (xSeq (xRows 9 (iSeq (eName 3)) [11] (gtName 11) (eCB gList (aCons (pName 11) aNil)) (pName 5) (eK (.int 0)) (eName 8)) (xSeq (xFrz [9] (xSet 10 (eCall F_cheapest [] 4 (aCons (eName 0) (aCons (eName 1) (aCons (eName 2) (aCons (eName 9) aNil)))))))
  (xIf (tOr (tBool (eBin gIsN (pName 10) (eK .non))) (tBool (eBin gNe (eBin gGt (eBin gIx (pName 10) (pName 5)) (eK (.int 0))) (eBin gLe (pName 8) (pName 6))))) (xRet (eK (.bl false))) xPass))) xPass)
def S__law_bound_right : FS := (xSeq (xSet 6 (eCall F__law_bound [] 3 (aCons (eName 3) (aCons (eName 4) (aCons (eName 5) aNil)))))
  (xSeq (xSet 7 (eCall F_price_bound [] 5 (aCons (eName 0) (aCons (eName 1) (aCons (eName 2) (aCons L__law_bound_right_1 (aCons (eName 5) aNil)))))))
  (xSeq (xIf (tOr (tBool (eBin gIsN (pName 6) (eK .non))) (tBool (eBin gIsN (pName 7) (eK .non)))) (xRet (eAnd (eBin gIsN (pName 6) (eK .non)) (eBin gIsN (pName 7) (eK .non)))) xPass)
  (xSeq (xIf (tOr (tNot (tBool (eCall F__law_whole [] 1 (aCons (eName 7) aNil)))) (tBool (eBin gNe (pName 7) (pName 6)))) (xRet (eK (.bl false))) xPass)
  (xSeq (xFor (iSeq (eLst (aCons (eName 6) (aCons (eBin gDiv (pName 6) (eK (.int 2))) (aCons (eBin gAdd (pName 6) (eK (.int 1))) aNil))))) (gtName 8) B__law_bound_right_2)
  (xRet (eK (.bl true))))))))
def F__law_bound_right : FF := fnOfS 12 S__law_bound_right
theorem ok__law_bound_right (T : Tx K mg) : DFn P w K mg base "_law_bound_right" 8 6 [] F__law_bound_right := by
  obtain ⟨fd, FD⟩ := T.d__law_bound_right
  have nd := sc__law_bound_right.nd
  exact ⟨_, fd, ["lots", "degree", "peeks", "offers", "found", "index"], [], [], T.g__law_bound_right, FD.kp, rfl, (FD.bindsN fun _ _ _ _ _ _ us hl => match us, hl with | [_, _, _, _, _, _], _ => rfl), .nil, fun _ => .nil, fnok FD sc__law_bound_right (fun cdv A outer s H E hr => by
    unfold S__law_bound_right B__law_bound_right_2 L__law_bound_right_1
    exact (dss_cons (ds_set 6 nd (de_call (ok__law_bound T) (hr.mono (by decide)) rfl (da_cons (de_name 3) (da_cons (de_name 4) (da_cons (de_name 5) da_nil)))))
      (dss_cons (ds_set 7 nd (de_call (ok_price_bound T) (hr.mono (by decide)) rfl (da_cons (de_name 0) (da_cons (de_name 1) (da_cons (de_name 2) (da_cons (DF.toE (df_lc rfl nd (own := [("offer", 11)]) (di_seq (de_name 3)) (by show BlkOk N__law_bound_right (defScope (top 47)) _ _; exact ⟨rfl, by decide +kernel, by decide +kernel, by decide +kernel, by decide +kernel⟩) (fun _ _ _ _ _ => (dg_name 11 nd)) (fun _ _ _ _ _ => dts_nil) (fun _ _ _ _ _ => (de_tupleOf rfl T.m_tuple (dp_name 11))))) (da_cons (de_name 5) da_nil)))))))
      (dss_cons (ds_if (DW.t (dw_or (dt_isN (dp_name 6)) (dw_or1 (dt_isN (dp_name 7))))) (dss_one (ds_ret (de_and (de_isN (dp_name 6)) (de_one (de_isN (dp_name 7)))))) dss_nil)
      (dss_cons (ds_if (DW.t (dw_or (dt_not (dt_val (DE.p (de_call (ok__law_whole T) (hr.mono (by decide)) rfl (da_cons (de_name 7) da_nil))))) (dw_or1 (dt_ne hr (dp_name 7) (dp_name 6))))) (dss_one (ds_ret de_bl)) dss_nil)
      (dss_cons (ds_for (vs := [8]) .never rfl (di_seq (DF.toE (df_lst (da_cons (de_name 6) (da_cons (de_fdiv (dp_name 6) (DE.p de_int)) (da_cons (de_add (dp_name 6) (DE.p de_int)) da_nil)))))) (dg_name 8 nd) (dss_one (ds_if (dt_le (dp_name 8) (DE.p de_int)) (ds_rows 9 rfl nd (own := [("offer", 11)]) (di_seq (de_name 3)) (by show BlkOk N__law_bound_right (defScope (top 47)) _ _; exact ⟨rfl, by decide +kernel, by decide +kernel, by decide +kernel, by decide +kernel⟩) (fun _ _ _ _ _ => (dg_name 11 nd)) (fun _ _ _ _ _ => (df_listOf rfl T.m_list (dp_name 11))) (de_name 8) (dp_name 5) (DE.p de_int) (dss_cons (ds_frz [9] (ds_set 10 nd (de_call (ok_cheapest T) (hr.mono (by decide)) rfl (da_cons (de_name 0) (da_cons (de_name 1) (da_cons (de_name 2) (da_cons (de_name 9) da_nil)))))))
      (dss_one (ds_if (DW.t (dw_or (dt_isN (dp_name 10)) (dw_or1 (dt_ne hr (DE.p (de_gt (DE.p (de_ix (dp_name 10) (dp_name 5))) (DE.p de_int))) (DE.p (de_le (dp_name 8) (dp_name 6))))))) (dss_one (ds_ret de_bl)) dss_nil)))) dss_nil)))
      (dss_one (ds_ret de_bl))))))))⟩
/-! ### law -/
def N_law : List Str := ["script", "draw", "offers", "k", "lots", "degree", "peeks", "found", "best", "told", "counts", "part", "kind", "price", "offer"]
theorem sc_law : FnScope N_law ["script"] (defScope (top 48)) := ⟨rfl, rfl, rfl, by decide +kernel, rfl, by decide +kernel, by decide +kernel⟩
def B_law_1 : FS := (xSeq (xSet 11 (eSl (pName 1) (oSome (eBin gAdd (eK (.int 5)) (eBin gMul (eK (.int 4)) (pName 3)))) (oSome (eBin gAdd (eK (.int 9)) (eBin gMul (eK (.int 4)) (pName 3))))))
  (xSeq (xSet 12 (eBin gIx (eLst (aCons (eLst (aCons (eK (.int 0)) (aCons (eK (.int 0)) aNil))) (aCons (eLst (aCons (eK (.int 1)) (aCons (eK (.int 0)) aNil))) (aCons (eLst (aCons (eK (.int 0)) (aCons (eK (.int 1)) aNil))) (aCons (eLst (aCons (eK (.int 2)) (aCons (eK (.int 0)) aNil))) (aCons (eLst (aCons (eK (.int 1)) (aCons (eK (.int 1)) aNil))) (aCons (eLst (aCons (eK (.int 0)) (aCons (eK (.int 0)) aNil))) (aCons (eLst (aCons (eK (.int 3)) (aCons (eK (.int 0)) aNil))) (aCons (eLst (aCons (eK (.int 0)) (aCons (eK (.int 2)) aNil))) (aCons (eLst (aCons (eK (.int 1)) (aCons (eK (.int 0)) aNil))) (aCons (eLst (aCons (eK (.int 0)) (aCons (eK (.int 1)) aNil))) (aCons (eLst (aCons (eK (.int 2)) (aCons (eK (.int 1)) aNil))) (aCons (eLst (aCons (eK (.int 9)) (aCons (eK (.int 0)) aNil))) aNil))))))))))))) (eBin gIx (pName 11) (eK (.int 2)))))
  (xSeq (xSet 13 (eBin gIx (pName 11) (eK (.int 0))))
  (xSeq (xIf (tBool (eBin gEq (eBin gIx (pName 11) (eK (.int 3))) (eK (.int 0)))) (xSet 13 (eBin gMod (eBin gIx (pName 11) (eK (.int 0))) (eK (.int 4)))) xPass)
  (xApp 2 (eLst (aCons (eName 13) (aCons (eCB gMax2 (aCons (eBin gIx (pName 11) (eK (.int 1))) (aCons (eBin gIx (eLst (aCons (eK (.int 0)) (aCons (eK (.int 5)) aNil))) (eCB gInt (aCons (eBin gGt (eBin gIx (pName 11) (eK (.int 3))) (eK (.int 0))) aNil))) aNil))) (aCons (eBin gIx (pName 12) (eK (.int 0))) (aCons (eBin gIx (pName 12) (eK (.int 1))) aNil))))))))))
def L_law_2 : FE := (eLc (iSeq (eName 2)) [14] (gtName 14) tYesD (eCB gList (aCons (pName 14) aNil)))
def L_law_3 : FE := (eLc (iSeq (eName 2)) [14] (gtName 14) tYesD (eCB gMin2 (aCons (eBin gIx (pName 14) (eK (.int 1))) (aCons (eK (.int 3)) aNil))))
def L_law_4 : FE := (eLc (iRange (aCons (eCB gLen (aCons (pName 2) aNil)) aNil)) [3] (gtName 3) tYesD (eBin gMul (eBin gIx (eBin gIx (pName 2) (pName 3)) (eK (.int 0))) (eBin gIx (pName 10) (pName 3))))
def S_law : FS := (xSeq (xSet 1 (eCall F__law_digits [] 2 (aCons (eCall F__law_cell [] 2 (aCons (eName 0) (aCons (eK (.int 0)) aNil))) (aCons (eBin gAdd (eLst (aCons (eK (.int 3)) (aCons (eK (.int 4)) (aCons (eK (.int 4)) (aCons (eK (.int 8)) (aCons (eK (.int 3)) aNil)))))) (eBin gRep (eLst (aCons (eK (.int 1000)) (aCons (eK (.int 10)) (aCons (eK (.int 12)) (aCons (eK (.int 4)) aNil))))) (eK (.int 3)))) aNil))))
  (xSeq (xNew 2 (eLst aNil))
  (xSeq (xFor (iRange (aCons (eBin gAdd (eK (.int 1)) (eBin gIx (pName 1) (eK (.int 0)))) aNil)) (gtName 3) B_law_1)
  (xSeq (xSet 4 (eBin gAdd (eK (.int 1)) (eBin gIx (pName 1) (eK (.int 1)))))
  (xSeq (xSet 5 (eBin gAdd (eK (.int 1)) (eBin gIx (pName 1) (eK (.int 2)))))
  (xSeq (xSet 6 (eBin gIx (eLst (aCons (eK (.int 0)) (aCons (eK (.int 0)) (aCons (eK (.int 0)) (aCons (eK (.int 0)) (aCons (eK (.int 1)) (aCons (eK (.int 1)) (aCons (eK (.int 2)) (aCons (eK (.int 3)) aNil))))))))) (eBin gIx (pName 1) (eK (.int 3)))))
  (xSeq (xFrz [2] (xSet 7 (eCall F__law_enough_counts [] 4 (aCons (eName 4) (aCons (eName 5) (aCons (eName 6) (aCons (eName 2) aNil)))))))
  (xSeq (xFrz [2] (xSet 8 (eCall F__law_best [] 2 (aCons (eName 2) (aCons (eName 7) aNil)))))
  (xSeq (xFrz [2] (xSet 9 (eCall F_cheapest [] 4 (aCons (eName 4) (aCons (eName 5) (aCons (eName 6) (aCons L_law_2 aNil)))))))
  (xSeq (xIf (tOr (tBool (eBin gIsN (pName 8) (eK .non))) (tBool (eBin gIsN (pName 9) (eK .non)))) (xIf (tOr (tBool (eBin gNotN (pName 8) (eK .non))) (tBool (eBin gNotN (pName 9) (eK .non)))) (xRet (eK (.bl false))) xPass) (xSeq (xIf (tOr (tNot (tBool (eCB gIsi (aCons (pName 9) (aCons (eK (.ty "tuple")) aNil))))) (tBool (eBin gNe (eCB gList (aCons (pName 9) aNil)) (eBin gIx (pName 8) (eK (.int 2)))))) (xRet (eK (.bl false))) xPass)
  (xFrz [2] (xIf (tOr (tBool (eBin gNe (eCall F_hire_price [] 2 (aCons (eName 2) (aCons (eName 9) aNil))) (eBin gIx (pName 8) (eK (.int 0))))) (tNot (tBool (eCall F__law_crew_right [] 3 (aCons (eName 2) (aCons (eName 9) (aCons (eName 6) aNil))))))) (xRet (eK (.bl false))) xPass))))
  (xSeq (xFrz [2] (xNew 10 L_law_3))
  (xSeq (xFrz [2, 10] (xIf (tBool (eBin gNe (eCall F_hire_price [] 2 (aCons (eName 2) (aCons (eName 10) aNil))) (eCB gSum (aCons L_law_4 aNil)))) (xRet (eK (.bl false))) xPass))
  (xSeq (xFrz [2, 10] (xIf (tNot (tBool (eCall F__law_crew_right [] 3 (aCons (eName 2) (aCons (eName 10) (aCons (eName 6) aNil)))))) (xRet (eK (.bl false))) xPass))
  (xFrz [2] (xRet (eCall F__law_bound_right [] 6 (aCons (eName 4) (aCons (eName 5) (aCons (eName 6) (aCons (eName 2) (aCons (eName 7) (aCons (eBin gMod (eBin gIx (pName 1) (eK (.int 4))) (eCB gLen (aCons (pName 2) aNil))) aNil))))))))))))))))))))))
def F_law : FF := fnOfS 15 S_law
theorem ok_law (T : Tx K mg) : DFn P w K mg base "law" 9 1 [] F_law := by
  obtain ⟨fd, FD⟩ := T.d_law
  have nd := sc_law.nd
  exact ⟨_, fd, ["script"], [], [], T.g_law, FD.kp, rfl, (FD.bindsN fun _ _ _ _ _ _ us hl => match us, hl with | [_], _ => rfl), .nil, fun _ => .nil, fnok FD sc_law (fun cdv A outer s H E hr => by
    unfold S_law L_law_4 L_law_3 L_law_2 B_law_1
    exact (dss_cons (ds_set 1 nd (de_call (ok__law_digits T) (hr.mono (by decide)) rfl (da_cons (de_call (ok__law_cell T) (hr.mono (by decide)) rfl (da_cons (de_name 0) (da_cons de_int da_nil))) (da_cons (de_add (DF.p (df_lst (da_cons de_int (da_cons de_int (da_cons de_int (da_cons de_int (da_cons de_int da_nil))))))) (DF.p (df_rep (df_lst (da_cons de_int (da_cons de_int (da_cons de_int (da_cons de_int da_nil))))) (DE.p de_int)))) da_nil))))
      (dss_cons (ds_new 2 nd (df_lst da_nil))
      (dss_cons (ds_for (vs := [3]) .never rfl (di_range1 rfl T.m_range (da_cons (de_add (DE.p de_int) (DE.p (de_ix (dp_name 1) (DE.p de_int)))) da_nil)) (dg_name 3 nd) (dss_cons (ds_set 11 nd (de_slice (dp_name 1) (do_some (de_add (DE.p de_int) (DE.p (de_mul (DE.p de_int) (dp_name 3))))) (do_some (de_add (DE.p de_int) (DE.p (de_mul (DE.p de_int) (dp_name 3)))))))
      (dss_cons (ds_set 12 nd (de_ix (DF.p (df_lst (da_cons (DF.toE (df_lst (da_cons de_int (da_cons de_int da_nil)))) (da_cons (DF.toE (df_lst (da_cons de_int (da_cons de_int da_nil)))) (da_cons (DF.toE (df_lst (da_cons de_int (da_cons de_int da_nil)))) (da_cons (DF.toE (df_lst (da_cons de_int (da_cons de_int da_nil)))) (da_cons (DF.toE (df_lst (da_cons de_int (da_cons de_int da_nil)))) (da_cons (DF.toE (df_lst (da_cons de_int (da_cons de_int da_nil)))) (da_cons (DF.toE (df_lst (da_cons de_int (da_cons de_int da_nil)))) (da_cons (DF.toE (df_lst (da_cons de_int (da_cons de_int da_nil)))) (da_cons (DF.toE (df_lst (da_cons de_int (da_cons de_int da_nil)))) (da_cons (DF.toE (df_lst (da_cons de_int (da_cons de_int da_nil)))) (da_cons (DF.toE (df_lst (da_cons de_int (da_cons de_int da_nil)))) (da_cons (DF.toE (df_lst (da_cons de_int (da_cons de_int da_nil)))) da_nil)))))))))))))) (DE.p (de_ix (dp_name 11) (DE.p de_int)))))
      (dss_cons (ds_set 13 nd (de_ix (dp_name 11) (DE.p de_int)))
      (dss_cons (ds_if (dt_eq hr (DE.p (de_ix (dp_name 11) (DE.p de_int))) (DE.p de_int)) (dss_one (ds_set 13 nd (de_mod (DE.p (de_ix (dp_name 11) (DE.p de_int))) (DE.p de_int)))) dss_nil)
      (dss_one (ds_append 2 (pe_bm PySem.F.plainAttrs_list PySem.F.slot_list_append PySem.F.type_list_append mt_append (pv 2) (DAr.run (da_cons (DF.toE (df_lst (da_cons (de_name 13) (da_cons (de_max2 rfl rfl T.m_max (DE.p (de_ix (dp_name 11) (DE.p de_int))) (DE.p (de_ix (DF.p (df_lst (da_cons de_int (da_cons de_int da_nil)))) (DE.p (de_intOf rfl T.m_int (DE.p (de_gt (DE.p (de_ix (dp_name 11) (DE.p de_int))) (DE.p de_int)))))))) (da_cons (de_ix (dp_name 12) (DE.p de_int)) (da_cons (de_ix (dp_name 12) (DE.p de_int)) da_nil)))))) da_nil))))))))))
      (dss_cons (ds_set 4 nd (de_add (DE.p de_int) (DE.p (de_ix (dp_name 1) (DE.p de_int)))))
      (dss_cons (ds_set 5 nd (de_add (DE.p de_int) (DE.p (de_ix (dp_name 1) (DE.p de_int)))))
      (dss_cons (ds_set 6 nd (de_ix (DF.p (df_lst (da_cons de_int (da_cons de_int (da_cons de_int (da_cons de_int (da_cons de_int (da_cons de_int (da_cons de_int (da_cons de_int da_nil)))))))))) (DE.p (de_ix (dp_name 1) (DE.p de_int)))))
      (dss_cons (ds_frz [2] (ds_set 7 nd (de_call (ok__law_enough_counts T) (hr.mono (by decide)) rfl (da_cons (de_name 4) (da_cons (de_name 5) (da_cons (de_name 6) (da_cons (de_name 2) da_nil)))))))
      (dss_cons (ds_frz [2] (ds_set 8 nd (de_call (ok__law_best T) (hr.mono (by decide)) rfl (da_cons (de_name 2) (da_cons (de_name 7) da_nil)))))
      (dss_cons (ds_frz [2] (ds_set 9 nd (de_call (ok_cheapest T) (hr.mono (by decide)) rfl (da_cons (de_name 4) (da_cons (de_name 5) (da_cons (de_name 6) (da_cons (DF.toE (df_lc rfl nd (own := [("offer", 14)]) (di_seq (de_name 2)) (by show BlkOk N_law (defScope (top 48)) _ _; exact ⟨rfl, by decide +kernel, by decide +kernel, by decide +kernel, by decide +kernel⟩) (fun _ _ _ _ _ => (dg_name 14 nd)) (fun _ _ _ _ _ => dts_nil) (fun _ _ _ _ _ => (DF.toE (df_listOf rfl T.m_list (dp_name 14)))))) da_nil)))))))
      (dss_cons (ds_if (DW.t (dw_or (dt_isN (dp_name 8)) (dw_or1 (dt_isN (dp_name 9))))) (dss_one (ds_if (DW.t (dw_or (dt_notN (dp_name 8)) (dw_or1 (dt_notN (dp_name 9))))) (dss_one (ds_ret de_bl)) dss_nil)) (dss_cons (ds_if (DW.t (dw_or (dt_not (dt_val (DE.p (de_isi rfl T.m_isinstance (dp_name 9) (DE.p (de_type (n := "tuple") rfl T.m_tuple (by decide +kernel))))))) (dw_or1 (dt_ne hr (DF.p (df_listOf rfl T.m_list (dp_name 9))) (DE.p (de_ix (dp_name 8) (DE.p de_int))))))) (dss_one (ds_ret de_bl)) dss_nil)
      (dss_one (ds_frz [2] (ds_if (DW.t (dw_or (dt_ne hr (DE.p (de_call (ok_hire_price T) (hr.mono (by decide)) rfl (da_cons (de_name 2) (da_cons (de_name 9) da_nil)))) (DE.p (de_ix (dp_name 8) (DE.p de_int)))) (dw_or1 (dt_not (dt_val (DE.p (de_call (ok__law_crew_right T) (hr.mono (by decide)) rfl (da_cons (de_name 2) (da_cons (de_name 9) (da_cons (de_name 6) da_nil)))))))))) (dss_one (ds_ret de_bl)) dss_nil)))))
      (dss_cons (ds_frz [2] (ds_new 10 nd (df_lc rfl nd (own := [("offer", 14)]) (di_seq (de_name 2)) (by show BlkOk N_law (defScope (top 48)) _ _; exact ⟨rfl, by decide +kernel, by decide +kernel, by decide +kernel, by decide +kernel⟩) (fun _ _ _ _ _ => (dg_name 14 nd)) (fun _ _ _ _ _ => dts_nil) (fun _ _ _ _ _ => (de_min2 rfl rfl T.m_min (DE.p (de_ix (dp_name 14) (DE.p de_int))) (DE.p de_int))))))
      (dss_cons (ds_frz [2, 10] (ds_if (dt_ne hr (DE.p (de_call (ok_hire_price T) (hr.mono (by decide)) rfl (da_cons (de_name 2) (da_cons (de_name 10) da_nil)))) (DE.p (de_sum rfl rfl T.m_sum (DF.p (df_lc rfl nd (own := [("k", 3)]) (di_range1 rfl T.m_range (da_cons (de_len rfl T.m_len (dp_name 2)) da_nil)) (by show BlkOk N_law (defScope (top 48)) _ _; exact ⟨rfl, by decide +kernel, by decide +kernel, by decide +kernel, by decide +kernel⟩) (fun _ _ _ _ _ => (dg_name 3 nd)) (fun _ _ _ _ _ => dts_nil) (fun _ _ _ _ _ => (de_mul (DE.p (de_ix (DE.p (de_ix (dp_name 2) (dp_name 3))) (DE.p de_int))) (DE.p (de_ix (dp_name 10) (dp_name 3)))))))))) (dss_one (ds_ret de_bl)) dss_nil))
      (dss_cons (ds_frz [2, 10] (ds_if (dt_not (dt_val (DE.p (de_call (ok__law_crew_right T) (hr.mono (by decide)) rfl (da_cons (de_name 2) (da_cons (de_name 10) (da_cons (de_name 6) da_nil))))))) (dss_one (ds_ret de_bl)) dss_nil))
      (dss_one (ds_frz [2] (ds_ret (de_call (ok__law_bound_right T) (hr.mono (by decide)) rfl (da_cons (de_name 4) (da_cons (de_name 5) (da_cons (de_name 6) (da_cons (de_name 2) (da_cons (de_name 7) (da_cons (de_mod (DE.p (de_ix (dp_name 1) (DE.p de_int))) (DE.p (de_len rfl T.m_len (dp_name 2)))) da_nil))))))))))))))))))))))))⟩
end
end K75
namespace DL
open PySem PySem.Spec PyProof.Rows L2

/-! ### the functions, evaluated -/
section
variable {ρ : DEnv} {i : Nat} {f fa fb fc fe : FE} {fs : FA} {t u : FT} {g : D → D → Option D} {s s' : FS} {d x y : D} {a b : Int}
@[simp] theorem ev_name : eName i ρ = (match ρ[i]? with | some (some (.val d)) => some d | _ => none) := rfl
@[simp] theorem ev_pname : pName i ρ = (match ρ[i]? with | some (some (.val d)) => some d | some (some (.own d)) => some d | _ => none) := rfl
@[simp] theorem ev_k : eK d ρ = some d := rfl
@[simp] theorem ev_bin : eBin g fa fb ρ = (fa ρ).bind fun x => (fb ρ).bind fun y => g x y := rfl
@[simp] theorem ev_un {g : D → Option D} : eUn g fa ρ = (fa ρ).bind g := rfl
@[simp] theorem ev_cb {g : List D → Option D} : eCB g fs ρ = (fs ρ).bind g := rfl
@[simp] theorem ev_nil : aNil ρ = some [] := rfl
@[simp] theorem ev_cons : aCons f fs ρ = (f ρ).bind fun d => (fs ρ).bind fun ds => some (d :: ds) := rfl
@[simp] theorem ev_tup : eTup fs ρ = (fs ρ).map D.tup := rfl
@[simp] theorem ev_lst : eLst fs ρ = (fs ρ).map D.lst := rfl
@[simp] theorem ev_if : eIf t fa fb ρ = (t ρ).bind fun b => if b then fa ρ else fb ρ := rfl
@[simp] theorem ev_bool : tBool f ρ = (match f ρ with | some (.bl b) => some b | _ => none) := rfl
@[simp] theorem ev_and : eAnd fa fb ρ = (tBool fa ρ).bind fun b => if b then fb ρ else some (.bl false) := rfl
@[simp] theorem ev_or : eOr fa fb ρ = (tBool fa ρ).bind fun b => if b then some (.bl true) else fb ρ := rfl
@[simp] theorem ev_not : eNot fa ρ = (tBool fa ρ).map fun b => .bl (!b) := rfl
@[simp] theorem ev_tand : tAnd t u ρ = (t ρ).bind fun b => if b then u ρ else some false := rfl
@[simp] theorem ev_tor : tOr t u ρ = (t ρ).bind fun b => if b then some true else u ρ := rfl
@[simp] theorem ev_tnot : tNot t ρ = (t ρ).map (!·) := rfl
@[simp] theorem ev_sl {fl fh : FO} : eSl fa fl fh ρ = (fa ρ).bind fun x => (fl ρ).bind fun l => (fh ρ).bind fun h => gSl x l h := rfl
@[simp] theorem ev_sll {fl fh : FO} : eSlL fa fl fh ρ = (fa ρ).bind fun x => (fl ρ).bind fun l => (fh ρ).bind fun h => gSlL x l h := rfl
@[simp] theorem ev_onone : oNone ρ = some none := rfl
@[simp] theorem ev_osome : oSome f ρ = (match f ρ with | some (.int i) => some (some i) | _ => none) := rfl
@[simp] theorem ev_chain {g' : D → D → Option D} : eChain g g' fa fb fc ρ = (fa ρ).bind fun x => (fb ρ).bind fun y => (g x y).bind fun z => match z with | .bl true => (fc ρ).bind fun w => g' y w | .bl false => some (.bl false) | _ => none := rfl
@[simp] theorem ev_call {F : FF} {dds : List D} {n : Nat} {fa : FA} : eCall F dds n fa ρ = (fa ρ).bind fun ds => if (ds ++ dds).length = n then F (ds ++ dds) else none := rfl
@[simp] theorem ev_make {F : FIn} {c : Str} {dds : List D} {n : Nat} {fa : FA} : eMake c F dds n fa ρ = (fa ρ).bind fun ds => if (ds ++ dds).length = n then (F (ds ++ dds)).map fun q => .obj c q.1 q.2 else none := rfl
@[simp] theorem ev_meth {c m : Str} {F : FF} {dds : List D} {n : Nat} {fo : FE} {fa : FA} : eMeth c m F dds n fo fa ρ = (match fo ρ with
  | some (.obj c' ns xs) => if c' = c ∧ m ∉ ns then (fa ρ).bind fun ds => if (D.obj c' ns xs :: (ds ++ dds)).length = n then F (.obj c' ns xs :: (ds ++ dds)) else none else none
  | _ => none) := rfl
@[simp] theorem ev_fld {cs : List Str} {f : Str} : eFld cs f fa ρ = (fa ρ).bind fun x => match x with
  | .obj c ns xs => if c ∈ cs then lookD ns xs f else none
  | _ => none := rfl
/-! statements -/
@[simp] theorem ev_pass : xPass ρ = .nx ρ := rfl
@[simp] theorem ev_seq : xSeq s s' ρ = (match s ρ with | .nx ρ' => s' ρ' | r => r) := rfl
@[simp] theorem ev_xif : xIf t s s' ρ = (match t ρ with | some true => s ρ | some false => s' ρ | none => .bad) := rfl
@[simp] theorem ev_ret : xRet f ρ = (match f ρ with | some d => .rt d | none => .bad) := rfl
@[simp] theorem ev_set : xSet i f ρ = (match f ρ with | some d => .nx (ρ.set i (some (.val d))) | none => .bad) := rfl
@[simp] theorem ev_new : xNew i f ρ = (match f ρ with | some d => if i ≠ 0 ∨ isObjD d = false then .nx (ρ.set i (some (.own d))) else .bad | none => .bad) := rfl
@[simp] theorem ev_frz0 : xFrz [] s ρ = s ρ := rfl
@[simp] theorem ev_frz {l : List Nat} : xFrz (i :: l) s ρ = xFrz l s (frzAt i ρ) := rfl
@[simp] theorem ev_frzAt : frzAt i ρ = (match ρ[i]? with | some (some (.own d)) => ρ.set i (some (.val d)) | _ => ρ) := rfl
@[simp] theorem ev_app : xApp i f ρ = (match f ρ, ρ[i]? with
  | some d, some (some (.own (.lst ds))) => if ds.length < sizeLine then .nx (ρ.set i (some (.own (.lst (ds ++ [d]))))) else .bad
  | _, _ => .bad) := rfl
@[simp] theorem ev_ext : xExt i f ρ = (match f ρ, ρ[i]? with
  | some (.lst es), some (some (.own (.lst ds))) => if ds.length + es.length ≤ sizeLine then .nx (ρ.set i (some (.own (.lst (ds ++ es))))) else .bad
  | _, _ => .bad) := rfl
@[simp] theorem ev_put {fi : FE} : xPut i fi f ρ = (match f ρ, fi ρ, ρ[i]? with
  | some d, some (.int k), some (some (.own (.lst ds))) => (match ixN ds.length k with
    | some j => .nx (ρ.set i (some (.own (.lst (ds.set j d)))))
    | none => .bad)
  | _, _, _ => .bad) := rfl
@[simp] theorem ev_aug {h : D → D → Option D} : xAug i h f ρ = (match (eName i ρ).bind fun x => (f ρ).bind fun y => h x y with
  | some d => .nx (ρ.set i (some (.val d)))
  | none => .bad) := rfl
@[simp] theorem ev_asg {g : FG} : xAsg f g ρ = (match (f ρ).bind fun d => g d ρ with | some ρ' => .nx ρ' | none => .bad) := rfl
@[simp] theorem ev_xfld {cs : List Str} {n : Str} : xFld i cs n f ρ = (match f ρ, ρ[i]? with
  | some d, some (some (.own (.obj c ns ds))) => if c ∈ cs ∧ ns.length < 1000 then .nx (ρ.set i (some (.own (.obj c (setF n d ns ds).1 (setF n d ns ds).2)))) else .bad
  | _, _ => .bad) := rfl
@[simp] theorem ev_for {fi : FI} {g : FG} : xFor fi g s ρ = (match fi ρ with | some ds => forL g s ds ρ | none => .bad) := rfl
@[simp] theorem ev_never : xNever ρ = .bad := rfl
/-! targets -/
@[simp] theorem ev_gname : gtName i d ρ = some (ρ.set i (some (.val d))) := rfl
@[simp] theorem ev_gnil : gtNil [] ρ = some ρ := rfl
@[simp] theorem ev_gcons {g : FG} {gs : FGs} {ds : List D} : gtCons g gs (d :: ds) ρ = (g d ρ).bind fun ρ' => gs ds ρ' := rfl
@[simp] theorem ev_gtup {n : Nat} {gs : FGs} {ds : List D} : gtTup n gs (.tup ds) ρ = if ds.length = n then gs ds ρ else none := rfl
@[simp] theorem ev_glst {n : Nat} {gs : FGs} {ds : List D} : gtTup n gs (.lst ds) ρ = if ds.length = n then gs ds ρ else none := rfl
/-! sources -/
@[simp] theorem ev_iseq : iSeq f ρ = (match f ρ with | some (.lst ds) => some ds | some (.tup ds) => some ds | _ => none) := rfl
@[simp] theorem ev_izip {fa : FA} : iZip fa ρ = (match fa ρ with | some [x, y] => (sqD x).bind fun a => (sqD y).map fun b => zip2D a.2 b.2 | _ => none) := rfl
@[simp] theorem ev_ienum : iEnumD f ρ = (f ρ).bind fun x => (sqD x).map fun a => enumD a.2 := rfl
@[simp] theorem ev_irange {fa : FA} : iRange fa ρ = (match fa ρ with
  | some [.int j] => if smallI j = true then some (rangeD 0 1 j.toNat) else none
  | some [.int i, .int j] => if (smallI i && smallI j) = true then some (rangeD i 1 (j - i).toNat) else none
  | some [.int i, .int j, .int c] => if (smallI i && smallI j) = true ∧ c = -1 then some (rangeD i (-1) (i - j).toNat) else none
  | _ => none) := rfl
@[simp] theorem sqD_l {l : List D} : sqD (.lst l) = some (false, l) := rfl
@[simp] theorem sqD_t {l : List D} : sqD (.tup l) = some (true, l) := rfl
@[simp] theorem ev_lc {fi : FI} {vs : List Nat} {g : FG} : eLc fi vs g t fe ρ = (fi ρ).bind fun ds => (lcL g t fe (wipeD ρ vs) ds).bind fun ys => if ys.length ≤ sizeLine then some (.lst ys) else none := rfl
@[simp] theorem ev_yes : tYesD ρ = some true := rfl
/-! whole numbers -/
@[simp] theorem ev_add : gAdd (.int a) (.int b) = some (.int (a + b)) := rfl
@[simp] theorem ev_sub : gSub (.int a) (.int b) = some (.int (a - b)) := rfl
@[simp] theorem ev_addI : gAddI (.int a) (.int b) = some (.int (a + b)) := rfl
@[simp] theorem ev_mul : gMul (.int a) (.int b) = if CMul a b then some (.int (a * b)) else none := rfl
@[simp] theorem ev_div : gDiv (.int a) (.int b) = if CDiv a b then some (.int (a / b)) else none := rfl
@[simp] theorem ev_mod : gMod (.int a) (.int b) = if 0 < b then some (.int (a % b)) else none := rfl
@[simp] theorem ev_neg : gNeg (.int a) = some (.int (-a)) := rfl
@[simp] theorem ev_lt : gLt (.int a) (.int b) = some (.bl (decide (a < b))) := rfl
@[simp] theorem ev_le : gLe (.int a) (.int b) = some (.bl (decide (a ≤ b))) := rfl
@[simp] theorem ev_gt : gGt (.int a) (.int b) = some (.bl (decide (b < a))) := rfl
@[simp] theorem ev_ge : gGe (.int a) (.int b) = some (.bl (decide (b ≤ a))) := rfl
@[simp] theorem ev_isN : gIsN x .non = some (.bl (isNon x)) := rfl
@[simp] theorem ev_notN : gNotN x .non = some (.bl (!isNon x)) := rfl
@[simp] theorem isNon_non : isNon .non = true := rfl
@[simp] theorem isNon_tup {l : List D} : isNon (.tup l) = false := rfl
@[simp] theorem isNon_lst {l : List D} : isNon (.lst l) = false := rfl
@[simp] theorem isNon_int : isNon (.int a) = false := rfl
@[simp] theorem ev_max2 : gMax2 [.int a, .int b] = some (.int (if b > a then b else a)) := rfl
@[simp] theorem ev_min2 : gMin2 [.int a, .int b] = some (.int (if b < a then b else a)) := rfl
@[simp] theorem ev_int : gInt [.int a] = some (.int a) := rfl
@[simp] theorem ev_intb {b : Bool} : gInt [.bl b] = some (.int (if b then 1 else 0)) := rfl
@[simp] theorem ev_tuple_l {l : List D} : gTuple [.lst l] = some (.tup l) := rfl
@[simp] theorem ev_tuple_t {l : List D} : gTuple [.tup l] = some (.tup l) := rfl
@[simp] theorem ev_list_l {l : List D} : gList [.lst l] = some (.lst l) := rfl
@[simp] theorem ev_list_t {l : List D} : gList [.tup l] = some (.lst l) := rfl
@[simp] theorem ev_isobj_l {l : List D} : isObjD (.lst l) = false := rfl
@[simp] theorem ev_isobj_d {ks : List (List Key)} {l : List D} : isObjD (.dic ks l) = false := rfl
theorem cmul_l (h : a.natAbs < 2 ^ 64) : CMul a b := .inl ⟨by omega, by omega⟩
theorem cmul_r (h : b.natAbs < 2 ^ 64) : CMul a b := .inr ⟨by omega, by omega⟩
theorem cdiv_of (h : 0 < b) (h' : b < 1073741824) : CDiv a b := ⟨h, h'⟩
end

/-! ### loops and comprehensions -/
/-- a comprehension whose turns are known -/
theorem lcL_map {α : Type} {g : FG} {t : FT} {fe : FE} {ρ : DEnv} (enc : α → D) (p : α → Bool) (h : α → D) : ∀ (xs : List α), (∀ x ∈ xs, ∃ ρ1, g (enc x) ρ = some ρ1 ∧ t ρ1 = some (p x) ∧ (p x = true → fe ρ1 = some (h x))) →
    lcL g t fe ρ (xs.map enc) = some ((xs.filter p).map h)
  | [], _ => rfl
  | x :: xs, hx => by
    obtain ⟨ρ1, e1, e2, e3⟩ := hx x (List.mem_cons_self ..)
    have ih := lcL_map enc p h xs fun y hy => hx y (List.mem_cons_of_mem _ hy)
    rw [List.map_cons]
    unfold lcL
    rw [e1, Option.bind_some, e2, Option.bind_some, ih]
    cases q : p x with
    | true => rw [if_pos rfl, e3 q, Option.bind_some, List.filter_cons_of_pos q]; rfl
    | false => rw [if_neg Bool.false_ne_true, List.filter_cons_of_neg (by rw [q]; exact Bool.false_ne_true)]
theorem lcL_all {α : Type} {g : FG} {fe : FE} {ρ : DEnv} (enc : α → D) (h : α → D) (xs : List α) (hx : ∀ x ∈ xs, ∃ ρ1, g (enc x) ρ = some ρ1 ∧ fe ρ1 = some (h x)) : lcL g tYesD fe ρ (xs.map enc) = some (xs.map h) := by
  rw [lcL_map enc (fun _ => true) h xs fun x m => by obtain ⟨ρ1, e1, e2⟩ := hx x m; exact ⟨ρ1, e1, rfl, fun _ => e2⟩]
  rw [List.filter_eq_self.mpr fun _ _ => rfl]
/-- a loop that goes through: Iv says what the slots hold ahead of the turn -/
theorem forL_fold {α S : Type} {g : FG} {fb : FS} (enc : α → D) (step : S → α → S) (Iv : S → DEnv → Prop) : ∀ (xs : List α) (s : S) (ρ : DEnv), Iv s ρ →
    (∀ x ∈ xs, ∀ s ρ, Iv s ρ → ∃ ρ1 ρ2, g (enc x) ρ = some ρ1 ∧ fb ρ1 = .nx ρ2 ∧ Iv (step s x) ρ2) → ∃ ρ', forL g fb (xs.map enc) ρ = .nx ρ' ∧ Iv (xs.foldl step s) ρ'
  | [], s, ρ, h, _ => ⟨ρ, rfl, h⟩
  | x :: xs, s, ρ, h, hs => by
    obtain ⟨ρ1, ρ2, e1, e2, h2⟩ := hs x (List.mem_cons_self ..) s ρ h
    obtain ⟨ρ', e3, h3⟩ := forL_fold enc step Iv xs (step s x) ρ2 h2 fun y hy => hs y (List.mem_cons_of_mem _ hy)
    refine ⟨ρ', ?_, h3⟩
    rw [List.map_cons]
    unfold forL
    rw [e1]
    dsimp only
    rw [e2]
    exact e3
/-- a loop that may return -/
theorem forL_find {α : Type} {g : FG} {fb : FS} (enc : α → D) (r : α → Option D) (Iv : DEnv → Prop) : ∀ (xs : List α) (ρ : DEnv), Iv ρ →
    (∀ x ∈ xs, ∀ ρ, Iv ρ → ∃ ρ1, g (enc x) ρ = some ρ1 ∧ match r x with | some d => fb ρ1 = .rt d | none => ∃ ρ2, fb ρ1 = .nx ρ2 ∧ Iv ρ2) →
    match xs.findSome? r with | some d => forL g fb (xs.map enc) ρ = .rt d | none => ∃ ρ', forL g fb (xs.map enc) ρ = .nx ρ' ∧ Iv ρ'
  | [], ρ, h, _ => ⟨ρ, rfl, h⟩
  | x :: xs, ρ, h, hs => by
    obtain ⟨ρ1, e1, e2⟩ := hs x (List.mem_cons_self ..) ρ h
    rw [List.map_cons, List.findSome?_cons]
    cases q : r x with
    | some d =>
      rw [q] at e2
      dsimp only at e2 ⊢
      unfold forL
      rw [e1]
      dsimp only
      rw [e2]
    | none =>
      rw [q] at e2
      obtain ⟨ρ2, e2, h2⟩ := e2
      have ih := forL_find enc r Iv xs ρ2 h2 fun y hy => hs y (List.mem_cons_of_mem _ hy)
      dsimp only
      unfold forL
      rw [e1]
      dsimp only
      rw [e2]
      exact ih
/-! ### encodings -/
abbrev lI (ns : List Int) : D := .lst (ns.map D.int)
abbrev tI (ns : List Int) : D := .tup (ns.map D.int)
theorem rangeD_eq {lo c : Int} {n : Nat} : rangeD lo c n = ((List.range n).map fun k => lo + (k : Nat) * c).map D.int := by unfold rangeD; rw [List.map_map]; rfl
theorem rangeD_nat {n : Nat} : rangeD 0 1 n = (List.range n).map fun k : Nat => D.int (k : Int) := by unfold rangeD; simp
theorem zip2D_map {α β : Type} {f : α → D} {h : β → D} : ∀ (xs : List α) (ys : List β), zip2D (xs.map f) (ys.map h) = (xs.zip ys).map fun q => .tup [f q.1, h q.2]
  | [], ys => by simp [zip2D]
  | x :: xs, [] => by simp [zip2D]
  | x :: xs, y :: ys => by
    have := zip2D_map (f := f) (h := h) xs ys
    unfold zip2D at this ⊢
    simp [this]
theorem enumD_map {α : Type} {f : α → D} (xs : List α) : enumD (xs.map f) = ((List.range xs.length).zip xs).map fun q => .tup [.int (q.1 : Nat), f q.2] := by
  unfold enumD
  rw [List.length_map]
  generalize List.range xs.length = ks
  induction ks generalizing xs with
  | nil => simp
  | cons k ks ih =>
    cases xs with
    | nil => simp
    | cons x xs => simp [ih]
/-- a loop that pushes -/
theorem forL_push {α : Type} {g : FG} {fb : FS} (enc : α → D) (h : α → List D) (Iv : List D → DEnv → Prop) : ∀ (xs : List α) (acc : List D) (ρ : DEnv), Iv acc ρ → (acc ++ xs.flatMap h).length ≤ sizeLine →
    (∀ x ∈ xs, ∀ acc ρ, Iv acc ρ → acc.length + (h x).length ≤ sizeLine → ∃ ρ1 ρ2, g (enc x) ρ = some ρ1 ∧ fb ρ1 = .nx ρ2 ∧ Iv (acc ++ h x) ρ2) → ∃ ρ', forL g fb (xs.map enc) ρ = .nx ρ' ∧ Iv (acc ++ xs.flatMap h) ρ'
  | [], acc, ρ, h0, _, _ => ⟨ρ, rfl, by simpa using h0⟩
  | x :: xs, acc, ρ, h0, hz, hs => by
    rw [List.flatMap_cons, ← List.append_assoc] at hz
    have hz1 : acc.length + (h x).length ≤ sizeLine := by simp only [List.length_append] at hz; omega
    obtain ⟨ρ1, ρ2, e1, e2, h2⟩ := hs x (List.mem_cons_self ..) acc ρ h0 hz1
    obtain ⟨ρ', e3, h3⟩ := forL_push enc h Iv xs (acc ++ h x) ρ2 h2 hz fun y hy => hs y (List.mem_cons_of_mem _ hy)
    refine ⟨ρ', ?_, by rw [List.flatMap_cons, ← List.append_assoc]; exact h3⟩
    rw [List.map_cons]
    unfold forL
    rw [e1]
    dsimp only
    rw [e2]
    exact e3
theorem flatMap_le {α β : Type} {f : α → List β} {n : Nat} : ∀ {l : List α}, (∀ x ∈ l, (f x).length ≤ n) → (l.flatMap f).length ≤ l.length * n
  | [], _ => by simp
  | x :: l, h => by
    rw [List.flatMap_cons, List.length_append, List.length_cons, Nat.succ_mul]
    have h1 := h x (List.mem_cons_self ..)
    have h2 := flatMap_le (l := l) fun y hy => h y (List.mem_cons_of_mem _ hy)
    omega
theorem foldl_zip {α β γ : Type} (f : γ → α → β → γ) (da : α) (db : β) : ∀ (xs : List α) (ys : List β) (c : γ), xs.length = ys.length → (List.range xs.length).foldl (fun c k => f c (xs.getD k da) (ys.getD k db)) c = (xs.zip ys).foldl (fun c p => f c p.1 p.2) c
  | [], [], _, _ => rfl
  | [], y :: ys, _, h => by simp at h
  | x :: xs, [], _, h => by simp at h
  | x :: xs, y :: ys, c, h => by
    rw [List.length_cons, List.range_succ_eq_map, List.foldl_cons, List.zip_cons_cons, List.foldl_cons, List.foldl_map]
    exact foldl_zip f da db xs ys (f c x y) (by simpa using h)
theorem smallI_of {n : Int} (h1 : -1000000 ≤ n) (h2 : n ≤ 1000000) : smallI n = true := Nat.ble_eq_true_of_le (by omega)
theorem short_of {n : Nat} (h : n ≤ 16777216) : n ≤ sizeLine := by rw [sizeLine_eq]; exact h
theorem gIx_lst {α : Type} {f : α → D} {xs : List α} {k : Nat} {d : α} (h : k < xs.length) : gIx (.lst (xs.map f)) (.int (k : Nat)) = some (f (xs.getD k d)) := by
  show atI (xs.map f) (k : Int) = _
  unfold atI ixN
  simp [h]
theorem gIx_tup {α : Type} {f : α → D} {xs : List α} {k : Nat} {d : α} (h : k < xs.length) : gIx (.tup (xs.map f)) (.int (k : Nat)) = some (f (xs.getD k d)) := by
  show atI (xs.map f) (k : Int) = _
  unfold atI ixN
  simp [h]
/-- the same by the turn's number -/
theorem forL_ix {α S : Type} {g : FG} {fb : FS} (enc : α → D) (step : S → α → S) (Iv : Nat → S → DEnv → Prop) : ∀ (xs : List α) (n : Nat) (s : S) (ρ : DEnv), Iv n s ρ →
    (∀ (i : Nat) (x : α), xs[i]? = some x → ∀ s ρ, Iv (n + i) s ρ → ∃ ρ1 ρ2, g (enc x) ρ = some ρ1 ∧ fb ρ1 = .nx ρ2 ∧ Iv (n + i + 1) (step s x) ρ2) → ∃ ρ', forL g fb (xs.map enc) ρ = .nx ρ' ∧ Iv (n + xs.length) (xs.foldl step s) ρ'
  | [], n, s, ρ, h, _ => ⟨ρ, rfl, h⟩
  | x :: xs, n, s, ρ, h, hs => by
    obtain ⟨ρ1, ρ2, e1, e2, h2⟩ := hs 0 x rfl s ρ h
    obtain ⟨ρ', e3, h3⟩ := forL_ix enc step Iv xs (n + 1) (step s x) ρ2 h2 fun i y hy s ρ hI => by
      have := hs (i + 1) y (by simpa using hy) s ρ (by rw [← Nat.add_assoc, Nat.add_right_comm]; exact hI)
      rw [← Nat.add_assoc, Nat.add_right_comm n i 1] at this
      exact this
    refine ⟨ρ', ?_, by rw [List.length_cons, ← Nat.add_assoc, Nat.add_right_comm]; exact h3⟩
    rw [List.map_cons]
    unfold forL
    rw [e1]
    dsimp only
    rw [e2]
    exact e3
theorem fn_rt {N : Nat} {f : FS} {ds : List D} {d : D} {ρ : DEnv} (h0 : startD N ds = ρ) (h : f ρ = .rt d) : fnOfS N f ds = some d := by
  subst h0; unfold fnOfS; rw [h]
theorem fn_nx {N : Nat} {f : FS} {ds : List D} {ρ ρ' : DEnv} (h0 : startD N ds = ρ) (h : f ρ = .nx ρ') : fnOfS N f ds = some .non := by
  subst h0; unfold fnOfS; rw [h]
@[simp] theorem gLen_l {l : List D} : gLen [.lst l] = some (.int l.length) := rfl
@[simp] theorem gLen_t {l : List D} : gLen [.tup l] = some (.int l.length) := rfl
end DL
namespace K75
open PySem PySem.Spec PyProof.Rows L2 DL

/-! ### takes -/
def tkn (s : Int) (k : Nat) : Int := if k = 0 then 0 else k + s
abbrev Tk := Int × List Int
def tkOne (s h : Int) (q : Tk) (k : Nat) : List Tk := if tkn s k ≤ h then [(q.1 + k, q.2 ++ [tkn s k])] else []
def tkStep (need s h : Int) (acc : List Tk) : List Tk := acc.flatMap fun q => (List.range (need - q.1 + 1).toNat).flatMap (tkOne s h q)
def tkAll (need : Int) (l : List (Int × Int)) : List Tk := l.foldl (fun a p => tkStep need p.1 p.2 a) [(0, [])]
def takes (sl : List Int) (need : Int) (hv : List Int) : List (List Int) := ((tkAll need (sl.zip hv)).filter fun q => q.1 == need).map (·.2)
def TkOk (need : Int) (j : Nat) (acc : List Tk) : Prop := ∀ q ∈ acc, 0 ≤ q.1 ∧ q.1 ≤ need ∧ q.2.length = j
theorem tkStep_ok {need s h : Int} {j : Nat} {acc : List Tk} (ok : TkOk need j acc) : TkOk need (j + 1) (tkStep need s h acc) := fun q hq => by
  unfold tkStep at hq
  obtain ⟨p, hp, hq⟩ := List.mem_flatMap.mp hq
  obtain ⟨k, hk, hq⟩ := List.mem_flatMap.mp hq
  have hp := ok p hp
  have hk : k < (need - p.1 + 1).toNat := List.mem_range.mp hk
  unfold tkOne at hq
  split at hq
  · have : q = (p.1 + k, p.2 ++ [tkn s k]) := by simpa using hq
    rw [this]
    exact ⟨by show 0 ≤ p.1 + (k : Int); omega, by show p.1 + (k : Int) ≤ need; omega, by simp [hp.2.2]⟩
  · cases hq
theorem tkStep_len {need s h : Int} {j : Nat} {acc : List Tk} (ok : TkOk need j acc) (hn : need ≤ 13) : (tkStep need s h acc).length ≤ acc.length * 14 := by
  unfold tkStep
  refine flatMap_le fun q hq => ?_
  have := ok q hq
  refine Nat.le_trans (flatMap_le (n := 1) fun k _ => ?_) ?_
  · unfold tkOne; split <;> simp
  · rw [List.length_range]; omega
def encL (q : Tk) : D := .lst [.int q.1, lI q.2]
def encT (need : Int) (q : Tk) : D := .tup [tI q.2, .int (need - q.1)]
theorem lI_snoc (l : List Int) (n : Int) : gAdd (lI l) (.lst [.int n]) = if l.length + 1 ≤ sizeLine then some (lI (l ++ [n])) else none := by
  show (if (l.map D.int).length + _ ≤ sizeLine then _ else _) = _
  simp [lI]
theorem tI_snoc (l : List Int) (n : Int) : gAdd (tI l) (.tup [.int n]) = if l.length + 1 ≤ sizeLine then some (tI (l ++ [n])) else none := by
  show (if (l.map D.int).length + _ ≤ sizeLine then _ else _) = _
  simp [tI]
theorem map_flat {α β : Type} (e : β → D) (f : α → List β) (l : List α) : (l.flatMap f).map e = l.flatMap fun x => (f x).map e := by rw [List.map_flatMap]
theorem eqD_int {a b : Int} : gEq (.int a) (.int b) = some (.bl (a == b)) := gEq_int
theorem foldl_inv {α S : Type} (P : S → Prop) (f : S → α → S) : ∀ (l : List α) (s : S), P s → (∀ s x, x ∈ l → P s → P (f s x)) → P (l.foldl f s)
  | [], s, h, _ => h
  | x :: l, s, h, hs => foldl_inv P f l (f s x) (hs s x (List.mem_cons_self ..) h) fun s y hy => hs s y (List.mem_cons_of_mem _ hy)
def tkJ (need : Int) (st : Nat × List Tk) (p : Int × Int) : Nat × List Tk := (st.1 + 1, tkStep need p.1 p.2 st.2)
theorem tkJ_snd (need : Int) : ∀ (l : List (Int × Int)) (st : Nat × List Tk), (l.foldl (tkJ need) st).2 = l.foldl (fun a p => tkStep need p.1 p.2 a) st.2 ∧ (l.foldl (tkJ need) st).1 = st.1 + l.length
  | [], st => ⟨rfl, rfl⟩
  | p :: l, st => by
    have := tkJ_snd need l (tkJ need st p)
    simp only [List.foldl_cons, List.length_cons]
    exact ⟨this.1, by rw [this.2]; unfold tkJ; simp; omega⟩
theorem tk0_ok {need : Int} (h0 : 0 ≤ need) : TkOk need 0 [(0, [])] := fun q hq => by
  have e : q = (0, []) := by simpa using hq
  rw [e]
  exact ⟨Int.le_refl _, h0, rfl⟩
theorem tkAll_ok {need : Int} (h0 : 0 ≤ need) (l : List (Int × Int)) : TkOk need l.length (tkAll need l) := by
  have h := foldl_inv (fun st : Nat × List Tk => TkOk need st.1 st.2) (tkJ need) l (0, [(0, [])]) (tk0_ok h0) fun st p _ ok => tkStep_ok ok
  have e := tkJ_snd need l (0, [(0, [])])
  rw [e.1, e.2] at h
  simpa [tkAll] using h
theorem tkAll_len {need : Int} (h0 : 0 ≤ need) (hn : need ≤ 13) (l : List (Int × Int)) : (tkAll need l).length ≤ 14 ^ l.length := by
  have h := foldl_inv (fun st : Nat × List Tk => TkOk need st.1 st.2 ∧ st.2.length ≤ 14 ^ st.1) (tkJ need) l (0, [(0, [])]) ⟨tk0_ok h0, by simp⟩ fun st p _ ok => ⟨tkStep_ok ok.1, by
      have := tkStep_len (s := p.1) (h := p.2) ok.1 hn
      show (tkStep need p.1 p.2 st.2).length ≤ 14 ^ (st.1 + 1)
      rw [Nat.pow_succ]
      have h2 := Nat.mul_le_mul_right 14 ok.2
      omega⟩
  have e := tkJ_snd need l (0, [(0, [])])
  rw [e.1, e.2] at h
  simpa [tkAll] using h.2
/-- the turn of _law_takes over one pair -/
theorem lt_turn (sl hv : List Int) (need : Int) (j : Nat) (acc : List Tk) (k : Nat) (s h : Int) (g1 : gIx (lI sl) (.int (k : Nat)) = some (.int s)) (g2 : gIx (lI hv) (.int (k : Nat)) = some (.int h)) (h0 : 0 ≤ need) (hn : need ≤ 13) (hj : j ≤ 3) (ok : TkOk need j acc) (hl : acc.length ≤ 14 ^ j) (hsk : 0 ≤ s ∧ s ≤ 100)
    (a b c d : Option Sl) : ∃ a' b' c' d', B__law_takes_3 [some (.val (lI sl)), some (.val (.int need)), some (.val (lI hv)), some (.val (.lst (acc.map encL))), some (.val (.int (k : Nat))), a, b, c, d] =
      .nx [some (.val (lI sl)), some (.val (.int need)), some (.val (lI hv)), some (.val (.lst ((tkStep need s h acc).map encL))), some (.val (.int (k : Nat))), a', b', c', d'] := by
  have hlen := tkStep_len (s := s) (h := h) ok hn
  have h14 : 14 ^ j ≤ 14 ^ 3 := Nat.pow_le_pow_right (by decide) hj
  have loop : ∀ ρ : DEnv, (∃ b c d, ρ = [some (.val (lI sl)), some (.val (.int need)), some (.val (lI hv)), some (.val (.lst (acc.map encL))), some (.val (.int (k : Nat))), some (.own (.lst [])), b, c, d]) →
      ∃ ρ', forL (gtName 6) B__law_takes_2 (acc.map encL) ρ = .nx ρ' ∧ ∃ b c d, ρ' = [some (.val (lI sl)), some (.val (.int need)), some (.val (lI hv)), some (.val (.lst (acc.map encL))), some (.val (.int (k : Nat))), some (.own (.lst ((tkStep need s h acc).map encL))), b, c, d] := by
    intro ρ hρ
    have P := forL_push (g := gtName 6) (fb := B__law_takes_2) encL (fun q => ((List.range (need - q.1 + 1).toNat).flatMap (tkOne s h q)).map encL)
      (fun l ρ => ∃ b c d, ρ = [some (.val (lI sl)), some (.val (.int need)), some (.val (lI hv)), some (.val (.lst (acc.map encL))), some (.val (.int (k : Nat))), some (.own (.lst l)), b, c, d]) acc [] ρ hρ ?_ ?_
    · obtain ⟨ρ', e1, e2⟩ := P
      refine ⟨ρ', e1, ?_⟩
      rw [List.nil_append, ← map_flat] at e2
      exact e2
    · rw [List.nil_append, ← map_flat, List.length_map]
      exact short_of (by show (tkStep need s h acc).length ≤ _; omega)
    · rintro q hq l ρ ⟨b, c, d, rfl⟩ hz
      obtain ⟨q0, q1, q2⟩ := ok q hq
      have inner := forL_push (g := gtName 7) (fb := B__law_takes_1) (fun i : Nat => D.int (i : Int)) (fun i => (tkOne s h q i).map encL)
        (fun l ρ => ∃ c d, ρ = [some (.val (lI sl)), some (.val (.int need)), some (.val (lI hv)), some (.val (.lst (acc.map encL))), some (.val (.int (k : Nat))), some (.own (.lst l)), some (.val (encL q)), c, d]) (List.range (need - q.1 + 1).toNat) l _ ⟨c, d, rfl⟩ ?_ ?_
      · obtain ⟨ρ2, e1, c', d', rfl⟩ := inner
        refine ⟨_, _, rfl, ?_, ⟨some (.val (encL q)), c', d', by rw [map_flat]⟩⟩
        have hsm : smallI (need - q.1 + 1) = true := smallI_of (by omega) (by omega)
        have hg : gIx (encL q) (.int 0) = some (.int q.1) := rfl
        unfold B__law_takes_2
        simp [hg, hsm, rangeD_nat]
        exact e1
      · rw [← map_flat, List.length_append]
        exact hz
      · rintro i hi l ρ ⟨c, d, rfl⟩ hz2
        have hi : i < (need - q.1 + 1).toNat := List.mem_range.mp hi
        have g3 : gIx (encL q) (.int 0) = some (.int q.1) := rfl
        have g4 : gIx (encL q) (.int 1) = some (lI q.2) := rfl
        have hm : CMul s (if 0 < i then 1 else 0) := cmul_l (by omega)
        have e : (i : Int) + s * (if 0 < i then 1 else 0) = tkn s i := by
          unfold tkn
          by_cases c : i = 0
          · subst c; simp
          · have h2 : 0 < i := Nat.pos_of_ne_zero c
            simp [c, h2]
        have hsz : q.2.length + 1 ≤ sizeLine := short_of (by omega)
        unfold B__law_takes_1 tkOne
        by_cases c : tkn s i ≤ h
        · have hz3 : l.length < sizeLine := by
            unfold tkOne at hz2
            rw [if_pos c] at hz2
            simp at hz2
            omega
          have hE : D.lst [D.int (q.1 + i), lI (q.2 ++ [tkn s i])] = encL (q.1 + i, q.2 ++ [tkn s i]) := rfl
          simp [g1, g2, g3, g4, hm, e, c, lI_snoc, hsz, hz3, hE]
        · simp [g1, g2, g3, g4, hm, e, c]
  obtain ⟨ρ', e1, b', c', d', rfl⟩ := loop _ ⟨b, c, d, rfl⟩
  refine ⟨some (.own (.lst ((tkStep need s h acc).map encL))), b', c', d', ?_⟩
  unfold B__law_takes_3
  simp
  rw [e1]
  simp
theorem getD_of {l : List Int} {k : Nat} (hk : k < l.length) : gIx (lI l) (.int (k : Nat)) = some (.int (l.getD k 0)) := gIx_lst hk
theorem getD_mem {l : List Int} {k : Nat} (hk : k < l.length) : l.getD k 0 ∈ l := by
  rw [List.getD_eq_getElem?_getD, List.getElem?_eq_getElem hk]; exact List.getElem_mem hk
theorem tk_range (need : Int) (sl hv : List Int) (hl : sl.length = hv.length) : (List.range sl.length).foldl (fun (st : Nat × List Tk) k => tkJ need st (sl.getD k 0, hv.getD k 0)) (0, [(0, [])]) = (sl.length, tkAll need (sl.zip hv)) := by
  have e := foldl_zip (fun (st : Nat × List Tk) s h => tkJ need st (s, h)) 0 0 sl hv (0, [(0, [])]) hl
  rw [e]
  have e2 := tkJ_snd need (sl.zip hv) (0, [(0, [])])
  have e3 : (sl.zip hv).foldl (fun (st : Nat × List Tk) p => tkJ need st (p.1, p.2)) (0, [(0, [])]) = (sl.zip hv).foldl (tkJ need) (0, [(0, [])]) := rfl
  rw [e3]
  refine Prod.ext ?_ ?_
  · rw [e2.2, List.length_zip, hl]; simp
  · exact e2.1
end K75
namespace K75
open PySem PySem.Spec PyProof.Rows L2 DL
theorem enc0 : encL (0, []) = D.lst [D.int 0, D.lst []] := rfl
theorem ltakes_eq (sl hv : List Int) (need : Int) (hl : sl.length = hv.length) (h3 : sl.length ≤ 3) (h0 : 0 ≤ need) (hn : need ≤ 13) (hs : ∀ s ∈ sl, 0 ≤ s ∧ s ≤ 100) :
    F__law_takes [lI sl, .int need, lI hv] = some (.lst ((takes sl need hv).map lI)) := by
  have F := forL_ix (g := gtName 4) (fb := B__law_takes_3) (fun k : Nat => D.int (k : Int)) (fun acc k => tkStep need (sl.getD k 0) (hv.getD k 0) acc)
    (fun i acc ρ => (∃ a b c d e, ρ = [some (.val (lI sl)), some (.val (.int need)), some (.val (lI hv)), some (.val (.lst (acc.map encL))), a, b, c, d, e]) ∧ TkOk need i acc ∧ acc.length ≤ 14 ^ i)
    (List.range sl.length) 0 [(0, [])] _ ⟨⟨none, none, none, none, none, rfl⟩, tk0_ok h0, by simp⟩ ?_
  · have e2 : (List.range sl.length).foldl (fun acc k => tkStep need (sl.getD k 0) (hv.getD k 0) acc) [(0, [])] = tkAll need (sl.zip hv) := foldl_zip (fun acc s h => tkStep need s h acc) 0 0 sl hv _ hl
    rw [e2] at F
    obtain ⟨ρ', e1, ⟨a, b, c, d, e, rfl⟩, ok, _⟩ := F
    have hsm : smallI (sl.length : Int) = true := smallI_of (by omega) (by omega)
    have C := lcL_map (g := gtName 6) (t := tBool (eBin gEq (eBin gIx (pName 6) (eK (.int 0))) (pName 1))) (fe := eBin gIx (pName 6) (eK (.int 1)))
      (ρ := [some (.val (lI sl)), some (.val (.int need)), some (.val (lI hv)), some (.val (.lst ((tkAll need (sl.zip hv)).map encL))), a, b, none, d, e]) encL (fun q => q.1 == need) (fun q => lI q.2) (tkAll need (sl.zip hv)) (fun q hq => ⟨_, rfl, by
        have g3 : gIx (encL q) (.int 0) = some (.int q.1) := rfl
        simp [g3], fun _ => by
        have g4 : gIx (encL q) (.int 1) = some (lI q.2) := rfl
        simp [g4]⟩)
    have hz : ((tkAll need (sl.zip hv)).filter fun q => q.1 == need).length ≤ sizeLine := by
      refine Nat.le_trans (List.length_filter_le _ _) (short_of (Nat.le_trans (tkAll_len h0 hn _) ?_))
      have : (sl.zip hv).length ≤ 3 := by rw [List.length_zip]; omega
      exact Nat.le_trans (Nat.pow_le_pow_right (by decide) this) (by show 2744 ≤ 16777216; omega)
    simp only [List.map_cons, List.map_nil, enc0] at e1
    have r1 : S__law_takes [some (.val (lI sl)), some (.val (.int need)), some (.val (lI hv)), none, none, none, none, none, none] = .rt (.lst ((takes sl need hv).map lI)) := by
      unfold S__law_takes L__law_takes_4
      simp [hsm, rangeD_nat]
      rw [e1]
      simp [wipeD]
      rw [C]
      simp [hz, takes]
    exact fn_rt rfl r1
  · rintro i k hk acc ρ ⟨⟨a, b, c, d, e, rfl⟩, ok, hlen⟩
    have hki : k = i ∧ i < sl.length := by
      have hl2 : i < (List.range sl.length).length := (List.getElem?_eq_some_iff.mp hk).1
      rw [List.length_range] at hl2
      rw [List.getElem?_range hl2] at hk
      exact ⟨(Option.some.inj hk).symm, hl2⟩
    obtain ⟨rfl, hkl⟩ := hki
    rw [Nat.zero_add] at ok hlen
    obtain ⟨a', b', c', d', e1⟩ := lt_turn sl hv need k acc k _ _ (getD_of hkl) (getD_of (by omega)) h0 hn (by omega) ok hlen (hs _ (getD_mem hkl)) b c d e
    have hlen2 := tkStep_len (s := sl.getD k 0) (h := hv.getD k 0) ok hn
    refine ⟨_, _, rfl, e1, ⟨_, _, _, _, _, rfl⟩, by rw [Nat.zero_add]; exact tkStep_ok ok, ?_⟩
    rw [Nat.zero_add, Nat.pow_succ]
    have h2 := Nat.mul_le_mul_right 14 hlen
    omega
end K75
namespace K75
open PySem PySem.Spec PyProof.Rows L2 DL
theorem tk_zero {s : Int} {i : Nat} (h : i = 0) : tkn s i = 0 := by unfold tkn; rw [if_pos h]
theorem tk_pos {s : Int} {i : Nat} (h : ¬ i = 0) : tkn s i = i + s := by unfold tkn; rw [if_neg h]
theorem encT_mk (need : Int) (q : Tk) : encT need q = D.tup [tI q.2, .int (need - q.1)] := rfl
theorem h_turn (D0 D2 : D) (need : Int) (j : Nat) (acc : List Tk) (s h : Int) (h0 : 0 ≤ need) (hn : need ≤ 13) (hj : j ≤ 3) (ok : TkOk need j acc) (hl : acc.length ≤ 14 ^ j)
    (a b c d e : Option Sl) : ∃ a' b' c' d' e', B_hires_3 [some (.val D0), some (.val (.int need)), some (.val D2), some (.val (.lst (acc.map (encT need)))), some (.val (.int s)), some (.val (.int h)), a, b, c, d, e] =
      .nx [some (.val D0), some (.val (.int need)), some (.val D2), some (.val (.lst ((tkStep need s h acc).map (encT need)))), some (.val (.int s)), some (.val (.int h)), a', b', c', d', e'] := by
  have hlen := tkStep_len (s := s) (h := h) ok hn
  have h14 : 14 ^ j ≤ 14 ^ 3 := Nat.pow_le_pow_right (by decide) hj
  have P := forL_push (g := gtTup 2 (gtCons (gtName 7) (gtCons (gtName 8) gtNil))) (fb := B_hires_2) (encT need) (fun q => ((List.range (need - q.1 + 1).toNat).flatMap (tkOne s h q)).map (encT need))
      (fun l ρ => ∃ b c d e, ρ = [some (.val D0), some (.val (.int need)), some (.val D2), some (.val (.lst (acc.map (encT need)))), some (.val (.int s)), some (.val (.int h)), some (.own (.lst l)), b, c, d, e]) acc [] _ ⟨b, c, d, e, rfl⟩ ?_ ?_
  · obtain ⟨ρ', e1, b', c', d', e', rfl⟩ := P
    rw [List.nil_append, ← map_flat] at e1
    refine ⟨some (.own (.lst ((tkStep need s h acc).map (encT need)))), b', c', d', e', ?_⟩
    unfold B_hires_3
    simp
    rw [e1]
    simp
    rfl
  · rw [List.nil_append, ← map_flat, List.length_map]
    exact short_of (by show (tkStep need s h acc).length ≤ _; omega)
  · rintro q hq l ρ ⟨b, c, d, e, rfl⟩ hz
    obtain ⟨q0, q1, q2⟩ := ok q hq
    have inner := forL_push (g := gtName 9) (fb := B_hires_1) (fun i : Nat => D.int (i : Int)) (fun i => (tkOne s h q i).map (encT need))
        (fun l ρ => ∃ d e, ρ = [some (.val D0), some (.val (.int need)), some (.val D2), some (.val (.lst (acc.map (encT need)))), some (.val (.int s)), some (.val (.int h)), some (.own (.lst l)), some (.val (tI q.2)), some (.val (.int (need - q.1))), d, e]) (List.range (need - q.1 + 1).toNat) l _ ⟨d, e, rfl⟩ ?_ ?_
    · obtain ⟨ρ2, e1, d', e', rfl⟩ := inner
      have hsm : smallI (need - q.1 + 1) = true := smallI_of (by omega) (by omega)
      rw [map_flat]
      unfold B_hires_2
      simp [encT_mk, hsm, rangeD_nat]
      rw [e1]
      simp [encT_mk]
    · rw [← map_flat, List.length_append]
      exact hz
    · rintro i hi l ρ ⟨d, e, rfl⟩ hz2
      have hsz : q.2.length + 1 ≤ sizeLine := short_of (by omega)
      have hE : ∀ x : Int, need - q.1 - x = need - (q.1 + x) := fun x => by omega
      unfold B_hires_1 tkOne
      unfold tkOne at hz2
      by_cases z : i = 0
      · subst z
        by_cases c : (0 : Int) ≤ h
        · have hz3 : l.length < sizeLine := by
            rw [tk_zero rfl, if_pos c] at hz2
            simp at hz2
            omega
          simp [tk_zero, c, hz3, encT_mk, tI_snoc, hsz]
        · simp [tk_zero, c]
      · have z' : 0 < i := Nat.pos_of_ne_zero z
        by_cases c : (i : Int) + s ≤ h
        · have hz3 : l.length < sizeLine := by
            rw [tk_pos z, if_pos c] at hz2
            simp at hz2
            omega
          simp [tk_pos z, z', c, hz3, encT_mk, tI_snoc, hsz, hE]
        · simp [tk_pos z, z', c]
end K75
namespace K75
open PySem PySem.Spec PyProof.Rows L2 DL
theorem encT0 (need : Int) : encT need (0, []) = D.tup [D.tup [], D.int need] := by show D.tup [D.tup [], D.int (need - 0)] = _; rw [Int.sub_zero]
theorem hires_eq (sl hv : List Int) (need : Int) (hl : sl.length = hv.length) (h3 : sl.length ≤ 3) (h0 : 0 ≤ need) (hn : need ≤ 13) :
    F_hires [lI sl, .int need, tI hv] = some (.lst ((takes sl need hv).map tI)) := by
  have F := forL_ix (g := gtTup 2 (gtCons (gtName 4) (gtCons (gtName 5) gtNil))) (fb := B_hires_3) (fun q : Int × Int => D.tup [.int q.1, .int q.2]) (fun acc q => tkStep need q.1 q.2 acc)
    (fun i acc ρ => (∃ a b c d e f g, ρ = [some (.val (lI sl)), some (.val (.int need)), some (.val (tI hv)), some (.val (.lst (acc.map (encT need)))), a, b, c, d, e, f, g]) ∧ TkOk need i acc ∧ acc.length ≤ 14 ^ i)
    (sl.zip hv) 0 [(0, [])] _ ⟨⟨none, none, none, none, none, none, none, rfl⟩, tk0_ok h0, by simp⟩ ?_
  · obtain ⟨ρ', e1, ⟨a, b, c, d, e, f, g, rfl⟩, ok, _⟩ := F
    have C := lcL_map (g := gtTup 2 (gtCons (gtName 7) (gtCons (gtName 8) gtNil))) (t := tBool (eBin gEq (pName 8) (eK (.int 0)))) (fe := eName 7)
      (ρ := [some (.val (lI sl)), some (.val (.int need)), some (.val (tI hv)), some (.val (.lst ((tkAll need (sl.zip hv)).map (encT need)))), a, b, c, none, none, f, g]) (encT need) (fun q => q.1 == need) (fun q => tI q.2) (tkAll need (sl.zip hv)) (fun q hq => ⟨_, rfl, by
        have e : (need - q.1 == 0) = (q.1 == need) := by
          by_cases z : q.1 = need
          · simp [z]
          · have z2 : ¬ need - q.1 = 0 := by omega
            rw [beq_eq_false_iff_ne.mpr z, beq_eq_false_iff_ne.mpr z2]
        simp [e], fun _ => by simp⟩)
    have hz : ((tkAll need (sl.zip hv)).filter fun q => q.1 == need).length ≤ sizeLine := by
      refine Nat.le_trans (List.length_filter_le _ _) (short_of (Nat.le_trans (tkAll_len h0 hn _) ?_))
      have : (sl.zip hv).length ≤ 3 := by rw [List.length_zip]; omega
      exact Nat.le_trans (Nat.pow_le_pow_right (by decide) this) (by show 2744 ≤ 16777216; omega)
    simp only [List.map_cons, List.map_nil, encT0] at e1
    have e2 : (sl.zip hv).foldl (fun acc q => tkStep need q.1 q.2 acc) [(0, [])] = tkAll need (sl.zip hv) := rfl
    rw [e2] at e1
    have r1 : S_hires [some (.val (lI sl)), some (.val (.int need)), some (.val (tI hv)), none, none, none, none, none, none, none, none] = .rt (.lst ((takes sl need hv).map tI)) := by
      unfold S_hires L_hires_4
      simp [zip2D_map]
      rw [e1]
      simp [wipeD]
      rw [C]
      simp [hz, takes]
    exact fn_rt rfl r1
  · rintro i q hk acc ρ ⟨⟨a, b, c, d, e, f, g, rfl⟩, ok, hlen⟩
    have hi : i < 3 := by
      have := (List.getElem?_eq_some_iff.mp hk).1
      rw [List.length_zip] at this
      omega
    rw [Nat.zero_add] at ok hlen
    obtain ⟨a', b', c', d', e', e1⟩ := h_turn (lI sl) (tI hv) need i acc q.1 q.2 h0 hn (by omega) ok hlen c d e f g
    have hlen2 := tkStep_len (s := q.1) (h := q.2) ok hn
    refine ⟨_, _, rfl, e1, ⟨_, _, _, _, _, _, _, rfl⟩, by rw [Nat.zero_add]; exact tkStep_ok ok, ?_⟩
    rw [Nat.zero_add, Nat.pow_succ]
    have h2 := Nat.mul_le_mul_right 14 hlen
    omega
/-! ### vectors -/
def Vec (n : Nat) (v : List Int) : Prop := v.length = n ∧ ∀ x ∈ v, 0 ≤ x ∧ x ≤ 9
def allV : Nat → List (List Int)
  | 0 => [[]]
  | n + 1 => (List.range 10).flatMap fun x : Nat => (allV n).map ((x : Int) :: ·)
theorem allV_mem : ∀ {n : Nat} {v : List Int}, Vec n v → v ∈ allV n
  | 0, v, h => by
    have : v = [] := List.length_eq_zero_iff.mp h.1
    rw [this]; exact List.mem_singleton.mpr rfl
  | n + 1, [], h => by have := h.1; simp at this
  | n + 1, x :: v, h => by
    have hx := h.2 x (List.mem_cons_self ..)
    have hv : Vec n v := ⟨by have := h.1; simpa using this, fun y hy => h.2 y (List.mem_cons_of_mem _ hy)⟩
    unfold allV
    refine List.mem_flatMap.mpr ⟨x.toNat, List.mem_range.mpr (by omega), List.mem_map.mpr ⟨v, allV_mem hv, ?_⟩⟩
    rw [show ((x.toNat : Nat) : Int) = x by omega]
theorem nodup_len {α : Type} [DecidableEq α] : ∀ {l m : List α}, l.Nodup → (∀ x ∈ l, x ∈ m) → l.length ≤ m.length
  | [], m, _, _ => Nat.zero_le _
  | x :: l, m, hn, hs => by
    obtain ⟨h1, h2⟩ := List.nodup_cons.mp hn
    have hx := hs x (List.mem_cons_self ..)
    have ih := nodup_len (l := l) (m := m.erase x) h2 fun y hy => by
      have hne : y ≠ x := fun e => h1 (e ▸ hy)
      exact (List.mem_erase_of_ne hne).mpr (hs y (List.mem_cons_of_mem _ hy))
    rw [List.length_erase_of_mem hx] at ih
    have : 0 < m.length := List.length_pos_of_mem hx
    rw [List.length_cons]
    omega
theorem allV_len : ∀ n : Nat, (allV n).length ≤ 10 ^ n
  | 0 => by simp [allV]
  | n + 1 => by
    have ih := allV_len n
    unfold allV
    have h := flatMap_le (f := fun x : Nat => (allV n).map ((x : Int) :: ·)) (n := 10 ^ n) (l := List.range 10) fun x _ => by rw [List.length_map]; exact ih
    rw [List.length_range] at h
    rw [Nat.pow_succ]
    omega
theorem vec_len {n : Nat} (hn : n ≤ 3) {l : List (List Int)} (h : l.Nodup) (hv : ∀ v ∈ l, Vec n v) : l.length ≤ 1000 := by
  have h1 := nodup_len h fun v hm => allV_mem (hv v hm)
  have h3 := allV_len n
  have h2 : 10 ^ n ≤ 10 ^ 3 := Nat.pow_le_pow_right (by decide) hn
  omega
/-- no two of them alike, by a mask of bits -/
def bitsOk (m : Nat) : List Int → Nat → Bool
  | [], _ => true
  | h :: l, s => let k := (h % (m : Int)).toNat; !(s.testBit k) && bitsOk m l (s ||| (1 <<< k))
theorem bitsOk_sound (m : Nat) : ∀ (l : List Int) (s : Nat), bitsOk m l s = true → l.Nodup ∧ ∀ h ∈ l, s.testBit (h % (m : Int)).toNat = false
  | [], s, _ => ⟨List.nodup_nil, fun h hm => by cases hm⟩
  | h :: l, s, hb => by
    have hb : (!(s.testBit (h % (m : Int)).toNat) && bitsOk m l (s ||| (1 <<< (h % (m : Int)).toNat))) = true := hb
    obtain ⟨h1, h2⟩ := Bool.and_eq_true_iff.mp hb
    obtain ⟨i1, i2⟩ := bitsOk_sound m l _ h2
    refine ⟨List.nodup_cons.mpr ⟨fun hm => ?_, i1⟩, fun x hm => ?_⟩
    · have := i2 h hm
      rw [Nat.testBit_or, Nat.testBit_shiftLeft] at this
      simp at this
    · rcases List.mem_cons.mp hm with e | hm
      · rw [e]; simpa using h1
      · have := i2 x hm
        rw [Nat.testBit_or] at this
        exact (Bool.or_eq_false_iff.mp this).1
theorem bits1 : bitsOk 1000 ((allV 1).map hashTI) 0 = true := by decide +kernel
theorem bits2 : bitsOk 10001 ((allV 2).map hashTI) 0 = true := by decide +kernel
theorem bits3 : bitsOk 100000 ((allV 3).map hashTI) 0 = true := by decide +kernel
theorem map_inj {α β : Type} {f : α → β} : ∀ {l : List α}, (l.map f).Nodup → ∀ x ∈ l, ∀ y ∈ l, f x = f y → x = y
  | [], _, x, hx, _, _, _ => by cases hx
  | a :: l, h, x, hx, y, hy, e => by
    rw [List.map_cons] at h
    obtain ⟨h1, h2⟩ := List.nodup_cons.mp h
    rcases List.mem_cons.mp hx with e1 | hx2
    · rcases List.mem_cons.mp hy with e2 | hy2
      · rw [e1, e2]
      · exact absurd (List.mem_map.mpr ⟨y, hy2, by rw [← e, e1]⟩) h1
    · rcases List.mem_cons.mp hy with e2 | hy2
      · exact absurd (List.mem_map.mpr ⟨x, hx2, by rw [e, e2]⟩) h1
      · exact map_inj h2 x hx2 y hy2 e
theorem hash_inj {n : Nat} (h0 : 0 < n) (hn : n ≤ 3) {u v : List Int} (hu : Vec n u) (hv : Vec n v) (e : hashTI u = hashTI v) : u = v := by
  have key : ((allV n).map hashTI).Nodup := by
    match n, h0, hn with
    | 1, _, _ => exact (bitsOk_sound _ _ _ bits1).1
    | 2, _, _ => exact (bitsOk_sound _ _ _ bits2).1
    | 3, _, _ => exact (bitsOk_sound _ _ _ bits3).1
  exact map_inj key u (allV_mem hu) v (allV_mem hv) e
theorem hash_nodup {n : Nat} (h0 : 0 < n) (hn : n ≤ 3) : ∀ {l : List (List Int)}, l.Nodup → (∀ v ∈ l, Vec n v) → (l.map hashTI).Nodup
  | [], _, _ => List.nodup_nil
  | x :: l, h, hv => by
    obtain ⟨h1, h2⟩ := List.nodup_cons.mp h
    rw [List.map_cons]
    refine List.nodup_cons.mpr ⟨fun hm => ?_, hash_nodup h0 hn h2 fun v hm => hv v (List.mem_cons_of_mem _ hm)⟩
    obtain ⟨y, hy, e⟩ := List.mem_map.mp hm
    have := hash_inj h0 hn (hv y (List.mem_cons_of_mem _ hy)) (hv x (List.mem_cons_self ..)) e
    exact h1 (this ▸ hy)
end K75
namespace K75
open PySem PySem.Spec PyProof.Rows L2 DL
def sub (v t : List Int) : List Int := List.zipWith (· - ·) v t
def pushNew (acc : List (List Int)) (r : List Int) : List (List Int) := if r ∈ acc then acc else acc ++ [r]
def dIn (sl : List Int) (need : Int) (acc : List (List Int)) (v : List Int) : List (List Int) := (takes sl need v).foldl (fun a t => pushNew a (sub v t)) acc
def dStep (sl : List Int) (st : List (List Int)) (need : Int) : List (List Int) := st.foldl (dIn sl need) []
def dealt (sl needs hv : List Int) : List (List Int) := needs.foldl (dStep sl) [hv]
/-! what a take is -/
def Bnd : List Int → List (Int × Int) → Prop
  | [], [] => True
  | t :: ts, p :: ps => (0 ≤ t ∧ t ≤ p.2) ∧ Bnd ts ps
  | _, _ => False
theorem Bnd.snoc {x : Int} {p : Int × Int} (hx : 0 ≤ x ∧ x ≤ p.2) : ∀ {t : List Int} {ps : List (Int × Int)}, Bnd t ps → Bnd (t ++ [x]) (ps ++ [p])
  | [], [], _ => ⟨hx, trivial⟩
  | t :: ts, q :: ps, h => ⟨h.1, Bnd.snoc hx h.2⟩
  | [], q :: ps, h => h.elim
  | t :: ts, [], h => h.elim
theorem tk_bnd {need : Int} : ∀ (l pre : List (Int × Int)) (acc : List Tk), (∀ p ∈ l, 0 ≤ p.1) → (∀ q ∈ acc, Bnd q.2 pre) → ∀ q ∈ l.foldl (fun a p => tkStep need p.1 p.2 a) acc, Bnd q.2 (pre ++ l)
  | [], pre, acc, _, h, q, hq => by rw [List.append_nil]; exact h q hq
  | p :: l, pre, acc, hl, h, q, hq => by
    have h2 : ∀ q ∈ tkStep need p.1 p.2 acc, Bnd q.2 (pre ++ [p]) := fun q hq => by
      unfold tkStep at hq
      obtain ⟨r, hr, hq⟩ := List.mem_flatMap.mp hq
      obtain ⟨k, hk, hq⟩ := List.mem_flatMap.mp hq
      unfold tkOne at hq
      split at hq
      · rename_i c
        have e : q = (r.1 + k, r.2 ++ [tkn p.1 k]) := by simpa using hq
        rw [e]
        refine Bnd.snoc ⟨?_, c⟩ (h r hr)
        have := hl p (List.mem_cons_self ..)
        unfold tkn
        split <;> omega
      · cases hq
    have := tk_bnd l (pre ++ [p]) _ (fun r hr => hl r (List.mem_cons_of_mem _ hr)) h2 q hq
    rw [List.append_assoc] at this
    exact this
theorem takes_bnd {sl hv : List Int} {need : Int} (hs : ∀ s ∈ sl, 0 ≤ s) : ∀ t ∈ takes sl need hv, Bnd t (sl.zip hv) := fun t ht => by
  unfold takes at ht
  obtain ⟨q, hq, rfl⟩ := List.mem_map.mp ht
  have := tk_bnd (need := need) (sl.zip hv) [] [(0, [])] (fun p hp => hs _ (List.of_mem_zip hp).1) (fun q hq => by
    have e : q = (0, []) := by simpa using hq
    rw [e]; trivial) q (List.mem_filter.mp hq).1
  simpa using this
theorem sub_vec : ∀ {n : Nat} {sl v t : List Int}, Vec n v → sl.length = n → Bnd t (sl.zip v) → Vec n (sub v t) ∧ t.length = n
  | n, [], v, t, hv, hl, hb => by
    have e : n = 0 := hl.symm
    subst e
    have e2 : v = [] := List.length_eq_zero_iff.mp hv.1
    subst e2
    cases t with
    | nil => exact ⟨⟨rfl, fun x hx => by cases hx⟩, rfl⟩
    | cons _ _ => exact hb.elim
  | n, s :: sl, [], t, hv, hl, hb => by
    have := hv.1
    simp at this
    subst this
    simp at hl
  | n, s :: sl, x :: v, [], hv, hl, hb => hb.elim
  | n, s :: sl, x :: v, y :: t, hv, hl, hb => by
    obtain ⟨m, rfl⟩ : ∃ m, n = m + 1 := ⟨sl.length, by simpa using hl.symm⟩
    have hx := hv.2 x (List.mem_cons_self ..)
    have hb1 : (0 ≤ y ∧ y ≤ x) := hb.1
    obtain ⟨⟨i1, i2⟩, i3⟩ := sub_vec (n := m) (sl := sl) (v := v) (t := t) ⟨by have := hv.1; simpa using this, fun z hz => hv.2 z (List.mem_cons_of_mem _ hz)⟩ (by simpa using hl) hb.2
    refine ⟨⟨?_, fun z hz => ?_⟩, by simp [i3]⟩
    · show ((x - y) :: sub v t).length = _
      simp [i1]
    · rcases List.mem_cons.mp (show z ∈ (x - y) :: sub v t from hz) with e | hz
      · rw [e]; omega
      · exact i2 z hz
/-- the states stay distinct vectors -/
structure StOk (n : Nat) (st : List (List Int)) : Prop where
  nd : st.Nodup
  vec : ∀ v ∈ st, Vec n v
theorem StOk.push {n : Nat} {st : List (List Int)} {r : List Int} (h : StOk n st) (hr : Vec n r) : StOk n (pushNew st r) := by
  unfold pushNew
  split
  · exact h
  · rename_i c
    refine ⟨?_, fun v hv => ?_⟩
    · rw [List.nodup_append]
      exact ⟨h.nd, by simp, fun a ha b hb => by
        have : b = r := by simpa using hb
        rw [this]; rintro rfl; exact c ha⟩
    · rcases List.mem_append.mp hv with hv | hv
      · exact h.vec v hv
      · have : v = r := by simpa using hv
        rw [this]; exact hr
theorem StOk.one {n : Nat} {v : List Int} (h : Vec n v) : StOk n [v] := ⟨by simp, fun u hu => by
  have : u = v := by simpa using hu
  rw [this]; exact h⟩
theorem StOk.nil {n : Nat} : StOk n [] := ⟨List.nodup_nil, fun u hu => by cases hu⟩
theorem StOk.len {n : Nat} {st : List (List Int)} (h : StOk n st) (hn : n ≤ 3) : st.length ≤ 1000 := vec_len hn h.nd h.vec
/-! ### equality of lists of whole numbers -/
theorem eqDL_ints : ∀ (a b : List Int), eqDL (a.map D.int) (b.map D.int) = decide (a = b)
  | [], [] => by simp [eqDL_nil]
  | [], y :: b => by simp [eqDL_nc]
  | x :: a, [] => by simp [eqDL_cn]
  | x :: a, y :: b => by
    rw [List.map_cons, List.map_cons, eqDL_cc, eqDL_ints a b, DL.eqD_int]
    by_cases h1 : x = y
    · by_cases h2 : a = b
      · simp [h1, h2]
      · simp [h1, h2]
    · simp [h1]
theorem eqD_lI (a b : List Int) : eqD (lI a) (lI b) = decide (a = b) := by rw [show eqD (lI a) (lI b) = eqDL (a.map D.int) (b.map D.int) from eqD_lst]; exact eqDL_ints a b
theorem eqD_tI (a b : List Int) : eqD (tI a) (tI b) = decide (a = b) := by rw [show eqD (tI a) (tI b) = eqDL (a.map D.int) (b.map D.int) from eqD_tup]; exact eqDL_ints a b
theorem plainL_ints {n : Nat} : ∀ (a : List Int), plainL n (a.map D.int) = true
  | [] => by simp [plainL]
  | x :: a => by
    rw [List.map_cons]
    unfold plainL
    rw [plainL_ints a]
    cases n <;> rfl
theorem plain_lI {n : Nat} (a : List Int) : plain (n + 1) (lI a) = true := plainL_ints a
theorem plain_tI {n : Nat} (a : List Int) : plain (n + 1) (tI a) = true := plainL_ints a
theorem plainL_of {n : Nat} {α : Type} {f : α → D} : ∀ (l : List α), (∀ x ∈ l, plain n (f x) = true) → plainL n (l.map f) = true
  | [], _ => by simp [plainL]
  | x :: l, h => by
    rw [List.map_cons]
    unfold plainL
    rw [h x (List.mem_cons_self ..), plainL_of l fun y hy => h y (List.mem_cons_of_mem _ hy)]
    rfl
theorem any_lI (r : List Int) : ∀ (acc : List (List Int)), (acc.map lI).any (fun z => eqD z (lI r)) = decide (r ∈ acc)
  | [] => by simp
  | a :: acc => by
    rw [List.map_cons, List.any_cons, any_lI r acc, eqD_lI]
    by_cases h : a = r
    · simp [h]
    · have : ¬ r = a := fun e => h e.symm
      simp [h, this]
theorem notIn_lI (r : List Int) (acc : List (List Int)) : gNotIn (lI r) (.lst (acc.map lI)) = some (.bl (!decide (r ∈ acc))) := by
  show (if (plain 20 (lI r) && plain 20 (.lst (acc.map lI))) = true then some (D.bl (!(acc.map lI).any fun z => eqD z (lI r))) else none) = _
  rw [any_lI, plain_lI, show plain 20 (.lst (acc.map lI)) = true from plainL_of _ fun x _ => plain_lI x]
  rfl
theorem sub_range : ∀ (v t : List Int), v.length = t.length → (List.range v.length).map (fun k => v.getD k 0 - t.getD k 0) = sub v t
  | [], [], _ => rfl
  | [], y :: t, h => by simp at h
  | x :: v, [], h => by simp at h
  | x :: v, y :: t, h => by
    rw [List.length_cons, List.range_succ_eq_map, List.map_cons, List.map_map]
    have := sub_range v t (by simpa using h)
    show (x - y) :: _ = (x - y) :: sub v t
    rw [← this]
    rfl
/-! ### _law_dealt -/
theorem ld_rest (v t : List Int) (hl : v.length = t.length) (h3 : v.length ≤ 3) (ρ : DEnv) (h6 : ρ[6]? = some (some (.val (lI v)))) (h7 : ρ[7]? = some (some (.val (lI t)))) (hlen : ρ.length = 10) : L__law_dealt_1 ρ = some (lI (sub v t)) := by
  have hsm : smallI (v.length : Int) = true := smallI_of (by omega) (by omega)
  have C := lcL_all (g := gtName 9) (fe := eBin gSub (eBin gIx (pName 6) (pName 9)) (eBin gIx (pName 7) (pName 9))) (ρ := wipeD ρ [9]) (fun k : Nat => D.int (k : Int)) (fun k => D.int (v.getD k 0 - t.getD k 0)) (List.range v.length) fun k hk => by
    have hk : k < v.length := List.mem_range.mp hk
    have g1 : gIx (lI v) (.int (k : Nat)) = some (.int (v.getD k 0)) := getD_of hk
    have g2 : gIx (lI t) (.int (k : Nat)) = some (.int (t.getD k 0)) := getD_of (by omega)
    refine ⟨_, rfl, ?_⟩
    have q6 : (wipeD ρ [9])[6]? = some (some (.val (lI v))) := by rw [wipeD_get]; simpa using h6
    have q7 : (wipeD ρ [9])[7]? = some (some (.val (lI t))) := by rw [wipeD_get]; simpa using h7
    have hl9 : 9 < (wipeD ρ [9]).length := by rw [wipeD_length, hlen]; decide
    simp only [ev_bin, ev_pname, List.getElem?_set_self hl9, List.getElem?_set_ne (show 9 ≠ 6 by decide), List.getElem?_set_ne (show 9 ≠ 7 by decide), q6, q7, Option.bind_some, g1, g2, ev_sub]
  have e2 : (List.range v.length).map (fun k => D.int (v.getD k 0 - t.getD k 0)) = (sub v t).map D.int := by rw [← sub_range v t hl, List.map_map]; rfl
  rw [e2] at C
  have hz : ((sub v t).map D.int).length ≤ sizeLine := by
    rw [← e2]
    exact short_of (by simp; omega)
  unfold L__law_dealt_1
  simp only [ev_lc, ev_irange, ev_cons, ev_cb, ev_nil, ev_pname, h6, Option.bind_some, gLen_l, List.length_map, hsm, if_true, Int.toNat_natCast, rangeD_nat, C]
  rw [List.length_map] at hz
  rw [if_pos hz]
/-- what the slots hold in the loops -/
def ldE (sl : List Int) (N C : D) (st : List (List Int)) (need : Int) (acc : List (List Int)) (v : Option Sl) (a b c : Option Sl) : DEnv :=
  [some (.val (lI sl)), some (.val N), some (.val C), some (.val (.lst (st.map lI))), some (.val (.int need)), some (.own (.lst (acc.map lI))), v, a, b, c]
theorem ld_in (sl : List Int) (N C : D) (st : List (List Int)) (need : Int) (acc : List (List Int)) (v : List Int) (n : Nat) (hn : n ≤ 3) (hsl : sl.length = n) (hs : ∀ s ∈ sl, 0 ≤ s ∧ s ≤ 100) (h0 : 0 ≤ need) (hn13 : need ≤ 13) (hv : Vec n v) (ok : StOk n acc) (a b c : Option Sl) :
    ∃ ρ', B__law_dealt_3 (ldE sl N C st need acc (some (.val (lI v))) a b c) = .nx ρ' ∧ (∃ a b c, ρ' = ldE sl N C st need (dIn sl need acc v) (some (.val (lI v))) a b c) ∧ StOk n (dIn sl need acc v) := by
  have hb := takes_bnd (sl := sl) (hv := v) (need := need) fun s hm => (hs s hm).1
  have F := forL_fold (g := gtName 7) (fb := B__law_dealt_2) lI (fun acc t => pushNew acc (sub v t)) (fun acc ρ => (∃ a b c, ρ = ldE sl N C st need acc (some (.val (lI v))) a b c) ∧ StOk n acc) (takes sl need v) acc _ ⟨⟨a, b, c, rfl⟩, ok⟩ ?_
  · obtain ⟨ρ', e1, e2, e3⟩ := F
    refine ⟨ρ', ?_, e2, e3⟩
    unfold B__law_dealt_3
    have ht := ltakes_eq sl v need (by rw [hsl, hv.1]) (by omega) h0 hn13 hs
    unfold ldE at e1 ⊢
    simp [ht]
    exact e1
  · rintro t ht acc ρ ⟨⟨a, b, c, rfl⟩, ok⟩
    obtain ⟨hw, hl⟩ := sub_vec hv hsl (hb t ht)
    have hr := ld_rest v t (by rw [hv.1, hl]) (by rw [hv.1]; exact hn) [some (.val (lI sl)), some (.val N), some (.val C), some (.val (.lst (st.map lI))), some (.val (.int need)), some (.own (.lst (acc.map lI))), some (.val (lI v)), some (.val (lI t)), b, c] rfl rfl rfl
    have hz : acc.length < sizeLine := Nat.lt_of_lt_of_le (Nat.lt_succ_of_le (ok.len hn)) (short_of (by omega))
    have hB : ∃ ρ2, B__law_dealt_2 [some (.val (lI sl)), some (.val N), some (.val C), some (.val (.lst (st.map lI))), some (.val (.int need)), some (.own (.lst (acc.map lI))), some (.val (lI v)), some (.val (lI t)), b, c] = .nx ρ2 ∧ ∃ a b c, ρ2 = ldE sl N C st need (pushNew acc (sub v t)) (some (.val (lI v))) a b c := by
      unfold B__law_dealt_2 ldE pushNew
      by_cases m : sub v t ∈ acc
      · simp [hr, notIn_lI, m]
      · simp [hr, notIn_lI, m, hz]
    obtain ⟨ρ2, e1, e2⟩ := hB
    exact ⟨_, ρ2, rfl, e1, e2, ok.push hw⟩
end K75
namespace K75
open PySem PySem.Spec PyProof.Rows L2 DL
theorem ld_turn (sl : List Int) (N C : D) (st : List (List Int)) (need : Int) (n : Nat) (hn : n ≤ 3) (hsl : sl.length = n) (hs : ∀ s ∈ sl, 0 ≤ s ∧ s ≤ 100) (h0 : 0 ≤ need) (hn13 : need ≤ 13) (ok : StOk n st) (g v a b c : Option Sl) :
    ∃ ρ', B__law_dealt_4 [some (.val (lI sl)), some (.val N), some (.val C), some (.val (.lst (st.map lI))), some (.val (.int need)), g, v, a, b, c] = .nx ρ' ∧ (∃ g v a b c, ρ' = [some (.val (lI sl)), some (.val N), some (.val C), some (.val (.lst ((dStep sl st need).map lI))), some (.val (.int need)), g, v, a, b, c]) ∧ StOk n (dStep sl st need) := by
  have F := forL_fold (g := gtName 6) (fb := B__law_dealt_3) lI (dIn sl need) (fun acc ρ => (∃ v a b c, ρ = ldE sl N C st need acc v a b c) ∧ StOk n acc) st [] _ ⟨⟨v, a, b, c, rfl⟩, StOk.nil⟩ ?_
  · obtain ⟨ρ', e1, ⟨v', a', b', c', rfl⟩, e3⟩ := F
    have e1' : forL (gtName 6) B__law_dealt_3 (st.map lI) [some (.val (lI sl)), some (.val N), some (.val C), some (.val (.lst (st.map lI))), some (.val (.int need)), some (.own (.lst [])), v, a, b, c] = .nx (ldE sl N C st need (dStep sl st need) v' a' b' c') := e1
    refine ⟨_, ?_, ⟨some (.own (.lst ((dStep sl st need).map lI))), v', a', b', c', rfl⟩, e3⟩
    unfold B__law_dealt_4
    simp
    rw [e1']
    simp [ldE]
  · rintro v hv acc ρ ⟨⟨v', a, b, c, rfl⟩, ok2⟩
    obtain ⟨ρ2, e1, ⟨a', b', c', e2⟩, e3⟩ := ld_in sl N C st need acc v n hn hsl hs h0 hn13 (ok.vec v hv) ok2 a b c
    exact ⟨_, ρ2, rfl, e1, ⟨_, a', b', c', e2⟩, e3⟩
theorem ldealt_eq (sl needs hv : List Int) (n : Nat) (hn : n ≤ 3) (hsl : sl.length = n) (hs : ∀ s ∈ sl, 0 ≤ s ∧ s ≤ 100) (hne : ∀ x ∈ needs, 0 ≤ x ∧ x ≤ 13) (hv9 : Vec n hv) :
    F__law_dealt [lI sl, lI needs, lI hv] = some (.bl (decide (dealt sl needs hv ≠ []))) := by
  have F := forL_fold (g := gtName 4) (fb := B__law_dealt_4) D.int (dStep sl) (fun st ρ => (∃ d g v a b c, ρ = [some (.val (lI sl)), some (.val (lI needs)), some (.val (lI hv)), some (.val (.lst (st.map lI))), d, g, v, a, b, c]) ∧ StOk n st) needs [hv] _ ⟨⟨none, none, none, none, none, none, rfl⟩, StOk.one hv9⟩ ?_
  · obtain ⟨ρ', e1, ⟨d, g, v, a, b, c, rfl⟩, ok⟩ := F
    have e2 : needs.foldl (dStep sl) [hv] = dealt sl needs hv := rfl
    rw [e2] at e1 ok
    simp only [List.map_cons, List.map_nil] at e1
    have r1 : S__law_dealt [some (.val (lI sl)), some (.val (lI needs)), some (.val (lI hv)), none, none, none, none, none, none, none] = .rt (.bl (decide (dealt sl needs hv ≠ []))) := by
      have e3 : decide (0 < (dealt sl needs hv).length) = decide (dealt sl needs hv ≠ []) := decide_eq_decide.mpr List.length_pos_iff
      unfold S__law_dealt
      simp
      rw [e1]
      simp
      rw [e3]
      simp
    exact fn_rt rfl r1
  · rintro x hx st ρ ⟨⟨d, g, v, a, b, c, rfl⟩, ok⟩
    obtain ⟨h0, h13⟩ := hne x hx
    obtain ⟨ρ2, e1, ⟨g', v', a', b', c', e2⟩, e3⟩ := ld_turn sl (lI needs) (lI hv) st x n hn hsl hs h0 h13 ok g v a b c
    exact ⟨_, ρ2, rfl, e1, ⟨_, g', v', a', b', c', e2⟩, e3⟩
/-! ### dealt_hires -/
/-- a state of the program: what is left, who is hired -/
abbrev Ps := List Int × List (List Int)
def kOf (v : List Int) : List Key := v.map Sum.inl
def hD (hs : List (List Int)) : D := .tup (hs.map tI)
def dictD (st : List Ps) : D := .dic (st.map fun q => kOf q.1) (st.map fun q => hD q.2)
theorem keysOf_ints : ∀ v : List Int, keysOf (v.map D.int) = some (kOf v)
  | [] => rfl
  | x :: v => by
    show (keyOf (.int x)).bind (fun k => (keysOf (v.map D.int)).map (k :: ·)) = _
    rw [keysOf_ints v]; rfl
theorem tupKey_tI (v : List Int) : tupKey (tI v) = some (kOf v) := keysOf_ints v
theorem dOfK_kOf (v : List Int) : (kOf v).map dOfK = v.map D.int := by unfold kOf; rw [List.map_map]; rfl
theorem keyInts_kOf : ∀ v : List Int, keyInts (kOf v) = some v
  | [] => rfl
  | x :: v => by
    show (intKey (.inl x)).bind (fun i => (keyInts (kOf v)).map (i :: ·)) = _
    rw [keyInts_kOf v]; rfl
theorem kOf_inj {u v : List Int} : kOf u = kOf v ↔ u = v := by
  constructor
  · intro h
    have := congrArg keyInts h
    rw [keyInts_kOf, keyInts_kOf] at this
    exact Option.some.inj this
  · rintro rfl; rfl
theorem allInts_st : ∀ st : List Ps, allInts (st.map fun q => kOf q.1) = some (st.map (·.1))
  | [] => rfl
  | q :: st => by
    show (keyInts (kOf q.1)).bind (fun i => (allInts (st.map fun q => kOf q.1)).map (i :: ·)) = _
    rw [allInts_st st, keyInts_kOf]; rfl
theorem look_st (v : List Int) : ∀ st : List Ps, (look (kOf v) (st.map fun q => kOf q.1) (st.map fun q => hD q.2)).isSome = decide (v ∈ st.map (·.1))
  | [] => by simp [look]
  | q :: st => by
    simp only [List.map_cons]
    unfold look
    by_cases h : q.1 = v
    · rw [if_pos (by rw [h])]
      simp [h]
    · rw [if_neg (fun e => h (kOf_inj.mp e)), look_st v st]
      have : ¬ v = q.1 := fun e => h e.symm
      simp [this]
theorem put_st (v : List Int) (hs : List (List Int)) : ∀ st : List Ps, v ∉ st.map (·.1) → putD (kOf v) (hD hs) (st.map fun q => kOf q.1) (st.map fun q => hD q.2) = ((st ++ [(v, hs)]).map (fun q => kOf q.1), (st ++ [(v, hs)]).map fun q => hD q.2)
  | [], _ => rfl
  | q :: st, h => by
    have h1 : q.1 ≠ v := fun e => h (by rw [List.map_cons, ← e]; exact List.mem_cons_self ..)
    have h2 : v ∉ st.map (·.1) := fun m => h (List.mem_cons_of_mem _ m)
    simp only [List.map_cons]
    unfold putD
    rw [if_neg (fun e => h1 (kOf_inj.mp e)), put_st v hs st h2]
    rfl
def pushP (acc : List Ps) (q : Ps) : List Ps := if q.1 ∈ acc.map (·.1) then acc else acc ++ [q]
def pIn (sl : List Int) (need : Int) (acc : List Ps) (p : Ps) : List Ps := (takes sl need p.1).foldl (fun a t => pushP a (sub p.1 t, p.2 ++ [t])) acc
def pStep (sl : List Int) (st : List Ps) (need : Int) : List Ps := st.foldl (pIn sl need) []
def pDealt (sl needs hv : List Int) : List Ps := needs.foldl (pStep sl) [(hv, [])]
/-- its keys are the law's states -/
theorem pushP_fst (acc : List Ps) (q : Ps) : (pushP acc q).map (·.1) = pushNew (acc.map (·.1)) q.1 := by
  unfold pushP pushNew
  split <;> simp
theorem pIn_fst (sl : List Int) (need : Int) (p : Ps) : ∀ acc : List Ps, (pIn sl need acc p).map (·.1) = dIn sl need (acc.map (·.1)) p.1 := by
  unfold pIn dIn
  generalize takes sl need p.1 = ts
  induction ts with
  | nil => intro acc; rfl
  | cons t ts ih => intro acc; rw [List.foldl_cons, List.foldl_cons, ih, pushP_fst]
theorem pStep_fst (sl : List Int) (need : Int) (st : List Ps) : (pStep sl st need).map (·.1) = dStep sl (st.map (·.1)) need := by
  unfold pStep dStep
  have : ∀ acc : List Ps, (st.foldl (pIn sl need) acc).map (·.1) = (st.map (·.1)).foldl (dIn sl need) (acc.map (·.1)) := by
    induction st with
    | nil => intro acc; rfl
    | cons p st ih => intro acc; rw [List.foldl_cons, List.map_cons, List.foldl_cons, ih, pIn_fst]
  exact this []
theorem pDealt_fst (sl hv : List Int) (needs : List Int) : (pDealt sl needs hv).map (·.1) = dealt sl needs hv := by
  unfold pDealt dealt
  have : ∀ st : List Ps, (needs.foldl (pStep sl) st).map (·.1) = needs.foldl (dStep sl) (st.map (·.1)) := by
    induction needs with
    | nil => intro st; rfl
    | cons x needs ih => intro st; rw [List.foldl_cons, List.foldl_cons, ih, pStep_fst]
  exact this [(hv, [])]
/-- whom they hire -/
def HsOk (n : Nat) (st : List Ps) : Prop := ∀ q ∈ st, ∀ h ∈ q.2, h.length = n
structure PsOk (n m : Nat) (st : List Ps) : Prop where
  ok : StOk n (st.map (·.1))
  hs : HsOk n st
  ln : ∀ q ∈ st, q.2.length = m
theorem PsOk.push {n m : Nat} {st : List Ps} {q : Ps} (h : PsOk n m st) (h1 : Vec n q.1) (h2 : ∀ x ∈ q.2, x.length = n) (h3 : q.2.length = m) : PsOk n m (pushP st q) := by
  refine ⟨by rw [pushP_fst]; exact h.ok.push h1, fun r hr => ?_, fun r hr => ?_⟩
  · unfold pushP at hr
    split at hr
    · exact h.hs r hr
    · rcases List.mem_append.mp hr with hr | hr
      · exact h.hs r hr
      · have : r = q := by simpa using hr
        rw [this]; exact h2
  · unfold pushP at hr
    split at hr
    · exact h.ln r hr
    · rcases List.mem_append.mp hr with hr | hr
      · exact h.ln r hr
      · have : r = q := by simpa using hr
        rw [this]; exact h3
end K75
namespace K75
open PySem PySem.Spec PyProof.Rows L2 DL
theorem items_st : ∀ st : List Ps, itemsD (st.map fun q => kOf q.1) (st.map fun q => hD q.2) = st.map fun q => D.tup [tI q.1, hD q.2]
  | [] => rfl
  | q :: st => by
    show D.tup [D.tup ((kOf q.1).map dOfK), hD q.2] :: itemsD (st.map fun q => kOf q.1) (st.map fun q => hD q.2) = _
    rw [items_st st, dOfK_kOf]; rfl
theorem sub_zip : ∀ (v t : List Int), (v.zip t).map (fun q => D.int (q.1 - q.2)) = (sub v t).map D.int
  | [], t => by simp [sub]
  | x :: v, [] => by simp [sub]
  | x :: v, y :: t => by
    have := sub_zip v t
    simp [sub] at this ⊢
    exact this
theorem dh_rest (v t : List Int) (h3 : v.length ≤ 3) (ρ : DEnv) (h8 : ρ[8]? = some (some (.val (tI v)))) (h9 : ρ[9]? = some (some (.val (tI t)))) (hlen : ρ.length = 12) : L_dealt_hires_1 ρ = some (lI (sub v t)) := by
  have C := lcL_all (g := gtTup 2 (gtCons (gtName 10) (gtCons (gtName 11) gtNil))) (fe := eBin gSub (pName 10) (pName 11)) (ρ := wipeD ρ [10, 11]) (fun q : Int × Int => D.tup [.int q.1, .int q.2]) (fun q => D.int (q.1 - q.2)) (v.zip t) fun q hq => by
    have hl10 : 10 < (wipeD ρ [10, 11]).length := by rw [wipeD_length, hlen]; decide
    have hl11 : 11 < ((wipeD ρ [10, 11]).set 10 (some (.val (.int q.1)))).length := by rw [List.length_set, wipeD_length, hlen]; decide
    refine ⟨((wipeD ρ [10, 11]).set 10 (some (.val (.int q.1)))).set 11 (some (.val (.int q.2))), rfl, ?_⟩
    simp only [ev_bin, ev_pname, List.getElem?_set_self hl11, List.getElem?_set_ne (show 11 ≠ 10 by decide), List.getElem?_set_self hl10, Option.bind_some, ev_sub]
  rw [sub_zip] at C
  have hz : (sub v t).length ≤ sizeLine := short_of (by unfold sub; rw [List.length_zipWith]; omega)
  have hz2 : zip2D (v.map D.int) (t.map D.int) = (v.zip t).map fun q => D.tup [.int q.1, .int q.2] := zip2D_map v t
  unfold L_dealt_hires_1
  simp only [ev_lc, ev_izip, ev_cons, ev_nil, ev_name, h8, h9, Option.bind_some, sqD_t, Option.map_some, hz2, C, List.length_map]
  rw [if_pos hz]
theorem hD_snoc (hs : List (List Int)) (t : List Int) (h : hs.length + 1 ≤ sizeLine) : gAdd (hD hs) (.tup [tI t]) = some (hD (hs ++ [t])) := by
  show (if (hs.map tI).length + _ ≤ sizeLine then _ else _) = _
  simp [hD, h]
theorem kOf_nodup : ∀ acc : List Ps, (acc.map (·.1)).Nodup → (acc.map fun q => kOf q.1).Nodup
  | [], _ => List.nodup_nil
  | a :: acc, h1 => by
    simp only [List.map_cons] at h1 ⊢
    obtain ⟨h2, h3⟩ := List.nodup_cons.mp h1
    refine List.nodup_cons.mpr ⟨fun hm => ?_, kOf_nodup acc h3⟩
    obtain ⟨z, hz1, hz2⟩ := List.mem_map.mp hm
    exact h2 (List.mem_map.mpr ⟨z, hz1, kOf_inj.mp hz2⟩)
def pdE (sl : List Int) (N L : D) (S : D) (need : Int) (acc : List Ps) (r d h w x y : Option Sl) : DEnv :=
  [some (.val (lI sl)), some (.val N), some (.val L), some (.val S), some (.val (.int need)), some (.own (dictD acc)), r, d, h, w, x, y]
theorem pd_in (sl : List Int) (N L S : D) (need : Int) (acc : List Ps) (p : Ps) (n m : Nat) (hn : n ≤ 3) (hm : m ≤ 10) (hsl : sl.length = n) (hs : ∀ s ∈ sl, 0 ≤ s ∧ s ≤ 100) (h0 : 0 ≤ need) (hn13 : need ≤ 13) (hv : Vec n p.1) (hh : ∀ h ∈ p.2, h.length = n) (hln : p.2.length = m) (ok : PsOk n (m + 1) acc) (r w x y : Option Sl) :
    ∃ ρ', B_dealt_hires_3 (pdE sl N L S need acc r (some (.val (hD p.2))) (some (.val (tI p.1))) w x y) = .nx ρ' ∧ (∃ r w x y, ρ' = pdE sl N L S need (pIn sl need acc p) r (some (.val (hD p.2))) (some (.val (tI p.1))) w x y) ∧ PsOk n (m + 1) (pIn sl need acc p) := by
  have hb := takes_bnd (sl := sl) (hv := p.1) (need := need) fun s hm => (hs s hm).1
  have F := forL_fold (g := gtName 9) (fb := B_dealt_hires_2) tI (fun acc t => pushP acc (sub p.1 t, p.2 ++ [t])) (fun acc ρ => (∃ r w x y, ρ = pdE sl N L S need acc r (some (.val (hD p.2))) (some (.val (tI p.1))) w x y) ∧ PsOk n (m + 1) acc) (takes sl need p.1) acc _ ⟨⟨r, w, x, y, rfl⟩, ok⟩ ?_
  · obtain ⟨ρ', e1, e2, e3⟩ := F
    refine ⟨ρ', ?_, e2, e3⟩
    have ht := hires_eq sl p.1 need (by rw [hsl, hv.1]) (by omega) h0 hn13
    unfold B_dealt_hires_3
    unfold pdE at e1 ⊢
    simp [ht]
    exact e1
  · rintro t ht acc ρ ⟨⟨r, w, x, y, rfl⟩, ok⟩
    obtain ⟨hw, hl⟩ := sub_vec hv hsl (hb t ht)
    have hr := dh_rest p.1 t (by rw [hv.1]; exact hn) [some (.val (lI sl)), some (.val N), some (.val L), some (.val S), some (.val (.int need)), some (.own (dictD acc)), r, some (.val (hD p.2)), some (.val (tI p.1)), some (.val (tI t)), x, y] rfl rfl rfl
    have hz : acc.length < sizeLine := by
      have := ok.ok.len hn
      rw [List.length_map] at this
      exact Nat.lt_of_lt_of_le (Nat.lt_succ_of_le this) (short_of (by omega))
    have hsz : p.2.length + 1 ≤ sizeLine := short_of (by omega)
    have hB : ∃ ρ2, B_dealt_hires_2 [some (.val (lI sl)), some (.val N), some (.val L), some (.val S), some (.val (.int need)), some (.own (dictD acc)), r, some (.val (hD p.2)), some (.val (tI p.1)), some (.val (tI t)), x, y] = .nx ρ2 ∧
        ∃ r w x y, ρ2 = pdE sl N L S need (pushP acc (sub p.1 t, p.2 ++ [t])) r (some (.val (hD p.2))) (some (.val (tI p.1))) w x y := by
      have hin : gDIn true (tI (sub p.1 t)) (dictD acc) = some (.bl (!decide (sub p.1 t ∈ acc.map (·.1)))) := by
        show (tupKey (tI (sub p.1 t))).map (fun k => D.bl (if true = true then !(look k _ _).isSome else _)) = _
        rw [tupKey_tI]
        show some (D.bl (!(look (kOf (sub p.1 t)) (acc.map fun q => kOf q.1) (acc.map fun q => hD q.2)).isSome)) = _
        rw [look_st]
      unfold B_dealt_hires_2 pushP
      by_cases c : sub p.1 t ∈ acc.map (·.1)
      · have hin : gDIn true (tI (sub p.1 t)) (dictD acc) = some (.bl false) := by rw [hin]; simp only [c, decide_true, Bool.not_true]
        rw [if_pos c]
        simp [hr, hin, pdE]
      · have hin : gDIn true (tI (sub p.1 t)) (dictD acc) = some (.bl true) := by rw [hin]; simp only [c, decide_false, Bool.not_false]
        have hput : ∀ ρ : DEnv, ρ[5]? = some (some (.own (dictD acc))) → ρ[6]? = some (some (.val (tI (sub p.1 t)))) → ρ[7]? = some (some (.val (hD p.2))) → ρ[9]? = some (some (.val (tI t))) →
            xDPut 5 (eName 6) (eBin gAdd (pName 7) (eTup (aCons (eName 9) aNil))) ρ = .nx (ρ.set 5 (some (.own (dictD (acc ++ [(sub p.1 t, p.2 ++ [t])]))))) := fun ρ q5 q6 q7 q9 => by
          have hnd := kOf_nodup acc ok.ok.nd
          unfold xDPut
          have e1 : eBin gAdd (pName 7) (eTup (aCons (eName 9) aNil)) ρ = some (hD (p.2 ++ [t])) := by
            simp only [ev_bin, ev_pname, ev_tup, ev_cons, ev_nil, ev_name, q7, q9, Option.bind_some, Option.map_some, hD_snoc _ _ hsz]
          have e2 : eName 6 ρ = some (tI (sub p.1 t)) := by simp only [ev_name, q6]
          rw [e1, e2, q5]
          show (match tupKey (tI (sub p.1 t)) with | some k => _ | none => _) = _
          rw [tupKey_tI]
          show (if (acc.map fun q => kOf q.1).Nodup ∧ (acc.map fun q => kOf q.1).length < sizeLine then R.nx (ρ.set 5 (some (.own (.dic (putD (kOf (sub p.1 t)) (hD (p.2 ++ [t])) (acc.map fun q => kOf q.1) (acc.map fun q => hD q.2)).1 (putD (kOf (sub p.1 t)) (hD (p.2 ++ [t])) (acc.map fun q => kOf q.1) (acc.map fun q => hD q.2)).2)))) else R.bad) = _
          rw [if_pos ⟨hnd, by rw [List.length_map]; exact hz⟩, put_st _ _ _ c]
          rfl
        rw [if_neg c]
        simp [hr, hin]
        rw [hput _ rfl rfl rfl rfl]
        simp [pdE]
    obtain ⟨ρ2, e1, e2⟩ := hB
    exact ⟨_, ρ2, rfl, e1, e2, ok.push hw (fun z hz => by
      rcases List.mem_append.mp hz with hz | hz
      · exact hh z hz
      · have : z = t := by simpa using hz
        rw [this]; exact hl) (by simp [hln])⟩
end K75
namespace K75
open PySem PySem.Spec PyProof.Rows L2 DL
theorem gDict_st {n m : Nat} {st : List Ps} (h0 : 0 < n) (hn : n ≤ 3) (ok : PsOk n m st) : gDictOf [dictD st] = some (dictD st) := by
  show (allInts (st.map fun q => kOf q.1)).bind (fun nss => if (nss.map hashTI).Nodup ∧ (st.map fun q => kOf q.1).length ≤ sizeLine then some (dictD st) else none) = _
  rw [allInts_st]
  have h1 := hash_nodup h0 hn ok.ok.nd ok.ok.vec
  have h2 : (st.map fun q => kOf q.1).length ≤ sizeLine := by
    have := ok.ok.len hn
    rw [List.length_map] at this ⊢
    exact short_of (by omega)
  show (if _ then _ else _) = _
  rw [if_pos ⟨h1, h2⟩]
theorem PsOk.nil {n m : Nat} : PsOk n m [] := ⟨StOk.nil, (fun q hq => by cases hq), (fun q hq => by cases hq)⟩
theorem ps_one {n : Nat} {hv : List Int} (hv9 : Vec n hv) : PsOk n 0 [(hv, [])] where
  ok := StOk.one hv9
  hs := fun q hq => by
    have e : q = (hv, []) := by simpa using hq
    rw [e]
    intro h hh
    cases hh
  ln := fun q hq => by
    have e : q = (hv, []) := by simpa using hq
    rw [e]; rfl
theorem pd_turn (sl : List Int) (N L : D) (st : List Ps) (need : Int) (n m : Nat) (hn0 : 0 < n) (hn : n ≤ 3) (hm : m ≤ 10) (hsl : sl.length = n) (hs : ∀ s ∈ sl, 0 ≤ s ∧ s ≤ 100) (h0 : 0 ≤ need) (hn13 : need ≤ 13) (ok : PsOk n m st) (g r d h w x y : Option Sl) :
    ∃ ρ', B_dealt_hires_4 [some (.val (lI sl)), some (.val N), some (.val L), some (.val (dictD st)), some (.val (.int need)), g, r, d, h, w, x, y] = .nx ρ' ∧
      (∃ g r d h w x y, ρ' = [some (.val (lI sl)), some (.val N), some (.val L), some (.val (dictD (pStep sl st need))), some (.val (.int need)), g, r, d, h, w, x, y]) ∧ PsOk n (m + 1) (pStep sl st need) := by
  have F := forL_fold (g := gtTup 2 (gtCons (gtName 8) (gtCons (gtName 7) gtNil))) (fb := B_dealt_hires_3) (fun q : Ps => D.tup [tI q.1, hD q.2]) (pIn sl need) (fun acc ρ => (∃ r d h w x y, ρ = pdE sl N L (dictD st) need acc r d h w x y) ∧ PsOk n (m + 1) acc) st [] _ ⟨⟨r, d, h, w, x, y, rfl⟩, PsOk.nil⟩ ?_
  · obtain ⟨ρ', e1, ⟨r', d', h', w', x', y', rfl⟩, e3⟩ := F
    have e1' : forL (gtTup 2 (gtCons (gtName 8) (gtCons (gtName 7) gtNil))) B_dealt_hires_3 (st.map fun q => D.tup [tI q.1, hD q.2]) [some (.val (lI sl)), some (.val N), some (.val L), some (.val (dictD st)), some (.val (.int need)), some (.own (.dic [] [])), r, d, h, w, x, y] = .nx (pdE sl N L (dictD st) need (pStep sl st need) r' d' h' w' x' y') := e1
    have hit : ∀ ρ : DEnv, ρ[3]? = some (some (.val (dictD st))) → iItemsD (eName 3) ρ = some (st.map fun q => D.tup [tI q.1, hD q.2]) := fun ρ q => by
      unfold iItemsD
      simp only [ev_name, q]
      show some (itemsD (st.map fun q => kOf q.1) (st.map fun q => hD q.2)) = _
      rw [items_st]
    have hg : gDictOf [dictD (pStep sl st need)] = some (dictD (pStep sl st need)) := gDict_st hn0 hn e3
    refine ⟨_, ?_, ⟨some (.own (dictD (pStep sl st need))), r', d', h', w', x', y', rfl⟩, e3⟩
    unfold B_dealt_hires_4
    simp
    rw [hit _ rfl]
    simp
    rw [e1']
    simp [pdE, hg]
  · rintro p hp acc ρ ⟨⟨r', d', h', w', x', y', rfl⟩, ok2⟩
    have hv : Vec n p.1 := ok.ok.vec _ (List.mem_map.mpr ⟨p, hp, rfl⟩)
    obtain ⟨ρ2, e1, ⟨r2, w2, x2, y2, e2⟩, e3⟩ := pd_in sl N L (dictD st) need acc p n m hn hm hsl hs h0 hn13 hv (ok.hs p hp) (ok.ln p hp) ok2 r' w' x' y'
    exact ⟨_, ρ2, rfl, e1, ⟨_, _, _, _, _, _, e2⟩, e3⟩
theorem dealt_hires_eq (sl needs hv : List Int) (n : Nat) (hn0 : 0 < n) (hn : n ≤ 3) (hsl : sl.length = n) (hs : ∀ s ∈ sl, 0 ≤ s ∧ s ≤ 100) (hne : ∀ x ∈ needs, 0 ≤ x ∧ x ≤ 13) (hnl : needs.length ≤ 10) (hv9 : Vec n hv) :
    ∃ d, F_dealt_hires [lI sl, lI needs, lI hv] = some d ∧ ((dealt sl needs hv = [] ∧ d = .non) ∨ (dealt sl needs hv ≠ [] ∧ ∃ hs : List (List Int), d = hD hs ∧ (∀ h ∈ hs, h.length = n) ∧ hs.length = needs.length)) := by
  have F := forL_ix (g := gtName 4) (fb := B_dealt_hires_4) D.int (pStep sl) (fun i st ρ => (∃ d g r w x y z u, ρ = [some (.val (lI sl)), some (.val (lI needs)), some (.val (lI hv)), some (.val (dictD st)), d, g, r, w, x, y, z, u]) ∧ PsOk n i st) needs 0 [(hv, [])] _ ⟨⟨none, none, none, none, none, none, none, none, rfl⟩, ps_one hv9⟩ ?_
  · obtain ⟨ρ', e1, ⟨d, g, r, w, x, y, z, u, rfl⟩, ok⟩ := F
    have e2 : needs.foldl (pStep sl) [(hv, [])] = pDealt sl needs hv := rfl
    rw [e2] at e1 ok
    rw [Nat.zero_add] at ok
    have hfst := pDealt_fst sl hv needs
    have hdic : ∀ ρ : DEnv, ρ[2]? = some (some (.val (lI hv))) → xSet 3 (eDic1 (eCB gTuple (aCons (pName 2) aNil)) (eTup aNil)) ρ = .nx (ρ.set 3 (some (.val (dictD [(hv, [])])))) := fun ρ q => by
      have : eDic1 (eCB gTuple (aCons (pName 2) aNil)) (eTup aNil) ρ = some (dictD [(hv, [])]) := by
        unfold eDic1
        simp only [ev_cb, ev_cons, ev_nil, ev_pname, q, Option.bind_some, ev_tuple_l, ev_tup, Option.map_some]
        rw [show tupKey (.tup (hv.map D.int)) = some (kOf hv) from tupKey_tI hv]
        rfl
      simp only [ev_set, this]
    have hit : ∀ (st : List Ps) (ρ : DEnv), ρ[3]? = some (some (.val (dictD st))) → iItemsD (eName 3) ρ = some (st.map fun q => D.tup [tI q.1, hD q.2]) := fun st ρ q => by
      unfold iItemsD
      simp only [ev_name, q]
      show some (itemsD (st.map fun q => kOf q.1) (st.map fun q => hD q.2)) = _
      rw [items_st]
    cases hp : pDealt sl needs hv with
    | nil =>
      rw [hp] at hfst e1
      refine ⟨.non, fn_rt (ρ := [some (.val (lI sl)), some (.val (lI needs)), some (.val (lI hv)), none, none, none, none, none, none, none, none, none]) rfl ?_, .inl ⟨hfst.symm, rfl⟩⟩
      unfold S_dealt_hires
      simp only [ev_seq]
      rw [hdic _ rfl]
      simp
      rw [e1]
      simp
      rw [hit [] _ rfl]
      simp [forL]
    | cons p st =>
      rw [hp] at hfst e1 ok
      refine ⟨hD p.2, fn_rt (ρ := [some (.val (lI sl)), some (.val (lI needs)), some (.val (lI hv)), none, none, none, none, none, none, none, none, none]) rfl ?_, .inr ⟨by rw [← hfst]; simp, p.2, rfl, ok.hs p (List.mem_cons_self ..), ok.ln p (List.mem_cons_self ..)⟩⟩
      unfold S_dealt_hires
      simp only [ev_seq]
      rw [hdic _ rfl]
      simp
      rw [e1]
      simp
      rw [hit (p :: st) _ rfl]
      simp [forL, B_dealt_hires_5]
  · rintro i q hq st ρ ⟨⟨d, g, r, w, x, y, z, u, rfl⟩, ok⟩
    obtain ⟨h0, h13⟩ := hne q (List.mem_of_getElem? hq)
    have hi : i < needs.length := (List.getElem?_eq_some_iff.mp hq).1
    obtain ⟨ρ2, e1, ⟨g', r', d', h', w', x', y', e2⟩, e3⟩ := pd_turn sl (lI needs) (lI hv) st q n (0 + i) hn0 hn (by omega) hsl hs h0 h13 ok g r w x y z u
    exact ⟨_, ρ2, rfl, e1, ⟨_, _, _, _, _, _, _, _, e2⟩, e3⟩
end K75
namespace K75
open PySem PySem.Spec PyProof.Rows L2 DL
/-! ### offers, counts as a list or a tuple -/
def sI (t : Bool) (ns : List Int) : D := if t = true then tI ns else lI ns
structure Of where
  p : Int
  m : Int
  a : Int
  b : Int
structure OfOk (o : Of) : Prop where
  m0 : 0 ≤ o.m
  m9 : o.m ≤ 9
  a0 : 0 ≤ o.a
  a9 : o.a ≤ 9
  b0 : 0 ≤ o.b
  b9 : o.b ≤ 9
def ofX (t : Bool) (o : Of) : D := sI t [o.p, o.m, o.a, o.b]
def kT (o : Of) : D := tI [o.a, o.b]
def sl1 (o : Of) : Int := o.a + 2 * o.b
def slk (os : List Of) : List Int := os.map sl1
/-! ### Crew -/
theorem is_kind_eq {a b : Int} (a0 : 0 ≤ a) (a9 : a ≤ 9) (b0 : 0 ≤ b) (b9 : b ≤ 9) : F_is_kind [tI [a, b]] = some (.bl true) := by
  refine fn_rt (ρ := [some (.val (tI [a, b])), none]) rfl ?_
  have h1 : (1 : Nat) + 1 ≤ sizeLine := short_of (by decide)
  unfold S_is_kind L_is_kind_1
  have h2 : gAll [.lst [D.bl true, D.bl true]] = some (.bl true) := rfl
  simp [wipeD, lcL, tI, a0, a9, b0, b9, h1, h2]
def cNames : List Str := ["kinds", "members", "hands", "peeks"]
def crewD (os : List Of) (ms : List Int) (pk : Int) : D := .obj "Crew" cNames [.tup (os.map kT), tI ms, .int ms.length, .int pk]
theorem set1 (d : D) : setF "kinds" d [] [] = ((["kinds"] : List Str), [d]) := rfl
theorem set2 (d x : D) : setF "members" d ["kinds"] [x] = ((["kinds", "members"] : List Str), [x, d]) := by
  unfold setF; rw [if_neg (by decide)]; rfl
theorem set3 (d x y : D) : setF "hands" d ["kinds", "members"] [x, y] = ((["kinds", "members", "hands"] : List Str), [x, y, d]) := by
  unfold setF; rw [if_neg (by decide)]; unfold setF; rw [if_neg (by decide)]; rfl
theorem set4 (d x y z : D) : setF "peeks" d ["kinds", "members", "hands"] [x, y, z] = (cNames, [x, y, z, d]) := by
  unfold setF; rw [if_neg (by decide)]; unfold setF; rw [if_neg (by decide)]; unfold setF; rw [if_neg (by decide)]; rfl
theorem lk1 (a b c d : D) : lookD cNames [a, b, c, d] "kinds" = some a := by unfold cNames lookD; rw [if_pos rfl]
theorem lk2 (a b c d : D) : lookD cNames [a, b, c, d] "members" = some b := by unfold cNames lookD; rw [if_neg (by decide)]; unfold lookD; rw [if_pos rfl]
theorem lk3 (a b c d : D) : lookD cNames [a, b, c, d] "hands" = some c := by unfold cNames lookD; rw [if_neg (by decide)]; unfold lookD; rw [if_neg (by decide)]; unfold lookD; rw [if_pos rfl]
theorem lk4 (a b c d : D) : lookD cNames [a, b, c, d] "peeks" = some d := by unfold cNames lookD; rw [if_neg (by decide)]; unfold lookD; rw [if_neg (by decide)]; unfold lookD; rw [if_neg (by decide)]; unfold lookD; rw [if_pos rfl]
theorem no1 : ("slack" : Str) ∉ cNames := by decide
theorem no2 : ("slacks" : Str) ∉ cNames := by decide
theorem no3 : ("of_kind" : Str) ∉ cNames := by decide
theorem no4 : ("strength" : Str) ∉ cNames := by decide
theorem tupComp (os : List Of) (ρ : DEnv) (hl : ρ.length = 9) (h1 : ρ[1]? = some (some (.val (.lst (os.map kT))))) (hz : os.length ≤ 1000) : L_Crew_init_3 ρ = some (.lst (os.map kT)) := by
  have C := lcL_all (g := gtTup 2 (gtCons (gtName 7) (gtCons (gtName 8) gtNil))) (fe := eTup (aCons (eName 7) (aCons (eName 8) aNil))) (ρ := wipeD ρ [7, 8]) kT kT os fun o _ => by
    have hl7 : 7 < (wipeD ρ [7, 8]).length := by rw [wipeD_length, hl]; decide
    have hl8 : 8 < ((wipeD ρ [7, 8]).set 7 (some (.val (.int o.a)))).length := by rw [List.length_set, wipeD_length, hl]; decide
    refine ⟨((wipeD ρ [7, 8]).set 7 (some (.val (.int o.a)))).set 8 (some (.val (.int o.b))), rfl, ?_⟩
    simp only [ev_tup, ev_cons, ev_nil, ev_name, List.getElem?_set_self hl8, List.getElem?_set_ne (show 8 ≠ 7 by decide), List.getElem?_set_self hl7, Option.bind_some, Option.map_some]
    rfl
  have hz2 : os.length ≤ sizeLine := short_of (by omega)
  unfold L_Crew_init_3
  simp only [ev_lc, ev_iseq, ev_name, h1, Option.bind_some, C, List.length_map]
  rw [if_pos hz2]
theorem crew_init_eq (os : List Of) (ms : List Int) (pk : Int) (ho : ∀ o ∈ os, OfOk o) (hm : ∀ x ∈ ms, 0 ≤ x ∧ x < os.length) (hz : os.length ≤ 1000) :
    F_Crew_init [.lst (os.map kT), lI ms, .int pk] = some (cNames, [.tup (os.map kT), tI ms, .int ms.length, .int pk]) := by
  have F1 := forL_fold (g := gtTup 2 (gtCons (gtName 4) (gtCons (gtName 5) gtNil))) (fb := B_Crew_init_1) (fun q : Nat × Of => D.tup [.int (q.1 : Nat), kT q.2]) (fun (u : Unit) _ => u)
    (fun _ ρ => ∃ a b c d e, ρ = [some (.own (.obj "Crew" [] [])), some (.val (.lst (os.map kT))), some (.val (lI ms)), some (.val (.int pk)), a, b, c, d, e]) ((List.range os.length).zip os) () _ ⟨none, none, none, none, none, rfl⟩ ?_
  · obtain ⟨ρ1, e1, a, b, c, d, e, rfl⟩ := F1
    have F2 := forL_fold (g := gtTup 2 (gtCons (gtName 4) (gtCons (gtName 6) gtNil))) (fb := B_Crew_init_2) (fun q : Nat × Int => D.tup [.int (q.1 : Nat), .int q.2]) (fun (u : Unit) _ => u)
      (fun _ ρ => ∃ a b c d e, ρ = [some (.own (.obj "Crew" [] [])), some (.val (.lst (os.map kT))), some (.val (lI ms)), some (.val (.int pk)), a, b, c, d, e]) ((List.range ms.length).zip ms) () _ ⟨a, b, c, d, e, rfl⟩ ?_
    · obtain ⟨ρ2, e2, a', b', c', d', e', rfl⟩ := F2
      have hen1 : enumD (os.map kT) = ((List.range os.length).zip os).map fun q => D.tup [.int (q.1 : Nat), kT q.2] := enumD_map os
      have hen2 : enumD (ms.map D.int) = ((List.range ms.length).zip ms).map fun q => D.tup [.int (q.1 : Nat), .int q.2] := enumD_map ms
      have r : S_Crew_init [some (.own (.obj "Crew" [] [])), some (.val (.lst (os.map kT))), some (.val (lI ms)), some (.val (.int pk)), none, none, none, none, none] =
          .nx [some (.own (.obj "Crew" cNames [.tup (os.map kT), tI ms, .int ms.length, .int pk])), some (.val (.lst (os.map kT))), some (.val (lI ms)), some (.val (.int pk)), a', b', c', d', e'] := by
        have l0 : (0 : Nat) < 1000 := by decide
        unfold S_Crew_init
        simp only [ev_seq, ev_for, ev_ienum, ev_name, List.getElem?_cons_succ, List.getElem?_cons_zero, Option.bind_some, sqD_l, Option.map_some, hen1, hen2, e1, e2, ev_xfld, ev_cb, ev_cons, ev_nil, ev_pname]
        rw [tupComp os _ rfl rfl hz]
        simp [set1, set2, set3, set4]
      unfold F_Crew_init inOfS
      show (match S_Crew_init [some (.own (.obj "Crew" [] [])), some (.val (.lst (os.map kT))), some (.val (lI ms)), some (.val (.int pk)), none, none, none, none, none] with | .nx ρ => _ | _ => none) = _
      rw [r]
      simp
    · rintro q hq _ ρ ⟨a, b, c, d, e, rfl⟩
      have hx := hm q.2 (List.of_mem_zip hq).2
      unfold B_Crew_init_2
      simp [hx.1, hx.2]
  · rintro q hq _ ρ ⟨a, b, c, d, e, rfl⟩
    have ho := ho q.2 (List.of_mem_zip hq).2
    have hk : F_is_kind [kT q.2] = some (.bl true) := is_kind_eq ho.a0 ho.a9 ho.b0 ho.b9
    unfold B_Crew_init_1
    simp [hk]
end K75
namespace K75
open PySem PySem.Spec PyProof.Rows L2 DL
theorem map_getD : ∀ (l : List Int), (List.range l.length).map (fun i => l.getD i 0) = l
  | [] => rfl
  | x :: l => by
    rw [List.length_cons, List.range_succ_eq_map, List.map_cons, List.map_map]
    have := map_getD l
    show x :: _ = x :: l
    congr 1
theorem filt_len (l : List Int) (q : Int → Bool) : ((List.range l.length).filter fun i => q (l.getD i 0)).length = (l.filter q).length := by
  have h : (l.filter q) = (((List.range l.length).filter (q ∘ fun i => l.getD i 0)).map fun i => l.getD i 0) := by
    rw [← List.filter_map, map_getD]
  rw [h, List.length_map]
  rfl
/-- whole numbers from 0 -/
def upTo (n : Nat) : List Int := (List.range n).map fun i : Nat => (i : Int)
def cnt (ms : List Int) (k : Int) : Nat := (ms.filter (· == k)).length
theorem iSeq_sI (t : Bool) (ns : List Int) (i : Nat) (ρ : DEnv) (h : ρ[i]? = some (some (.val (sI t ns)))) : iSeq (eName i) ρ = some (ns.map D.int) := by
  cases t <;> simp [h, sI]
theorem of_kind_eq (os : List Of) (ms : List Int) (pk k : Int) (t : Bool) (hz : ms.length < 64) :
    ∃ l : List Int, F_Crew_of_kind [crewD os ms pk, sI t (upTo ms.length), .int k] = some (lI l) ∧ l.length = cnt ms k ∧ ∀ x ∈ l, 0 ≤ x ∧ x < ms.length := by
  let ns : List Int := ((List.range ms.length).filter fun i => ms.getD i 0 == k).map fun i : Nat => (i : Int)
  have C : ∀ ρ : DEnv, ρ.length = 4 → ρ[0]? = some (some (.val (crewD os ms pk))) → ρ[1]? = some (some (.val (sI t (upTo ms.length)))) → ρ[2]? = some (some (.val (.int k))) → L_Crew_of_kind_1 ρ = some (lI ns) := fun ρ hl q0 q1 q2 => by
    have C := lcL_map (g := gtName 3) (t := tBool (eBin gEq (eBin gIx (eFld ["Crew"] "members" (pName 0)) (pName 3)) (pName 2))) (fe := eName 3) (ρ := wipeD ρ [3]) (fun i : Nat => D.int (i : Int)) (fun i => ms.getD i 0 == k) (fun i : Nat => D.int (i : Int)) (List.range ms.length) fun i hi => by
      have hi : i < ms.length := List.mem_range.mp hi
      have hl3 : 3 < (wipeD ρ [3]).length := by rw [wipeD_length, hl]; decide
      have w0 : (wipeD ρ [3])[0]? = some (some (.val (crewD os ms pk))) := by rw [wipeD_get]; simpa using q0
      have w2 : (wipeD ρ [3])[2]? = some (some (.val (.int k))) := by rw [wipeD_get]; simpa using q2
      have g1 : gIx (tI ms) (.int (i : Nat)) = some (.int (ms.getD i 0)) := gIx_tup hi
      refine ⟨_, rfl, ?_, fun _ => ?_⟩
      · simp only [ev_bool, ev_bin, ev_pname, ev_fld, List.getElem?_set_self hl3, List.getElem?_set_ne (show 3 ≠ 0 by decide), List.getElem?_set_ne (show 3 ≠ 2 by decide), w0, w2, Option.bind_some, crewD, List.mem_singleton, if_true, lk2, g1, gEq_int]
      · simp only [ev_name, List.getElem?_set_self hl3]
    have e1 : ((List.range ms.length).filter fun i => ms.getD i 0 == k).map (fun i : Nat => D.int (i : Int)) = ns.map D.int := by rw [List.map_map]; rfl
    rw [e1] at C
    have e2 : (upTo ms.length).map D.int = (List.range ms.length).map fun i : Nat => D.int (i : Int) := by unfold upTo; rw [List.map_map]; rfl
    have hz2 : ns.length ≤ sizeLine := by
      refine short_of ?_
      have : ns.length ≤ ms.length := by
        show (List.map _ _).length ≤ _
        rw [List.length_map]
        have := List.length_filter_le (fun i => ms.getD i 0 == k) (List.range ms.length)
        rw [List.length_range] at this
        exact this
      omega
    unfold L_Crew_of_kind_1
    rw [ev_lc, iSeq_sI t _ 1 ρ q1, e2]
    simp only [Option.bind_some, C, List.length_map]
    rw [if_pos hz2]
  have hnl : ns.length = cnt ms k := by
    show (List.map _ _).length = _
    rw [List.length_map]
    exact filt_len ms (· == k)
  have hlt : ns.length < 64 := by
    rw [hnl]
    exact Nat.lt_of_le_of_lt (List.length_filter_le _ _) hz
  refine ⟨sortI ns, fn_rt (ρ := [some (.val (crewD os ms pk)), some (.val (sI t (upTo ms.length))), some (.val (.int k)), none]) rfl ?_, by rw [(sortI_perm ns).length_eq, hnl], fun x hx => ?_⟩
  · unfold S_Crew_of_kind
    have C0 := C [some (.val (crewD os ms pk)), some (.val (sI t (upTo ms.length))), some (.val (.int k)), none] rfl rfl rfl rfl
    simp only [ev_ret, ev_cb, ev_cons, ev_nil, C0, Option.bind_some]
    show (match (asInts (ns.map D.int)).bind (fun ns => if ns.length < 64 then some (lI (sortI ns)) else none) with | some d => R.rt d | none => R.bad) = _
    rw [asInts_map]
    show (match (if ns.length < 64 then some (lI (sortI ns)) else none) with | some d => R.rt d | none => R.bad) = _
    rw [if_pos hlt]
  · have hx2 : x ∈ ns := (sortI_perm ns).mem_iff.mp hx
    obtain ⟨i, hi, rfl⟩ := List.mem_map.mp hx2
    have := List.mem_range.mp (List.mem_filter.mp hi).1
    omega
theorem slack_eq (os : List Of) (ms : List Int) (pk : Int) (k : Nat) (hk : k < os.length) (ho : ∀ o ∈ os, OfOk o) : F_Crew_slack [crewD os ms pk, .int (k : Nat)] = some (.int ((slk os).getD k 0)) := by
  have g1 : gIx (.tup (os.map kT)) (.int (k : Nat)) = some (kT (os.getD k ⟨0, 0, 0, 0⟩)) := gIx_tup hk
  have e : (slk os).getD k 0 = sl1 (os.getD k ⟨0, 0, 0, 0⟩) := by
    unfold slk
    simp [List.getD_eq_getElem?_getD, hk]
  have oo := ho (os.getD k ⟨0, 0, 0, 0⟩) (by rw [List.getD_eq_getElem?_getD, List.getElem?_eq_getElem hk]; exact List.getElem_mem hk)
  rw [e]
  generalize os.getD k ⟨0, 0, 0, 0⟩ = o at g1 oo
  have hm : CMul 2 o.b := cmul_l (by decide)
  refine fn_rt (ρ := [some (.val (crewD os ms pk)), some (.val (.int (k : Nat))), none, none]) rfl ?_
  unfold S_Crew_slack
  simp [crewD, lk1, g1, kT, hm, sl1]
theorem meth_eq {m : Str} {F : FF} {n : Nat} {fo : FE} {fa : FA} {ρ : DEnv} {os : List Of} {ms : List Int} {pk : Int} {ds : List D} (h : m ∉ cNames) (ho : fo ρ = some (crewD os ms pk)) (ha : fa ρ = some ds) (hn : ds.length + 1 = n) : eMeth "Crew" m F [] n fo fa ρ = F (crewD os ms pk :: ds) := by
  rw [ev_meth, ho]
  show (if ("Crew" : Str) = "Crew" ∧ m ∉ cNames then _ else none) = _
  rw [if_pos ⟨rfl, h⟩, ha]
  show (if (D.obj _ _ _ :: (ds ++ [])).length = n then F (D.obj _ _ _ :: (ds ++ [])) else none) = _
  rw [List.append_nil, List.length_cons, if_pos hn]
  rfl
theorem slacks_eq (os : List Of) (ms : List Int) (pk : Int) (ho : ∀ o ∈ os, OfOk o) (hz : os.length ≤ 1000) : F_Crew_slacks [crewD os ms pk] = some (lI (slk os)) := by
  have hl : (slk os).length = os.length := by unfold slk; rw [List.length_map]
  have hsm : smallI (os.length : Int) = true := smallI_of (by omega) (by omega)
  have C := lcL_all (g := gtName 1) (fe := eMeth "Crew" "slack" F_Crew_slack [] 2 (eName 0) (aCons (eName 1) aNil)) (ρ := [some (.val (crewD os ms pk)), none]) (fun i : Nat => D.int (i : Int)) (fun i => D.int ((slk os).getD i 0)) (List.range os.length) fun i hi => by
    have hi : i < os.length := List.mem_range.mp hi
    refine ⟨_, rfl, ?_⟩
    exact (meth_eq (os := os) (ms := ms) (pk := pk) (n := 2) (ds := [.int (i : Nat)]) no1 rfl rfl rfl).trans (slack_eq os ms pk i hi ho)
  have e1 : (List.range os.length).map (fun i => D.int ((slk os).getD i 0)) = (slk os).map D.int := by
    have := map_getD (slk os)
    rw [hl] at this
    conv => rhs; rw [← this]
    rw [List.map_map]; rfl
  rw [e1] at C
  have hz2 : (slk os).length ≤ sizeLine := short_of (by omega)
  refine fn_rt (ρ := [some (.val (crewD os ms pk)), none]) rfl ?_
  unfold S_Crew_slacks L_Crew_slacks_1
  have hf : eFld ["Crew"] "kinds" (pName 0) [some (.val (crewD os ms pk)), none] = some (.tup (os.map kT)) := by simp [crewD, lk1]
  simp only [ev_ret, ev_lc, ev_irange, ev_cons, ev_cb, ev_nil, hf, Option.bind_some, gLen_t, List.length_map, hsm, if_true, Int.toNat_natCast, rangeD_nat]
  show (match (lcL _ tYesD _ [some (.val (crewD os ms pk)), none] _).bind _ with | some d => R.rt d | none => R.bad) = _
  rw [C]
  simp [hz2]
end K75
namespace K75
open PySem PySem.Spec PyProof.Rows L2 DL
/-! ### the hands of a hire -/
def memZ (l : List (Nat × Int)) : List Int := l.flatMap fun q => List.replicate q.2.toNat (q.1 : Int)
def mem (cs : List Int) : List Int := memZ ((List.range cs.length).zip cs)
theorem memZ_mem {n : Nat} : ∀ (cs : List Int) (s : Nat), ∀ x ∈ memZ ((List.range' s cs.length).zip cs), (s : Int) ≤ x ∧ x < s + cs.length
  | [], s, x, hx => by simp [memZ] at hx
  | c :: cs, s, x, hx => by
    rw [List.length_cons, List.range'_succ, List.zip_cons_cons] at hx
    unfold memZ at hx
    rw [List.flatMap_cons] at hx
    rcases List.mem_append.mp hx with hx | hx
    · have := (List.mem_replicate.mp hx).2
      rw [this]
      simp only [List.length_cons]
      omega
    · have := memZ_mem (n := n) cs (s + 1) x hx
      simp only [List.length_cons]
      omega
theorem memZ_len : ∀ (cs : List Int) (s : Nat), (∀ c ∈ cs, 0 ≤ c) → ((memZ ((List.range' s cs.length).zip cs)).length : Int) = cs.sum
  | [], s, _ => by simp [memZ]
  | c :: cs, s, h => by
    rw [List.length_cons, List.range'_succ, List.zip_cons_cons]
    have h1 := h c (List.mem_cons_self ..)
    have := memZ_len cs (s + 1) fun x hx => h x (List.mem_cons_of_mem _ hx)
    unfold memZ at this ⊢
    rw [List.flatMap_cons, List.length_append, List.length_replicate, List.sum_cons]
    omega
theorem memZ_cnt : ∀ (cs : List Int) (s k : Nat), (∀ c ∈ cs, 0 ≤ c) → ((cnt (memZ ((List.range' s cs.length).zip cs)) ((s + k : Nat) : Int) : Nat) : Int) = cs.getD k 0
  | [], s, k, _ => by simp [memZ, cnt]
  | c :: cs, s, k, h => by
    rw [List.length_cons, List.range'_succ, List.zip_cons_cons]
    have h1 := h c (List.mem_cons_self ..)
    have hr := fun x hx => memZ_mem (n := 0) cs (s + 1) x hx
    have hc : ∀ x : Int, cnt (memZ ((s, c) :: (List.range' (s + 1) cs.length).zip cs)) x = cnt (List.replicate c.toNat (s : Int)) x + cnt (memZ ((List.range' (s + 1) cs.length).zip cs)) x := fun x => by
      unfold cnt memZ
      rw [List.flatMap_cons, List.filter_append, List.length_append]
    rw [hc]
    cases k with
    | zero =>
      have e1 : cnt (List.replicate c.toNat (s : Int)) ((s + 0 : Nat) : Int) = c.toNat := by
        unfold cnt
        rw [List.filter_replicate]
        simp
      have e2 : cnt (memZ ((List.range' (s + 1) cs.length).zip cs)) ((s + 0 : Nat) : Int) = 0 := by
        unfold cnt
        rw [List.length_eq_zero_iff, List.filter_eq_nil_iff]
        intro x hx
        have := (hr x hx).1
        simp
        omega
      rw [e1, e2]
      simp
      omega
    | succ k =>
      have e1 : cnt (List.replicate c.toNat (s : Int)) ((s + (k + 1) : Nat) : Int) = 0 := by
        unfold cnt
        rw [List.length_eq_zero_iff, List.filter_eq_nil_iff]
        intro x hx
        have := (List.mem_replicate.mp hx).2
        rw [this]
        simp
        omega
      have := memZ_cnt cs (s + 1) k fun x hx => h x (List.mem_cons_of_mem _ hx)
      rw [e1, Nat.zero_add, show s + (k + 1) = s + 1 + k by omega, this]
      simp
structure CsOk (n : Nat) (cs : List Int) : Prop where
  vec : Vec n cs
  sum : cs.sum ≤ 9
theorem mem_len {n : Nat} {cs : List Int} (h : CsOk n cs) : ((mem cs).length : Int) = cs.sum := by
  unfold mem
  rw [List.range_eq_range']
  exact memZ_len cs 0 fun c hc => (h.vec.2 c hc).1
theorem mem_len9 {n : Nat} {cs : List Int} (h : CsOk n cs) : (mem cs).length ≤ 9 := by
  have := mem_len h
  have := h.sum
  omega
theorem mem_cnt {n : Nat} {cs : List Int} (h : CsOk n cs) (k : Nat) : ((cnt (mem cs) (k : Int) : Nat) : Int) = cs.getD k 0 := by
  unfold mem
  rw [List.range_eq_range']
  have := memZ_cnt cs 0 k fun c hc => (h.vec.2 c hc).1
  rw [Nat.zero_add] at this
  exact this
theorem mem_mem {n : Nat} {cs : List Int} (h : CsOk n cs) : ∀ x ∈ mem cs, 0 ≤ x ∧ x < n := fun x hx => by
  unfold mem at hx
  rw [List.range_eq_range'] at hx
  have := memZ_mem (n := 0) cs 0 x hx
  have := h.vec.1
  omega
/-! ### hire_crew -/
@[simp] theorem sqD_sI (t : Bool) (ns : List Int) : sqD (sI t ns) = some (t, ns.map D.int) := by cases t <;> rfl
theorem flat_rep (n : Nat) (x : Int) : (List.replicate n [D.int x]).flatten = (List.replicate n x).map D.int := by
  induction n with
  | zero => rfl
  | succ n ih => rw [List.replicate_succ, List.flatten_cons, ih, List.replicate_succ]; rfl
theorem rep_eq (x c : Int) (h0 : 0 ≤ c) (h9 : c ≤ 9) : gRep (.lst [.int x]) (.int c) = some (.lst ((List.replicate c.toNat x).map D.int)) := by
  show (if -(2 ^ 63) ≤ c ∧ c < 2 ^ 63 ∧ [D.int x].length * c.toNat ≤ sizeLine then some (D.lst (List.replicate c.toNat [D.int x]).flatten) else none) = _
  rw [if_pos ⟨by omega, by omega, short_of (by show 1 * c.toNat ≤ _; omega)⟩, flat_rep]
theorem kinds_comp (os : List Of) (t : Bool) (ρ : DEnv) (hl : ρ.length = 10) (h0 : ρ[0]? = some (some (.val (.lst (os.map (ofX t)))))) (hz : os.length ≤ 1000) : L_hire_crew_2 ρ = some (.lst (os.map kT)) := by
  have C := lcL_all (g := gtTup 4 (gtCons (gtName 6) (gtCons (gtName 7) (gtCons (gtName 8) (gtCons (gtName 9) gtNil))))) (fe := eTup (aCons (eName 8) (aCons (eName 9) aNil))) (ρ := wipeD ρ [6, 7, 8, 9]) (ofX t) kT os fun o _ => by
    have hw : (wipeD ρ [6, 7, 8, 9]).length = 10 := by rw [wipeD_length, hl]
    generalize wipeD ρ [6, 7, 8, 9] = r at hw
    refine ⟨(((r.set 6 (some (.val (.int o.p)))).set 7 (some (.val (.int o.m)))).set 8 (some (.val (.int o.a)))).set 9 (some (.val (.int o.b))), by cases t <;> rfl, ?_⟩
    have h9 : 9 < (((r.set 6 (some (.val (.int o.p)))).set 7 (some (.val (.int o.m)))).set 8 (some (.val (.int o.a)))).length := by simp [hw]
    have h8 : 8 < ((r.set 6 (some (.val (.int o.p)))).set 7 (some (.val (.int o.m)))).length := by simp [hw]
    simp only [ev_tup, ev_cons, ev_nil, ev_name, List.getElem?_set_self h9, List.getElem?_set_ne (show 9 ≠ 8 by decide), List.getElem?_set_self h8, Option.bind_some, Option.map_some]
    rfl
  have hz2 : os.length ≤ sizeLine := short_of (by omega)
  unfold L_hire_crew_2
  simp only [ev_lc, ev_iseq, ev_name, h0, Option.bind_some, C, List.length_map]
  rw [if_pos hz2]
theorem hire_crew_eq (os : List Of) (t u : Bool) (cs : List Int) (pk : Int) (ho : ∀ o ∈ os, OfOk o) (hz : os.length ≤ 1000) (hc : CsOk os.length cs) :
    F_hire_crew [.lst (os.map (ofX t)), sI u cs, .int pk] = some (crewD os (mem cs) pk) := by
  have P := forL_push (g := gtTup 2 (gtCons (gtName 4) (gtCons (gtName 5) gtNil))) (fb := B_hire_crew_1) (fun q : Nat × Int => D.tup [.int (q.1 : Nat), .int q.2]) (fun q => (List.replicate q.2.toNat (q.1 : Int)).map D.int)
    (fun l ρ => ∃ a b c d e f, ρ = [some (.val (.lst (os.map (ofX t)))), some (.val (sI u cs)), some (.val (.int pk)), some (.own (.lst l)), a, b, c, d, e, f]) ((List.range cs.length).zip cs) [] _ ⟨none, none, none, none, none, none, rfl⟩ ?_ ?_
  · obtain ⟨ρ', e1, a, b, c, d, e, f, rfl⟩ := P
    rw [List.nil_append] at e1
    have e2 : ((List.range cs.length).zip cs).flatMap (fun q => (List.replicate q.2.toNat (q.1 : Int)).map D.int) = (mem cs).map D.int := by unfold mem memZ; rw [List.map_flatMap]
    rw [e2] at e1
    have hen : enumD (cs.map D.int) = ((List.range cs.length).zip cs).map fun q => D.tup [.int (q.1 : Nat), .int q.2] := enumD_map cs
    have hmk := crew_init_eq os (mem cs) pk ho (fun x hx => mem_mem hc x hx) hz
    refine fn_rt (ρ := [some (.val (.lst (os.map (ofX t)))), some (.val (sI u cs)), some (.val (.int pk)), none, none, none, none, none, none, none]) rfl ?_
    unfold S_hire_crew
    simp [hen]
    rw [e1]
    simp
    rw [kinds_comp os t _ rfl rfl hz]
    simp [hmk, crewD]
  · rw [List.nil_append]
    have e2 : ((List.range cs.length).zip cs).flatMap (fun q => (List.replicate q.2.toNat (q.1 : Int)).map D.int) = (mem cs).map D.int := by unfold mem memZ; rw [List.map_flatMap]
    rw [e2, List.length_map]
    exact short_of (by have := mem_len9 hc; omega)
  · rintro q hq l ρ ⟨a, b, c, d, e, f, rfl⟩ hz2
    have hx := hc.vec.2 q.2 (List.of_mem_zip hq).2
    have hr := rep_eq (q.1 : Int) q.2 hx.1 hx.2
    rw [List.length_map, List.length_replicate] at hz2
    unfold B_hire_crew_1
    simp [hr, hz2]
end K75
namespace K75
open PySem PySem.Spec PyProof.Rows L2 DL
/-! ### partitions -/
def parts : Nat → List (List Int)
  | 1 => [[1]]
  | 2 => [[2], [1, 1]]
  | 3 => [[3], [2, 1], [1, 1, 1]]
  | 4 => [[4], [3, 1], [2, 2], [2, 1, 1], [1, 1, 1, 1]]
  | _ => []
theorem partitions_eq : ∀ L : Nat, 1 ≤ L → L ≤ 4 → F_partitions [.int (L : Int), .int (L : Int)] = some (.lst ((parts L).map tI))
  | 1, _, _ => by kernel_rfl
  | 2, _, _ => by kernel_rfl
  | 3, _, _ => by kernel_rfl
  | 4, _, _ => by kernel_rfl
theorem lparts_eq : ∀ L : Nat, 1 ≤ L → L ≤ 4 → F__law_parts [.int (L : Int), .int (L : Int)] = some (.lst ((parts L).reverse.map lI))
  | 1, _, _ => by kernel_rfl
  | 2, _, _ => by kernel_rfl
  | 3, _, _ => by kernel_rfl
  | 4, _, _ => by kernel_rfl
/-! ### strength -/
def pos0 (x : Int) : Int := if 0 < x then x else 0
def stren (sl cs : List Int) : Int := ((List.range sl.length).map fun k => pos0 (cs.getD k 0 - sl.getD k 0)).sum
theorem zip_range {β : Type} (f : Nat → Int → β) : ∀ (l : List Int) (s : Nat), ((List.range' s l.length).zip l).map (fun q => f q.1 q.2) = (List.range l.length).map fun k => f (s + k) (l.getD k 0)
  | [], s => rfl
  | x :: l, s => by
    rw [List.length_cons, List.range'_succ, List.zip_cons_cons, List.map_cons, zip_range f l (s + 1), List.range_succ_eq_map, List.map_cons, List.map_map]
    show f s x :: _ = f (s + 0) x :: _
    rw [Nat.add_zero]
    congr 1
    refine List.map_congr_left fun k _ => ?_
    show f (s + 1 + k) _ = f (s + (k + 1)) _
    rw [show s + 1 + k = s + (k + 1) by omega]
    rfl
theorem strength_eq (os : List Of) (cs : List Int) (pk : Int) (ho : ∀ o ∈ os, OfOk o) (hz : os.length ≤ 1000) (hc : CsOk os.length cs) :
    F_Crew_strength [crewD os (mem cs) pk, tI (upTo (mem cs).length)] = some (.int (stren (slk os) cs)) := by
  have hsl : (slk os).length = os.length := by unfold slk; rw [List.length_map]
  have C := lcL_all (g := gtTup 2 (gtCons (gtName 3) (gtCons (gtName 4) gtNil))) (fe := eCB gMax2 (aCons (eK (.int 0)) (aCons (eBin DL.gSub (eCB gLen (aCons (eMeth "Crew" "of_kind" F_Crew_of_kind [] 3 (eName 0) (aCons (eName 1) (aCons (eName 3) aNil))) aNil)) (pName 4)) aNil)))
    (ρ := [some (.val (crewD os (mem cs) pk)), some (.val (tI (upTo (mem cs).length))), none, none, none]) (fun q : Nat × Int => D.tup [.int (q.1 : Nat), .int q.2]) (fun q => D.int (pos0 (cs.getD q.1 0 - q.2))) ((List.range (slk os).length).zip (slk os)) fun q hq => by
      obtain ⟨l, e1, e2, _⟩ := of_kind_eq os (mem cs) pk (q.1 : Int) true (by have := mem_len9 hc; omega)
      have e1' : F_Crew_of_kind [crewD os (mem cs) pk, tI (upTo (mem cs).length), .int (q.1 : Nat)] = some (lI l) := e1
      have e3 := mem_cnt hc q.1
      have hm := meth_eq (os := os) (ms := mem cs) (pk := pk) (n := 3) (F := F_Crew_of_kind) (fo := eName 0) (fa := aCons (eName 1) (aCons (eName 3) aNil)) (ρ := [some (.val (crewD os (mem cs) pk)), some (.val (tI (upTo (mem cs).length))), none, some (.val (.int (q.1 : Nat))), some (.val (.int q.2))]) (ds := [tI (upTo (mem cs).length), .int (q.1 : Nat)]) no3 rfl rfl rfl
      refine ⟨[some (.val (crewD os (mem cs) pk)), some (.val (tI (upTo (mem cs).length))), none, some (.val (.int (q.1 : Nat))), some (.val (.int q.2))], rfl, ?_⟩
      rw [ev_cb, ev_cons, ev_k, ev_cons, ev_bin, ev_cb, ev_cons, hm, e1']
      simp
      rw [e2, e3, List.getD_eq_getElem?_getD]
      unfold pos0
      split <;> split <;> first | rfl | omega
  have e1 : ((List.range (slk os).length).zip (slk os)).map (fun q => D.int (pos0 (cs.getD q.1 0 - q.2))) = ((List.range (slk os).length).map fun k => pos0 (cs.getD k 0 - (slk os).getD k 0)).map D.int := by
    have := zip_range (fun k x => D.int (pos0 (cs.getD k 0 - x))) (slk os) 0
    rw [← List.range_eq_range'] at this
    rw [this, List.map_map]
    refine List.map_congr_left fun k _ => ?_
    rw [Nat.zero_add]; rfl
  rw [e1] at C
  have hen : enumD ((slk os).map D.int) = ((List.range (slk os).length).zip (slk os)).map fun q => D.tup [.int (q.1 : Nat), .int q.2] := enumD_map _
  have hme := meth_eq (os := os) (ms := mem cs) (pk := pk) (n := 1) (F := F_Crew_slacks) (fo := eName 0) (fa := aNil) (ρ := [some (.val (crewD os (mem cs) pk)), some (.val (tI (upTo (mem cs).length))), none, none, none]) (ds := []) no2 rfl rfl rfl
  have hs := slacks_eq os (mem cs) pk ho hz
  have hl2 : (slk os).length ≤ sizeLine := short_of (by omega)
  refine fn_rt (ρ := [some (.val (crewD os (mem cs) pk)), some (.val (tI (upTo (mem cs).length))), none, none, none]) rfl ?_
  unfold S_Crew_strength L_Crew_strength_1
  rw [ev_seq, ev_new, ev_lc, ev_ienum, hme, hs]
  unfold stren
  have hnl : ((List.range (slk os).length).map fun k => pos0 (cs.getD k 0 - (slk os).getD k 0)).length = (slk os).length := by rw [List.length_map, List.length_range]
  generalize ((List.range (slk os).length).map fun k => pos0 (cs.getD k 0 - (slk os).getD k 0)) = ns at C hnl
  simp [hen, wipeD]
  rw [C]
  have hs2 : gSum [.lst (ns.map D.int)] = some (.int ns.sum) := by show (asInts (ns.map D.int)).map _ = _; rw [asInts_map]; rfl
  simp [hnl, hl2, hs2]
end K75
namespace K75
open PySem PySem.Spec PyProof.Rows L2 DL
/-! ### named_groups: some tuple -/
def cutI (l : List Int) (lo hi : Option Int) : List Int := (l.drop (HT.sIx l.length 0 lo)).take (HT.sIx l.length l.length hi - HT.sIx l.length 0 lo)
theorem cutI_len (l : List Int) (lo hi : Option Int) : (cutI l lo hi).length ≤ l.length := by
  unfold cutI
  rw [List.length_take, List.length_drop]
  omega
theorem cutD_map (l : List Int) (lo hi : Option Int) : DL.cutD (l.map D.int) lo hi = (cutI l lo hi).map D.int := by
  unfold DL.cutD cutI
  rw [List.length_map, List.map_take, List.map_drop]
theorem slL_lI (l : List Int) (lo hi : Option Int) : gSlL (lI l) lo hi = some (lI (cutI l lo hi)) := by
  show some (D.lst (DL.cutD (l.map D.int) lo hi)) = _
  rw [cutD_map]
theorem sl_lI (l : List Int) (lo hi : Option Int) : DL.gSl (lI l) lo hi = some (lI (cutI l lo hi)) := by
  show some (D.lst (DL.cutD (l.map D.int) lo hi)) = _
  rw [cutD_map]
def PoolOk (n : Nat) (ps : List (List Int)) : Prop := ps.length = n ∧ ∀ p ∈ ps, p.length ≤ 9
theorem ix_lst (ps : List (List Int)) (k : Nat) (hk : k < ps.length) : gIx (.lst (ps.map lI)) (.int (k : Nat)) = some (lI (ps.getD k [])) := gIx_lst hk
theorem getD_mem2 {α : Type} {l : List α} {k : Nat} {d : α} (hk : k < l.length) : l.getD k d ∈ l := by
  rw [List.getD_eq_getElem?_getD, List.getElem?_eq_getElem hk]; exact List.getElem_mem hk
theorem PoolOk.set {n : Nat} {ps : List (List Int)} (h : PoolOk n ps) (k : Nat) (l : List Int) (hl : l.length ≤ 9) : PoolOk n (ps.set k l) := ⟨by rw [List.length_set]; exact h.1, fun p hp => by
  rcases List.mem_or_eq_of_mem_set hp with hp | hp
  · exact h.2 p hp
  · rw [hp]; exact hl⟩
theorem ng_in (C S F E G : Option Sl) (st sz hi : Option Sl) (n : Nat) (hn : n ≤ 3) (h : List Int) (hh : h.length = n) : ∀ (ps : List (List Int)), PoolOk n ps → ∀ (a b : Option Sl),
    ∃ ρ', forL (gtTup 2 (gtCons (gtName 10) (gtCons (gtName 11) gtNil))) B_named_groups_2 (enumD (h.map D.int)) [C, S, F, E, some (.own (.lst (ps.map lI))), G, st, sz, hi, some (.own (.lst [])), a, b] = .nx ρ' ∧
      ∃ (ps' : List (List Int)) (hd : List Int) (a b : Option Sl), ρ' = [C, S, F, E, some (.own (.lst (ps'.map lI))), G, st, sz, hi, some (.own (.lst (hd.map D.int))), a, b] ∧ PoolOk n ps' ∧ hd.length ≤ 27 := by
  intro ps hp a b
  rw [enumD_map]
  have F := forL_ix (g := gtTup 2 (gtCons (gtName 10) (gtCons (gtName 11) gtNil))) (fb := B_named_groups_2) (fun q : Nat × Int => D.tup [.int (q.1 : Nat), .int q.2]) (fun (u : Unit) _ => u)
    (fun i _ ρ => ∃ (ps' : List (List Int)) (hd : List Int) (a b : Option Sl), ρ = [C, S, F, E, some (.own (.lst (ps'.map lI))), G, st, sz, hi, some (.own (.lst (hd.map D.int))), a, b] ∧ PoolOk n ps' ∧ hd.length ≤ 9 * i) ((List.range h.length).zip h) 0 () _ ⟨ps, [], a, b, rfl, hp, by simp⟩ ?_
  · obtain ⟨ρ', e1, ps', hd, a', b', e2, e3, e4⟩ := F
    refine ⟨ρ', e1, ps', hd, a', b', e2, e3, ?_⟩
    have : ((List.range h.length).zip h).length ≤ 3 := by rw [List.length_zip, List.length_range]; omega
    omega
  · rintro i q hq _ ρ ⟨ps', hd, a, b, rfl, hp, hl⟩
    have hi3 : i < 3 := by
      have := (List.getElem?_eq_some_iff.mp hq).1
      rw [List.length_zip, List.length_range] at this
      omega
    have hk : q.1 < ps'.length := by
      have := (List.of_mem_zip (List.mem_of_getElem? hq)).1
      have := List.mem_range.mp this
      rw [hp.1]
      omega
    have hp9 := hp.2 _ (getD_mem2 (d := []) hk)
    have g1 := ix_lst ps' q.1 hk
    generalize ps'.getD q.1 [] = l at g1 hp9
    have c1 := cutI_len l none (some q.2)
    have c2 := cutI_len l (some q.2) none
    have hz : hd.length + (cutI l none (some q.2)).length ≤ sizeLine := short_of (by omega)
    have hix : ixN ps'.length (q.1 : Nat) = some q.1 := by unfold ixN; simp [hk]
    have hB : ∃ ρ2, B_named_groups_2 [C, S, F, E, some (.own (.lst (ps'.map lI))), G, st, sz, hi, some (.own (.lst (hd.map D.int))), some (.val (.int (q.1 : Nat))), some (.val (.int q.2))] = .nx ρ2 ∧
        ρ2 = [C, S, F, E, some (.own (.lst ((ps'.set q.1 (cutI l (some q.2) none)).map lI))), G, st, sz, hi, some (.own (.lst ((hd ++ cutI l none (some q.2)).map D.int))), some (.val (.int (q.1 : Nat))), some (.val (.int q.2))] := by
      have hms : (ps'.map lI).set q.1 (lI (cutI l (some q.2) none)) = (ps'.set q.1 (cutI l (some q.2) none)).map lI := by rw [List.map_set]
      unfold B_named_groups_2
      simp [g1, slL_lI, sl_lI, hz, hix]
    obtain ⟨ρ2, e1, e2⟩ := hB
    exact ⟨_, ρ2, rfl, e1, _, _, _, _, e2, hp.set q.1 _ (by omega), by rw [List.length_append]; omega⟩
theorem sorted_some (l : List Int) (h : l.length < 64) : gSorted [.lst (l.map D.int)] = some (lI (sortI l)) := by
  show (asInts (l.map D.int)).bind (fun ns => if ns.length < 64 then some (D.lst ((sortI ns).map D.int)) else none) = _
  rw [asInts_map]
  show (if l.length < 64 then _ else _) = _
  rw [if_pos h]
theorem pools_eq (os : List Of) (cs : List Int) (pk : Int) (hz : os.length ≤ 1000) (hc : CsOk os.length cs) (E : D) (hE : E = lI (upTo (mem cs).length)) (ρ : DEnv) (hl : ρ.length = 12) (h0 : ρ[0]? = some (some (.val (crewD os (mem cs) pk)))) (h3 : ρ[3]? = some (some (.val E))) :
    ∃ ps : List (List Int), L_named_groups_1 ρ = some (.lst (ps.map lI)) ∧ PoolOk os.length ps := by
  have key : ∀ i : Nat, ∃ l : List Int, F_Crew_of_kind [crewD os (mem cs) pk, lI (upTo (mem cs).length), .int (i : Nat)] = some (lI l) ∧ l.length ≤ 9 := fun i => by
    obtain ⟨l, e1, e2, _⟩ := of_kind_eq os (mem cs) pk (i : Int) false (by have := mem_len9 hc; omega)
    refine ⟨l, e1, ?_⟩
    rw [e2]
    have := List.length_filter_le (· == (i : Int)) (mem cs)
    have := mem_len9 hc
    unfold cnt
    omega
  let f : Nat → List Int := fun i => (key i).choose
  have hf := fun i => (key i).choose_spec
  have C := lcL_all (g := gtName 10) (fe := eMeth "Crew" "of_kind" F_Crew_of_kind [] 3 (eName 0) (aCons (eName 3) (aCons (eName 10) aNil))) (ρ := wipeD ρ [10]) (fun i : Nat => D.int (i : Int)) (fun i => lI (f i)) (List.range os.length) fun i hi => by
    have hl10 : 10 < (wipeD ρ [10]).length := by rw [wipeD_length, hl]; decide
    have w0 : (wipeD ρ [10])[0]? = some (some (.val (crewD os (mem cs) pk))) := by rw [wipeD_get]; simpa using h0
    have w3 : (wipeD ρ [10])[3]? = some (some (.val E)) := by rw [wipeD_get]; simpa using h3
    refine ⟨_, rfl, ?_⟩
    refine (meth_eq (os := os) (ms := mem cs) (pk := pk) (n := 3) (ds := [E, .int (i : Nat)]) no3 ?_ ?_ rfl).trans ?_
    · simp only [ev_name, List.getElem?_set_ne (show 10 ≠ 0 by decide), w0]
    · simp only [ev_cons, ev_name, ev_nil, List.getElem?_set_ne (show 10 ≠ 3 by decide), w3, List.getElem?_set_self hl10, Option.bind_some]
    · rw [hE]; exact (hf i).1
  have hsm : smallI (os.length : Int) = true := smallI_of (by omega) (by omega)
  refine ⟨(List.range os.length).map f, ?_, by rw [List.length_map, List.length_range], fun p hp => ?_⟩
  · have hfk : eFld ["Crew"] "kinds" (pName 0) ρ = some (.tup (os.map kT)) := by
      simp only [ev_fld, ev_pname, h0, Option.bind_some, crewD, List.mem_singleton, if_true, lk1]
    have hz2 : os.length ≤ sizeLine := short_of (by omega)
    unfold L_named_groups_1
    simp only [ev_lc, ev_irange, ev_cons, ev_cb, ev_nil, hfk, Option.bind_some, gLen_t, List.length_map, hsm, if_true, Int.toNat_natCast, rangeD_nat, C, List.length_range, hz2, List.map_map]
    rfl
  · obtain ⟨i, _, rfl⟩ := List.mem_map.mp hp
    exact (hf i).2
end K75
namespace K75
open PySem PySem.Spec PyProof.Rows L2 DL
theorem rgOk_small {i j : Int} (h1 : 0 ≤ i) (h2 : i ≤ 1000) (h3 : 0 ≤ j) (h4 : j ≤ 1000) : rgOkB i j = true := by
  unfold rgOkB
  rw [smallI_of (by omega) (by omega), smallI_of (by omega) (by omega)]
  rw [decide_eq_true (show (j - i).toNat ≤ 2 ^ 24 from Nat.le_trans (show (j - i).toNat ≤ 1000 by omega) (by decide))]
  rfl
theorem ng_some (os : List Of) (cs : List Int) (pk : Int) (hn : os.length ≤ 3) (hc : CsOk os.length cs) (sz : List Int) (hs : List (List Int)) (hsz : ∀ s ∈ sz, 0 ≤ s ∧ s ≤ 4) (hl : sz.length ≤ 10) (hh : ∀ h ∈ hs, h.length = os.length) :
    ∃ l, F_named_groups [crewD os (mem cs) pk, tI sz, hD hs] = some (.tup l) := by
  have h9 := mem_len9 hc
  obtain ⟨ps, hps, hpo⟩ := pools_eq os cs pk (by omega) hc (lI (upTo (mem cs).length)) rfl [some (.val (crewD os (mem cs) pk)), some (.val (tI sz)), some (.val (hD hs)), some (.val (lI (upTo (mem cs).length))), none, none, none, none, none, none, none, none] rfl rfl rfl
  have F := forL_ix (g := gtTup 2 (gtCons (gtName 7) (gtCons (gtName 8) gtNil))) (fb := B_named_groups_3) (fun q : Int × List Int => D.tup [.int q.1, tI q.2]) (fun (u : Unit) _ => u)
    (fun i _ ρ => ∃ (ps' : List (List Int)) (gs : List D) (st : Int) (a b c d e : Option Sl), ρ = [some (.val (crewD os (mem cs) pk)), some (.val (tI sz)), some (.val (hD hs)), some (.val (lI (upTo (mem cs).length))), some (.own (.lst (ps'.map lI))), some (.own (.lst gs)), some (.val (.int st)), a, b, c, d, e] ∧ PoolOk os.length ps' ∧ gs.length ≤ i ∧ 0 ≤ st ∧ st ≤ 4 * i)
    (sz.zip hs) 0 () _ ⟨ps, [], 0, none, none, none, none, none, rfl, hpo, by simp, by omega, by omega⟩ ?_
  · obtain ⟨ρ', e1, ps', gs, st, a, b, c, d, e, rfl, e3, e4, _, _⟩ := F
    have hz : zip2D (sz.map D.int) (hs.map tI) = (sz.zip hs).map fun q => D.tup [.int q.1, tI q.2] := zip2D_map sz hs
    have hrg : rgOkB 0 ((mem cs).length : Int) = true := rgOk_small (by omega) (by omega) (by omega) (by omega)
    have hup : rgD 0 ((mem cs).length : Int) = (upTo (mem cs).length).map D.int := by
      unfold rgD upTo
      rw [List.map_map, show ((mem cs).length : Int) - 0 = ((mem cs).length : Int) by omega, Int.toNat_natCast]
      refine List.map_congr_left fun k _ => ?_
      show D.int (0 + (k : Int)) = D.int (k : Int)
      rw [Int.zero_add]
    refine ⟨gs, fn_rt (ρ := [some (.val (crewD os (mem cs) pk)), some (.val (tI sz)), some (.val (hD hs)), none, none, none, none, none, none, none, none, none]) rfl ?_⟩
    have hfh : ∀ ρ : DEnv, ρ[0]? = some (some (.val (crewD os (mem cs) pk))) → eFld ["Crew"] "hands" (pName 0) ρ = some (.int ((mem cs).length : Int)) := fun ρ q => by
      simp only [ev_fld, ev_pname, q, Option.bind_some, crewD, List.mem_singleton, if_true, lk3]
    have hE : ∀ ρ : DEnv, ρ[0]? = some (some (.val (crewD os (mem cs) pk))) → eLstRg (fRg1 (eFld ["Crew"] "hands" (pName 0))) ρ = some (lI (upTo (mem cs).length)) := fun ρ q => by
      unfold eLstRg fRg1
      rw [hfh ρ q]
      show (if rgOkB 0 _ = true then some (D.lst (rgD 0 _)) else none) = _
      rw [if_pos hrg, hup]
    unfold S_named_groups
    rw [ev_seq, ev_set, hE _ rfl]
    simp only [List.set_cons_succ, List.set_cons_zero]
    rw [ev_seq, ev_new, hps]
    simp [hD, hz]
    simp only [hD] at e1
    rw [e1]
    simp
  · rintro i q hq _ ρ ⟨ps', gs, st, a, b, c, d, e, rfl, hp, hg, h0, h4⟩
    have hqm := List.mem_of_getElem? hq
    have hi : i < 10 := by
      have := (List.getElem?_eq_some_iff.mp hq).1
      rw [List.length_zip] at this
      omega
    have hs1 := hsz q.1 (List.of_mem_zip hqm).1
    have hh1 := hh q.2 (List.of_mem_zip hqm).2
    obtain ⟨ρ2, e1, ps2, hd, a', b', e2, hp2, hd27⟩ := ng_in (some (.val (crewD os (mem cs) pk))) (some (.val (tI sz))) (some (.val (hD hs))) (some (.val (lI (upTo (mem cs).length)))) (some (.own (.lst gs))) (some (.val (.int st))) (some (.val (.int q.1))) (some (.val (tI q.2))) os.length hn q.2 hh1 ps' hp d e
    subst e2
    have hso := sorted_some hd (by omega)
    have hrg : rgOkB st (st + q.1) = true := rgOk_small (by omega) (by omega) (by omega) (by omega)
    have hz : gs.length < sizeLine := Nat.lt_of_lt_of_le (show gs.length < 100 by omega) (short_of (by omega))
    have hB : ∃ ρ3, B_named_groups_3 [some (.val (crewD os (mem cs) pk)), some (.val (tI sz)), some (.val (hD hs)), some (.val (lI (upTo (mem cs).length))), some (.own (.lst (ps'.map lI))), some (.own (.lst gs)), some (.val (.int st)), some (.val (.int q.1)), some (.val (tI q.2)), c, d, e] = .nx ρ3 ∧
        ∃ g : D, ρ3 = [some (.val (crewD os (mem cs) pk)), some (.val (tI sz)), some (.val (hD hs)), some (.val (lI (upTo (mem cs).length))), some (.own (.lst (ps2.map lI))), some (.own (.lst (gs ++ [g]))), some (.val (.int (st + q.1))), some (.val (.int q.1)), some (.val (tI q.2)), some (.own (.lst (hd.map D.int))), a', b'] := by
      have ht : ∀ ρ : DEnv, ρ[6]? = some (some (.val (.int st))) → ρ[7]? = some (some (.val (.int q.1))) → eTupRg (fRg2 (pName 6) (eBin gAdd (pName 6) (pName 7))) ρ = some (.tup (rgD st (st + q.1))) := fun ρ q6 q7 => by
        unfold eTupRg fRg2
        simp only [ev_bin, ev_pname, q6, q7, Option.bind_some, ev_add]
        rw [if_pos hrg]
      unfold B_named_groups_3
      simp
      rw [e1]
      simp
      rw [ht _ rfl rfl]
      simp [hso, hz]
    obtain ⟨ρ3, e3, g, e4⟩ := hB
    exact ⟨_, ρ3, rfl, e3, ps2, gs ++ [g], st + q.1, _, _, _, _, _, e4, hp2, by rw [List.length_append, List.length_singleton]; omega, by omega, by omega⟩
end K75
namespace K75
open PySem PySem.Spec PyProof.Rows L2 DL
def needs (d : Int) (p : List Int) : List Int := p.map fun s => (s - 1) * d + 1
def openOk (L : Nat) (d : Int) (os : List Of) (cs : List Int) : Bool := (parts L).any fun p => decide (dealt (slk os) (needs d p) cs ≠ [])
def enough (L : Nat) (d pk : Int) (os : List Of) (cs : List Int) : Bool := if pk = 0 then openOk L d os cs else decide (¬ stren (slk os) cs < ((L : Int) + pk - 1) * d + 1)
theorem parts_ok : ∀ (L : Nat) (p : List Int), p ∈ parts L → p.length ≤ 4 ∧ ∀ s ∈ p, 1 ≤ s ∧ s ≤ 4
  | 0, p, hp => by cases hp
  | 1, p, hp => (show ∀ p ∈ parts 1, p.length ≤ 4 ∧ ∀ s ∈ p, 1 ≤ s ∧ s ≤ 4 by decide) p hp
  | 2, p, hp => (show ∀ p ∈ parts 2, p.length ≤ 4 ∧ ∀ s ∈ p, 1 ≤ s ∧ s ≤ 4 by decide) p hp
  | 3, p, hp => (show ∀ p ∈ parts 3, p.length ≤ 4 ∧ ∀ s ∈ p, 1 ≤ s ∧ s ≤ 4 by decide) p hp
  | 4, p, hp => (show ∀ p ∈ parts 4, p.length ≤ 4 ∧ ∀ s ∈ p, 1 ≤ s ∧ s ≤ 4 by decide) p hp
  | n + 5, p, hp => by cases hp
theorem needs_ok {L : Nat} {d : Int} (d1 : 1 ≤ d) (d4 : d ≤ 4) {p : List Int} (hp : p ∈ parts L) : (∀ x ∈ needs d p, 0 ≤ x ∧ x ≤ 13) ∧ (needs d p).length ≤ 10 := by
  obtain ⟨h1, h2⟩ := parts_ok L p hp
  refine ⟨fun x hx => ?_, by unfold needs; rw [List.length_map]; omega⟩
  obtain ⟨s, hs, rfl⟩ := List.mem_map.mp hx
  obtain ⟨s1, s4⟩ := h2 s hs
  have e1 : 0 ≤ (s - 1) * d := Int.mul_nonneg (by omega) (by omega)
  have e2 : (s - 1) * d ≤ 3 * d := Int.mul_le_mul_of_nonneg_right (by omega) (by omega)
  omega
theorem slk_ok {os : List Of} (ho : ∀ o ∈ os, OfOk o) : ∀ s ∈ slk os, 0 ≤ s ∧ s ≤ 100 := fun s hs => by
  obtain ⟨o, hm, rfl⟩ := List.mem_map.mp hs
  have := ho o hm
  have := this.a0; have := (ho o hm).a9; have := (ho o hm).b0; have := (ho o hm).b9
  unfold sl1
  omega
theorem slk_len (os : List Of) : (slk os).length = os.length := by unfold slk; rw [List.length_map]
theorem needed_eq (l d p : Int) (h : CMul (l + p - 1) d) : F_needed_strength [.int l, .int d, .int p] = some (.int ((l + p - 1) * d + 1)) := by
  refine fn_rt (ρ := [some (.val (.int l)), some (.val (.int d)), some (.val (.int p))]) rfl ?_
  unfold S_needed_strength
  simp [h]
/-- what a turn of open_grouping returns -/
def ogR (os : List Of) (cs : List Int) (pk d : Int) (p : List Int) : Option D := (F_dealt_hires [lI (slk os), lI (needs d p), lI cs]).bind fun f => if isNon f = true then none else F_named_groups [crewD os (mem cs) pk, tI p, f]
theorem counts_eq (os : List Of) (cs : List Int) (pk : Int) (hz : os.length ≤ 1000) (hc : CsOk os.length cs) (ρ : DEnv) (hl : ρ.length = 10) (h2 : ρ[2]? = some (some (.val (crewD os (mem cs) pk)))) (h3 : ρ[3]? = some (some (.val (lI (upTo (mem cs).length))))) : L_open_grouping_1 ρ = some (lI cs) := by
  have C := lcL_all (g := gtName 8) (fe := eCB gLen (aCons (eMeth "Crew" "of_kind" F_Crew_of_kind [] 3 (eName 2) (aCons (eName 3) (aCons (eName 8) aNil))) aNil)) (ρ := wipeD ρ [8]) (fun i : Nat => D.int (i : Int)) (fun i => D.int (cs.getD i 0)) (List.range os.length) fun i hi => by
    have hl8 : 8 < (wipeD ρ [8]).length := by rw [wipeD_length, hl]; decide
    have w2 : (wipeD ρ [8])[2]? = some (some (.val (crewD os (mem cs) pk))) := by rw [wipeD_get]; simpa using h2
    have w3 : (wipeD ρ [8])[3]? = some (some (.val (lI (upTo (mem cs).length)))) := by rw [wipeD_get]; simpa using h3
    obtain ⟨l, e1, e2, _⟩ := of_kind_eq os (mem cs) pk (i : Int) false (by have := mem_len9 hc; omega)
    have e1' : F_Crew_of_kind [crewD os (mem cs) pk, lI (upTo (mem cs).length), .int (i : Nat)] = some (lI l) := e1
    have hm := meth_eq (os := os) (ms := mem cs) (pk := pk) (n := 3) (F := F_Crew_of_kind) (fo := eName 2) (fa := aCons (eName 3) (aCons (eName 8) aNil)) (ρ := (wipeD ρ [8]).set 8 (some (.val (.int (i : Nat))))) (ds := [lI (upTo (mem cs).length), .int (i : Nat)]) no3
      (by simp only [ev_name, List.getElem?_set_ne (show 8 ≠ 2 by decide), w2]) (by simp only [ev_cons, ev_name, ev_nil, List.getElem?_set_ne (show 8 ≠ 3 by decide), w3, List.getElem?_set_self hl8, Option.bind_some]) rfl
    refine ⟨_, rfl, ?_⟩
    rw [ev_cb, ev_cons, hm, e1']
    simp only [Option.bind_some, ev_nil, gLen_l, List.length_map, e2, mem_cnt hc i]
  have e1 : (List.range os.length).map (fun i => D.int (cs.getD i 0)) = cs.map D.int := by
    have := map_getD cs
    rw [hc.vec.1] at this
    conv => rhs; rw [← this]
    rw [List.map_map]; rfl
  rw [e1] at C
  have hsm : smallI (os.length : Int) = true := smallI_of (by omega) (by omega)
  have hfk : eFld ["Crew"] "kinds" (pName 2) ρ = some (.tup (os.map kT)) := by
    simp only [ev_fld, ev_pname, h2, Option.bind_some, crewD, List.mem_singleton, if_true, lk1]
  have hz2 : cs.length ≤ sizeLine := short_of (by have := hc.vec.1; omega)
  unfold L_open_grouping_1
  simp only [ev_lc, ev_irange, ev_cons, ev_cb, ev_nil, hfk, Option.bind_some, gLen_t, List.length_map, hsm, if_true, Int.toNat_natCast, rangeD_nat, C, hz2]
theorem needs_eq (d : Int) (p : List Int) (hd : 1 ≤ d ∧ d ≤ 4) (hp : p.length ≤ 100) (ρ : DEnv) (hl : ρ.length = 10) (h1 : ρ[1]? = some (some (.val (.int d)))) (h5 : ρ[5]? = some (some (.val (tI p)))) : L_open_grouping_2 ρ = some (lI (needs d p)) := by
  have C := lcL_all (g := gtName 9) (fe := eCall F_needed_strength [] 3 (aCons (eName 9) (aCons (eName 1) (aCons (eK (.int 0)) aNil)))) (ρ := wipeD ρ [9]) D.int (fun s => D.int ((s - 1) * d + 1)) p fun s hs => by
    have hl9 : 9 < (wipeD ρ [9]).length := by rw [wipeD_length, hl]; decide
    have w1 : (wipeD ρ [9])[1]? = some (some (.val (.int d))) := by rw [wipeD_get]; simpa using h1
    have hn := needed_eq s d 0 (cmul_r (by omega))
    rw [Int.add_zero] at hn
    refine ⟨_, rfl, ?_⟩
    simp only [ev_call, ev_cons, ev_name, ev_nil, ev_k, List.getElem?_set_ne (show 9 ≠ 1 by decide), w1, List.getElem?_set_self hl9, Option.bind_some, List.append_nil, List.length_cons, List.length_nil, if_true, hn]
  have e1 : p.map (fun s => D.int ((s - 1) * d + 1)) = (needs d p).map D.int := by unfold needs; rw [List.map_map]; rfl
  rw [e1] at C
  have hz2 : (needs d p).length ≤ sizeLine := short_of (by unfold needs; rw [List.length_map]; omega)
  unfold L_open_grouping_2
  simp only [ev_lc, ev_iseq, ev_name, h5, Option.bind_some, C, List.length_map, hz2, if_true]
theorem findSome_isSome {α β : Type} {f : α → Option β} {p : α → Bool} : ∀ (l : List α), (∀ x ∈ l, (f x).isSome = p x) → (l.findSome? f).isSome = l.any p
  | [], _ => rfl
  | x :: l, h => by
    have hx := h x (List.mem_cons_self ..)
    have ih := findSome_isSome l fun y hy => h y (List.mem_cons_of_mem _ hy)
    rw [List.findSome?_cons, List.any_cons, ← hx]
    cases q : f x with
    | some d => rfl
    | none => simpa using ih
theorem open_eq (L : Nat) (d pk : Int) (os : List Of) (cs : List Int) (hL1 : 1 ≤ L) (hL4 : L ≤ 4) (hd : 1 ≤ d ∧ d ≤ 4) (hn0 : 0 < os.length) (hn : os.length ≤ 3) (ho : ∀ o ∈ os, OfOk o) (hc : CsOk os.length cs) :
    ∃ r, F_open_grouping [.int (L : Int), .int d, crewD os (mem cs) pk] = some r ∧ isNon r = !openOk L d os cs := by
  have h9 := mem_len9 hc
  -- a turn
  have hdeal : ∀ p ∈ parts L, ∃ f, F_dealt_hires [lI (slk os), lI (needs d p), lI cs] = some f ∧ ((dealt (slk os) (needs d p) cs = [] ∧ f = .non) ∨ (dealt (slk os) (needs d p) cs ≠ [] ∧ isNon f = false ∧ ∃ l, F_named_groups [crewD os (mem cs) pk, tI p, f] = some (.tup l))) := fun p hp => by
    obtain ⟨n1, n2⟩ := needs_ok hd.1 hd.2 hp
    obtain ⟨f, e1, e2⟩ := dealt_hires_eq (slk os) (needs d p) cs os.length hn0 hn (slk_len os) (slk_ok ho) n1 n2 hc.vec
    refine ⟨f, e1, ?_⟩
    rcases e2 with ⟨a, b⟩ | ⟨a, hs, b, c, _⟩
    · exact .inl ⟨a, b⟩
    · subst b
      obtain ⟨p1, p2⟩ := parts_ok L p hp
      exact .inr ⟨a, rfl, ng_some os cs pk hn hc p hs (fun s hs => by have := p2 s hs; omega) (by omega) c⟩
  have hr : ∀ p ∈ parts L, (ogR os cs pk d p).isSome = decide (dealt (slk os) (needs d p) cs ≠ []) ∧ ∀ x, ogR os cs pk d p = some x → isNon x = false := fun p hp => by
    obtain ⟨f, e1, e2⟩ := hdeal p hp
    unfold ogR
    rw [e1]
    rcases e2 with ⟨a, b⟩ | ⟨a, b, l, c⟩
    · subst b
      exact ⟨by simp [a], fun x h => by simp at h⟩
    · rw [Option.bind_some, b, if_neg Bool.false_ne_true, c]
      exact ⟨by simp [a], fun x h => by cases h; rfl⟩
  have F := forL_find (g := gtName 5) (fb := B_open_grouping_3) tI (ogR os cs pk d) (fun ρ => ∃ x4 a b c e f, ρ = [some (.val (.int (L : Int))), some (.val (.int d)), some (.val (crewD os (mem cs) pk)), some (.val (lI (upTo (mem cs).length))), x4, a, b, c, e, f] ∧ (x4 = some (.own (lI cs)) ∨ x4 = some (.val (lI cs)))) (parts L) _ ⟨some (.own (lI cs)), none, none, none, none, none, rfl, .inl rfl⟩ ?_
  · have hrg : rgOkB 0 ((mem cs).length : Int) = true := rgOk_small (by omega) (by omega) (by omega) (by omega)
    have hup : rgD 0 ((mem cs).length : Int) = (upTo (mem cs).length).map D.int := by
      unfold rgD upTo
      rw [List.map_map, show ((mem cs).length : Int) - 0 = ((mem cs).length : Int) by omega, Int.toNat_natCast]
      refine List.map_congr_left fun k _ => ?_
      show D.int (0 + (k : Int)) = D.int (k : Int)
      rw [Int.zero_add]
    have hE : ∀ ρ : DEnv, ρ[2]? = some (some (.val (crewD os (mem cs) pk))) → eLstRg (fRg1 (eFld ["Crew"] "hands" (pName 2))) ρ = some (lI (upTo (mem cs).length)) := fun ρ q => by
      have : eFld ["Crew"] "hands" (pName 2) ρ = some (.int ((mem cs).length : Int)) := by
        simp only [ev_fld, ev_pname, q, Option.bind_some, crewD, List.mem_singleton, if_true, lk3]
      unfold eLstRg fRg1
      rw [this]
      show (if rgOkB 0 _ = true then some (D.lst (rgD 0 _)) else none) = _
      rw [if_pos hrg, hup]
    have hC := counts_eq os cs pk (by omega) hc [some (.val (.int (L : Int))), some (.val (.int d)), some (.val (crewD os (mem cs) pk)), some (.val (lI (upTo (mem cs).length))), none, none, none, none, none, none] rfl rfl rfl
    have hP := partitions_eq L hL1 hL4
    have hany := findSome_isSome (parts L) fun p hp => (hr p hp).1
    have start : ∀ k : FS, (xSeq (xSet 3 (eLstRg (fRg1 (eFld ["Crew"] "hands" (pName 2))))) (xSeq (xNew 4 L_open_grouping_1) k)) [some (.val (.int (L : Int))), some (.val (.int d)), some (.val (crewD os (mem cs) pk)), none, none, none, none, none, none, none] =
        k [some (.val (.int (L : Int))), some (.val (.int d)), some (.val (crewD os (mem cs) pk)), some (.val (lI (upTo (mem cs).length))), some (.own (lI cs)), none, none, none, none, none] := fun k => by
      rw [ev_seq, ev_set, hE _ rfl]
      simp only [List.set_cons_succ, List.set_cons_zero]
      rw [ev_seq, ev_new, hC]
      simp
    cases hf : (parts L).findSome? (ogR os cs pk d) with
    | some x =>
      rw [hf] at F hany
      refine ⟨x, fn_rt (ρ := [some (.val (.int (L : Int))), some (.val (.int d)), some (.val (crewD os (mem cs) pk)), none, none, none, none, none, none, none]) rfl ?_, ?_⟩
      · unfold S_open_grouping
        rw [start]
        simp [hP]
        rw [F]
      · obtain ⟨p, hp, hx⟩ := List.exists_of_findSome?_eq_some hf
        rw [(hr p hp).2 x hx]
        show false = !openOk L d os cs
        unfold openOk
        rw [← hany]; rfl
    | none =>
      rw [hf] at F hany
      obtain ⟨ρ', F, x4, a, b, c, e, f, rfl, _⟩ := F
      refine ⟨.non, fn_rt (ρ := [some (.val (.int (L : Int))), some (.val (.int d)), some (.val (crewD os (mem cs) pk)), none, none, none, none, none, none, none]) rfl ?_, ?_⟩
      · unfold S_open_grouping
        rw [start]
        simp [hP]
        rw [F]
      · show true = !openOk L d os cs
        unfold openOk
        rw [← hany]; rfl
  · rintro p hp ρ ⟨x4, a, b, c, e, f, rfl, hx4⟩
    obtain ⟨p1, p2⟩ := parts_ok L p hp
    obtain ⟨ff, e1, e2⟩ := hdeal p hp
    have hN : ∀ x4 b c e f, L_open_grouping_2 [some (.val (.int (L : Int))), some (.val (.int d)), some (.val (crewD os (mem cs) pk)), some (.val (lI (upTo (mem cs).length))), x4, some (.val (tI p)), b, c, e, f] = some (lI (needs d p)) := fun x4 b c e f => needs_eq d p hd (by omega) _ rfl rfl rfl
    have hs := slacks_eq os (mem cs) pk ho (by omega)
    have hm : ∀ x4 b c e f, eMeth "Crew" "slacks" F_Crew_slacks [] 1 (eName 2) aNil [some (.val (.int (L : Int))), some (.val (.int d)), some (.val (crewD os (mem cs) pk)), some (.val (lI (upTo (mem cs).length))), x4, some (.val (tI p)), b, c, e, f] = some (lI (slk os)) := fun x4 b c e f => (meth_eq (os := os) (ms := mem cs) (pk := pk) (n := 1) (ds := []) no2 rfl rfl rfl).trans hs
    refine ⟨_, rfl, ?_⟩
    have hB : B_open_grouping_3 [some (.val (.int (L : Int))), some (.val (.int d)), some (.val (crewD os (mem cs) pk)), some (.val (lI (upTo (mem cs).length))), x4, some (.val (tI p)), b, c, e, f] =
        (match isNon ff with
        | true => .nx [some (.val (.int (L : Int))), some (.val (.int d)), some (.val (crewD os (mem cs) pk)), some (.val (lI (upTo (mem cs).length))), some (.val (lI cs)), some (.val (tI p)), some (.val (lI (needs d p))), some (.val ff), e, f]
        | false => (match F_named_groups [crewD os (mem cs) pk, tI p, ff] with | some r => .rt r | none => .bad)) := by
      unfold B_open_grouping_3
      rcases hx4 with rfl | rfl
      · simp [-ev_meth, hN, hm, e1]
        cases isNon ff <;> rfl
      · simp [-ev_meth, hN, hm, e1]
        cases isNon ff <;> rfl
    have hrr : ogR os cs pk d p = (match isNon ff with | true => none | false => F_named_groups [crewD os (mem cs) pk, tI p, ff]) := by
      unfold ogR
      rw [e1, Option.bind_some]
      cases isNon ff <;> rfl
    rw [hrr]
    rcases e2 with ⟨a1, b1⟩ | ⟨a1, b1, l, c1⟩
    · subst b1
      exact ⟨_, hB, _, _, _, _, _, _, rfl, .inr rfl⟩
    · rw [b1]
      rw [b1, c1] at hB
      rw [c1]
      exact hB
end K75
namespace K75
open PySem PySem.Spec PyProof.Rows L2 DL
theorem rg_up (n : Nat) : rgD 0 (n : Int) = (upTo n).map D.int := by
  unfold rgD upTo
  rw [List.map_map, show (n : Int) - 0 = (n : Int) by omega, Int.toNat_natCast]
  refine List.map_congr_left fun k _ => ?_
  show D.int (0 + (k : Int)) = D.int (k : Int)
  rw [Int.zero_add]
theorem is_enough_eq (L : Nat) (d pk : Int) (os : List Of) (cs : List Int) (hL1 : 1 ≤ L) (hL4 : L ≤ 4) (hd : 1 ≤ d ∧ d ≤ 4) (hpk : 0 ≤ pk ∧ pk ≤ 3) (hn0 : 0 < os.length) (hn : os.length ≤ 3) (ho : ∀ o ∈ os, OfOk o) (hc : CsOk os.length cs) :
    F_is_enough [.int (L : Int), .int d, crewD os (mem cs) pk] = some (.bl (enough L d pk os cs)) := by
  have h9 := mem_len9 hc
  have key : ∃ r, F_grouping [.int (L : Int), .int d, crewD os (mem cs) pk] = some r ∧ isNon r = !enough L d pk os cs := by
    have hpe : ∀ ρ : DEnv, ρ[2]? = some (some (.val (crewD os (mem cs) pk))) → eFld ["Crew"] "peeks" (pName 2) ρ = some (.int pk) := fun ρ q => by
      simp only [ev_fld, ev_pname, q, Option.bind_some, crewD, List.mem_singleton, if_true, lk4]
    by_cases z : pk = 0
    · obtain ⟨r, e1, e2⟩ := open_eq L d pk os cs hL1 hL4 hd hn0 hn ho hc
      refine ⟨r, fn_rt (ρ := [some (.val (.int (L : Int))), some (.val (.int d)), some (.val (crewD os (mem cs) pk)), none]) rfl ?_, by unfold enough; rw [if_pos z]; exact e2⟩
      have hb : (pk == 0) = true := by rw [z]; rfl
      unfold S_grouping
      rw [ev_seq, ev_xif, ev_bool, ev_bin, hpe _ rfl]
      simp [-ev_fld, hb, e1]
    · have hst := strength_eq os cs pk ho (by omega) hc
      have hne := needed_eq (L : Int) d pk (cmul_r (by omega))
      have hrg : rgOkB 0 ((mem cs).length : Int) = true := rgOk_small (by omega) (by omega) (by omega) (by omega)
      have hrg2 : rgOkB 0 (L : Int) = true := rgOk_small (by omega) (by omega) (by omega) (by omega)
      have hE : ∀ ρ : DEnv, ρ[2]? = some (some (.val (crewD os (mem cs) pk))) → eTupRg (fRg1 (eFld ["Crew"] "hands" (pName 2))) ρ = some (tI (upTo (mem cs).length)) := fun ρ q => by
        have : eFld ["Crew"] "hands" (pName 2) ρ = some (.int ((mem cs).length : Int)) := by
          simp only [ev_fld, ev_pname, q, Option.bind_some, crewD, List.mem_singleton, if_true, lk3]
        unfold eTupRg fRg1
        rw [this]
        show (if rgOkB 0 _ = true then some (D.tup (rgD 0 _)) else none) = _
        rw [if_pos hrg, rg_up]
      have hL : ∀ ρ : DEnv, ρ[0]? = some (some (.val (.int (L : Int)))) → eTupRg (fRg1 (pName 0)) ρ = some (tI (upTo L)) := fun ρ q => by
        unfold eTupRg fRg1
        simp only [ev_pname, q]
        show (if rgOkB 0 _ = true then some (D.tup (rgD 0 _)) else none) = _
        rw [if_pos hrg2, rg_up]
      have hm : eMeth "Crew" "strength" F_Crew_strength [] 2 (eName 2) (aCons (eName 3) aNil) [some (.val (.int (L : Int))), some (.val (.int d)), some (.val (crewD os (mem cs) pk)), some (.val (tI (upTo (mem cs).length)))] = some (.int (stren (slk os) cs)) :=
        (meth_eq (os := os) (ms := mem cs) (pk := pk) (n := 2) (ds := [tI (upTo (mem cs).length)]) no4 rfl rfl rfl).trans hst
      have hb : (pk == 0) = false := beq_eq_false_iff_ne.mpr z
      have start : ∀ k : FS, (xSeq (xIf (tBool (eBin gEq (eFld ["Crew"] "peeks" (pName 2)) (eK (.int 0)))) (xRet (eCall F_open_grouping [] 3 (aCons (eName 0) (aCons (eName 1) (aCons (eName 2) aNil))))) xPass) (xSeq (xSet 3 (eTupRg (fRg1 (eFld ["Crew"] "hands" (pName 2))))) k))
          [some (.val (.int (L : Int))), some (.val (.int d)), some (.val (crewD os (mem cs) pk)), none] = k [some (.val (.int (L : Int))), some (.val (.int d)), some (.val (crewD os (mem cs) pk)), some (.val (tI (upTo (mem cs).length)))] := fun k => by
        rw [ev_seq, ev_xif, ev_bool, ev_bin, hpe _ rfl]
        simp [-ev_fld, hb]
        rw [hE _ rfl]
      have hnd : eCall F_needed_strength [] 3 (aCons (eName 0) (aCons (eName 1) (aCons (eFld ["Crew"] "peeks" (pName 2)) aNil))) [some (.val (.int (L : Int))), some (.val (.int d)), some (.val (crewD os (mem cs) pk)), some (.val (tI (upTo (mem cs).length)))] = some (.int (((L : Int) + pk - 1) * d + 1)) := by
        have hp0 := hpe [some (.val (.int (L : Int))), some (.val (.int d)), some (.val (crewD os (mem cs) pk)), some (.val (tI (upTo (mem cs).length)))] rfl
        simp only [ev_call, ev_cons, ev_name, ev_nil, hp0, List.getElem?_cons_succ, List.getElem?_cons_zero, Option.bind_some, List.append_nil, List.length_cons, List.length_nil, if_true, hne]
      by_cases c : stren (slk os) cs < ((L : Int) + pk - 1) * d + 1
      · refine ⟨.non, fn_rt (ρ := [some (.val (.int (L : Int))), some (.val (.int d)), some (.val (crewD os (mem cs) pk)), none]) rfl ?_, by unfold enough; rw [if_neg z]; simp [c]⟩
        unfold S_grouping
        rw [start, ev_seq, ev_xif, ev_bool, ev_bin, hm, hnd]
        simp [c]
      · refine ⟨.tup [.tup [tI (upTo L), tI (upTo (mem cs).length)]], fn_rt (ρ := [some (.val (.int (L : Int))), some (.val (.int d)), some (.val (crewD os (mem cs) pk)), none]) rfl ?_, by unfold enough; rw [if_neg z]; simp [c]⟩
        unfold S_grouping
        rw [start, ev_seq, ev_xif, ev_bool, ev_bin, hm, hnd]
        simp [c, hL]
  obtain ⟨r, e1, e2⟩ := key
  refine fn_rt (ρ := [some (.val (.int (L : Int))), some (.val (.int d)), some (.val (crewD os (mem cs) pk))]) rfl ?_
  unfold S_is_enough
  simp [e1, e2]
end K75
namespace K75
open PySem PySem.Spec PyProof.Rows L2 DL
def kL (o : Of) : D := lI [o.a, o.b]
theorem lslacks_eq (os : List Of) (ho : ∀ o ∈ os, OfOk o) (hz : os.length ≤ 1000) : F__law_slacks [.lst (os.map kL)] = some (lI (slk os)) := by
  have C := lcL_all (g := gtName 1) (fe := eBin gAdd (eBin gIx (pName 1) (eK (.int 0))) (eBin gMul (eK (.int 2)) (eBin gIx (pName 1) (eK (.int 1))))) (ρ := [some (.val (.lst (os.map kL))), none]) kL (fun o => D.int (sl1 o)) os fun o hm => by
    have g0 : gIx (kL o) (.int 0) = some (.int o.a) := rfl
    have g1 : gIx (kL o) (.int 1) = some (.int o.b) := rfl
    have hc : CMul 2 o.b := cmul_l (by decide)
    refine ⟨_, rfl, ?_⟩
    simp [g0, g1, hc, sl1]
  have e1 : os.map (fun o => D.int (sl1 o)) = (slk os).map D.int := by unfold slk; rw [List.map_map]; rfl
  rw [e1] at C
  have hz2 : (slk os).length ≤ sizeLine := short_of (by rw [slk_len]; omega)
  refine fn_rt (ρ := [some (.val (.lst (os.map kL))), none]) rfl ?_
  unfold S__law_slacks L__law_slacks_1
  simp only [ev_ret, ev_lc, ev_iseq, ev_name, List.getElem?_cons_zero, Option.bind_some]
  show (match (lcL _ tYesD _ [some (.val (.lst (os.map kL))), none] _).bind _ with | some d => R.rt d | none => R.bad) = _
  rw [C]
  simp [hz2]
theorem lenough_eq (L : Nat) (d pk : Int) (os : List Of) (cs : List Int) (hL1 : 1 ≤ L) (hL4 : L ≤ 4) (hd : 1 ≤ d ∧ d ≤ 4) (hpk : 0 ≤ pk ∧ pk ≤ 3) (hn0 : 0 < os.length) (hn : os.length ≤ 3) (ho : ∀ o ∈ os, OfOk o) (hc : CsOk os.length cs) :
    F__law_enough [.int (L : Int), .int d, .lst (os.map kL), lI cs, .int pk] = some (.bl (enough L d pk os cs)) := by
  have hsl := lslacks_eq os ho (by omega)
  have hcl := hc.vec.1
  have start : ∀ k : FS, (xSeq (xSet 5 (eCall F__law_slacks [] 1 (aCons (eName 2) aNil))) k) [some (.val (.int (L : Int))), some (.val (.int d)), some (.val (.lst (os.map kL))), some (.val (lI cs)), some (.val (.int pk)), none, none, none, none, none] =
      k [some (.val (.int (L : Int))), some (.val (.int d)), some (.val (.lst (os.map kL))), some (.val (lI cs)), some (.val (.int pk)), some (.val (lI (slk os))), none, none, none, none] := fun k => by
    simp [hsl]
  by_cases z : pk = 0
  · subst z
    have F := forL_find (g := gtName 6) (fb := B__law_enough_3) lI (fun p => if dealt (slk os) (needs d p) cs ≠ [] then some (D.bl true) else none) (fun ρ => ∃ a b c e, ρ = [some (.val (.int (L : Int))), some (.val (.int d)), some (.val (.lst (os.map kL))), some (.val (lI cs)), some (.val (.int 0)), some (.val (lI (slk os))), a, b, c, e]) (parts L).reverse _ ⟨none, none, none, none, rfl⟩ ?_
    · have hP := lparts_eq L hL1 hL4
      have hany := findSome_isSome (f := fun p => if dealt (slk os) (needs d p) cs ≠ [] then some (D.bl true) else none) (p := fun p => decide (dealt (slk os) (needs d p) cs ≠ [])) (parts L).reverse fun p _ => by
        by_cases c : dealt (slk os) (needs d p) cs ≠ []
        · rw [if_pos c, decide_eq_true c]; rfl
        · rw [if_neg c, decide_eq_false c]; rfl
      rw [List.any_reverse] at hany
      have he : enough L d 0 os cs = openOk L d os cs := by unfold enough; rw [if_pos rfl]
      have hall : ∀ x, (parts L).reverse.findSome? (fun p => if dealt (slk os) (needs d p) cs ≠ [] then some (D.bl true) else none) = some x → x = .bl true := fun x hx => by
        obtain ⟨p, _, hp⟩ := List.exists_of_findSome?_eq_some hx
        split at hp <;> cases hp
        rfl
      rw [he]
      refine fn_rt (ρ := [some (.val (.int (L : Int))), some (.val (.int d)), some (.val (.lst (os.map kL))), some (.val (lI cs)), some (.val (.int 0)), none, none, none, none, none]) rfl ?_
      unfold S__law_enough
      rw [start]
      cases hf : (parts L).reverse.findSome? (fun p => if dealt (slk os) (needs d p) cs ≠ [] then some (D.bl true) else none) with
      | some x =>
        rw [hf] at F hany
        have hx := hall x hf
        subst hx
        have ho2 : openOk L d os cs = true := by unfold openOk; rw [← hany]; rfl
        simp only [List.map_reverse] at F hP
        simp [hP]
        rw [F, ho2]
      | none =>
        rw [hf] at F hany
        have ho2 : openOk L d os cs = false := by unfold openOk; rw [← hany]; rfl
        obtain ⟨ρ', F, a, b, c, e, rfl⟩ := F
        simp only [List.map_reverse] at F hP
        simp [hP]
        rw [F, ho2]
    · rintro p hp ρ ⟨a, b, c, e, rfl⟩
      have hp : p ∈ parts L := List.mem_reverse.mp hp
      obtain ⟨n1, n2⟩ := needs_ok hd.1 hd.2 hp
      obtain ⟨p1, p2⟩ := parts_ok L p hp
      have hde := ldealt_eq (slk os) (needs d p) cs os.length hn (slk_len os) (slk_ok ho) n1 hc.vec
      have C := lcL_all (g := gtName 9) (fe := eBin gAdd (eBin gMul (eBin DL.gSub (pName 9) (eK (.int 1))) (pName 1)) (eK (.int 1))) (ρ := [some (.val (.int (L : Int))), some (.val (.int d)), some (.val (.lst (os.map kL))), some (.val (lI cs)), some (.val (.int 0)), some (.val (lI (slk os))), some (.val (lI p)), b, c, none]) D.int (fun s => D.int ((s - 1) * d + 1)) p fun s _ => by
        have hcm : CMul (s - 1) d := cmul_r (by omega)
        refine ⟨_, rfl, ?_⟩
        simp [hcm]
      have e1 : p.map (fun s => D.int ((s - 1) * d + 1)) = (needs d p).map D.int := by unfold needs; rw [List.map_map]; rfl
      rw [e1] at C
      have hz2 : (needs d p).length ≤ sizeLine := short_of (by omega)
      have hN : L__law_enough_2 [some (.val (.int (L : Int))), some (.val (.int d)), some (.val (.lst (os.map kL))), some (.val (lI cs)), some (.val (.int 0)), some (.val (lI (slk os))), some (.val (lI p)), b, c, e] = some (lI (needs d p)) := by
        unfold L__law_enough_2
        simp only [ev_lc, ev_iseq, ev_name, List.getElem?_cons_succ, List.getElem?_cons_zero, Option.bind_some, wipeD, List.set_cons_succ, List.set_cons_zero, C, List.length_map, hz2, if_true]
      refine ⟨_, rfl, ?_⟩
      by_cases c' : dealt (slk os) (needs d p) cs ≠ []
      · rw [if_pos c']
        rw [decide_eq_true c'] at hde
        show B__law_enough_3 [some (.val (.int (L : Int))), some (.val (.int d)), some (.val (.lst (os.map kL))), some (.val (lI cs)), some (.val (.int 0)), some (.val (lI (slk os))), some (.val (lI p)), b, c, e] = _
        unfold B__law_enough_3
        simp [hN, hde]
      · rw [if_neg c']
        rw [decide_eq_false c'] at hde
        refine ⟨_, ?_, some (.val (lI p)), b, c, e, rfl⟩
        show B__law_enough_3 [some (.val (.int (L : Int))), some (.val (.int d)), some (.val (.lst (os.map kL))), some (.val (lI cs)), some (.val (.int 0)), some (.val (lI (slk os))), some (.val (lI p)), b, c, e] = _
        unfold B__law_enough_3
        simp [hN, hde]
  · have hgt : decide (0 < pk) = true := decide_eq_true (by omega)
    have hsm : smallI (os.length : Int) = true := smallI_of (by omega) (by omega)
    have C := lcL_all (g := gtName 8) (fe := eCB gMax2 (aCons (eK (.int 0)) (aCons (eBin DL.gSub (eBin gIx (pName 3) (pName 8)) (eBin gIx (pName 5) (pName 8))) aNil))) (ρ := [some (.val (.int (L : Int))), some (.val (.int d)), some (.val (.lst (os.map kL))), some (.val (lI cs)), some (.val (.int pk)), some (.val (lI (slk os))), none, none, none, none])
      (fun i : Nat => D.int (i : Int)) (fun i => D.int (pos0 (cs.getD i 0 - (slk os).getD i 0))) (List.range os.length) fun i hi => by
        have hi : i < os.length := List.mem_range.mp hi
        have g1 : gIx (lI cs) (.int (i : Nat)) = some (.int (cs.getD i 0)) := getD_of (by omega)
        have g2 : gIx (lI (slk os)) (.int (i : Nat)) = some (.int ((slk os).getD i 0)) := getD_of (by rw [slk_len]; exact hi)
        generalize cs.getD i 0 = x at g1
        generalize (slk os).getD i 0 = y at g2
        refine ⟨_, rfl, ?_⟩
        simp [g1, g2]
        unfold pos0
        split <;> split <;> first | rfl | omega
    have e1 : (List.range os.length).map (fun i => D.int (pos0 (cs.getD i 0 - (slk os).getD i 0))) = ((List.range (slk os).length).map fun k => pos0 (cs.getD k 0 - (slk os).getD k 0)).map D.int := by rw [slk_len, List.map_map]; rfl
    rw [e1] at C
    have hnl : ((List.range (slk os).length).map fun k => pos0 (cs.getD k 0 - (slk os).getD k 0)).length = os.length := by rw [List.length_map, List.length_range, slk_len]
    have hst : stren (slk os) cs = ((List.range (slk os).length).map fun k => pos0 (cs.getD k 0 - (slk os).getD k 0)).sum := rfl
    generalize ((List.range (slk os).length).map fun k => pos0 (cs.getD k 0 - (slk os).getD k 0)) = ns at C hnl hst
    have hz2 : ns.length ≤ sizeLine := short_of (by omega)
    have hL1 : L__law_enough_1 [some (.val (.int (L : Int))), some (.val (.int d)), some (.val (.lst (os.map kL))), some (.val (lI cs)), some (.val (.int pk)), some (.val (lI (slk os))), none, none, none, none] = some (lI ns) := by
      unfold L__law_enough_1
      simp only [ev_lc, ev_irange, ev_cons, ev_cb, ev_nil, ev_pname, List.getElem?_cons_succ, List.getElem?_cons_zero, Option.bind_some, gLen_l, List.length_map, hsm, if_true, Int.toNat_natCast, rangeD_nat, wipeD, List.set_cons_succ, List.set_cons_zero, C, hz2]
    have hsum : gSum [.lst (ns.map D.int)] = some (.int ns.sum) := by show (asInts (ns.map D.int)).map _ = _; rw [asInts_map]; rfl
    have hcm : CMul ((L : Int) + pk - 1) d := cmul_r (by omega)
    refine fn_rt (ρ := [some (.val (.int (L : Int))), some (.val (.int d)), some (.val (.lst (os.map kL))), some (.val (lI cs)), some (.val (.int pk)), none, none, none, none, none]) rfl ?_
    unfold S__law_enough
    rw [start]
    simp [hgt, hL1, hsum, hcm]
    unfold enough
    rw [if_neg z, hst]
    have hp : 0 < pk := by omega
    simp [hp]
end K75
namespace K75
open PySem PySem.Spec PyProof.Rows L2 DL
def mn (x y : Int) : Int := if y < x then y else x
def acOne (o : Of) (done : List Int) : List (List Int) := (List.range (mn o.m (9 - done.sum) + 1).toNat).map fun c : Nat => done ++ [(c : Int)]
def acStep (o : Of) (found : List (List Int)) : List (List Int) := found.flatMap (acOne o)
def allC (os : List Of) : List (List Int) := os.foldl (fun f o => acStep o f) [[]]
structure AcOk (i : Nat) (found : List (List Int)) : Prop where
  ok : ∀ f ∈ found, CsOk i f ∧ 0 ≤ f.sum
  ln : found.length ≤ 10 ^ i
theorem mn_le {x y : Int} : mn x y ≤ x ∧ mn x y ≤ y := by unfold mn; split <;> omega
theorem acStep_ok {i : Nat} {found : List (List Int)} {o : Of} (h : AcOk i found) (ho : OfOk o) : AcOk (i + 1) (acStep o found) := by
  refine ⟨fun f hf => ?_, ?_⟩
  · obtain ⟨g, hg, hf⟩ := List.mem_flatMap.mp hf
    obtain ⟨c, hc, rfl⟩ := List.mem_map.mp hf
    have hc := List.mem_range.mp hc
    obtain ⟨⟨⟨v1, v2⟩, v3⟩, v4⟩ := h.ok g hg
    have m1 := mn_le (x := o.m) (y := 9 - g.sum)
    have hs : (g ++ [(c : Int)]).sum = g.sum + c := by simp
    refine ⟨⟨⟨by simp [v1], fun x hx => ?_⟩, by rw [hs]; omega⟩, by rw [hs]; omega⟩
    rcases List.mem_append.mp hx with hx | hx
    · exact v2 x hx
    · have : x = c := by simpa using hx
      omega
  · have h1 : (acStep o found).length ≤ found.length * 10 := flatMap_le fun g hg => by
      have m1 := mn_le (x := o.m) (y := 9 - g.sum)
      have := ho.m9
      unfold acOne
      rw [List.length_map, List.length_range]
      omega
    rw [Nat.pow_succ]
    exact Nat.le_trans h1 (Nat.mul_le_mul_right 10 h.ln)
theorem ac0 : AcOk 0 [[]] := ⟨fun f hf => by
  have : f = [] := by simpa using hf
  rw [this]
  exact ⟨⟨⟨rfl, fun x hx => by cases hx⟩, by decide⟩, by decide⟩, by decide⟩
theorem foldl_ix {α S : Type} (P : Nat → S → Prop) (f : S → α → S) : ∀ (l : List α) (n : Nat) (s : S), P n s → (∀ i s x, x ∈ l → P i s → P (i + 1) (f s x)) → P (n + l.length) (l.foldl f s)
  | [], n, s, h, _ => h
  | x :: l, n, s, h, hs => by
    have := foldl_ix P f l (n + 1) (f s x) (hs n s x (List.mem_cons_self ..) h) fun i s y hy => hs i s y (List.mem_cons_of_mem _ hy)
    rw [List.foldl_cons, List.length_cons, ← Nat.add_assoc, Nat.add_right_comm]
    exact this
theorem allC_ok (os : List Of) (ho : ∀ o ∈ os, OfOk o) : AcOk os.length (allC os) := by
  have := foldl_ix AcOk (fun f o => acStep o f) os 0 [[]] ac0 fun i s o hm h => acStep_ok h (ho o hm)
  rw [Nat.zero_add] at this
  exact this
theorem ac_bound {os : List Of} (hn : os.length ≤ 3) {i : Nat} (hi : i ≤ os.length) {found : List (List Int)} (h : AcOk i found) : found.length ≤ 1000 := by
  have h2 : 10 ^ i ≤ 10 ^ 3 := Nat.pow_le_pow_right (by decide) (by omega)
  have := h.ln
  omega
theorem flat_one {α β : Type} (g : α → β) : ∀ l : List α, l.flatMap (fun x => [g x]) = l.map g
  | [] => rfl
  | x :: l => by rw [List.flatMap_cons, flat_one g l]; rfl
theorem sum_tI (l : List Int) : gSum [tI l] = some (.int l.sum) := by show (asInts (l.map D.int)).map _ = _; rw [asInts_map]; rfl
theorem sum_lI (l : List Int) : gSum [lI l] = some (.int l.sum) := by show (asInts (l.map D.int)).map _ = _; rw [asInts_map]; rfl
/-- the program's turn over one offer -/
theorem pa_turn (A : D) (p a b : Int) (o : Of) (i : Nat) (hi : i < 3) (ho : OfOk o) (found : List (List Int)) (ok : AcOk i found) (x y z : Option Sl) :
    ∃ ρ', B_all_counts_3 [some (.val A), some (.val (.int 9)), some (.val (.lst (found.map tI))), some (.val (.int p)), some (.val (.int o.m)), some (.val (.int a)), some (.val (.int b)), x, y, z] = .nx ρ' ∧
      ∃ x y z, ρ' = [some (.val A), some (.val (.int 9)), some (.val (.lst ((acStep o found).map tI))), some (.val (.int p)), some (.val (.int o.m)), some (.val (.int a)), some (.val (.int b)), x, y, z] := by
  have ok2 := acStep_ok ok ho
  have hlen : (acStep o found).length ≤ 1000 := by
    have h2 : 10 ^ (i + 1) ≤ 10 ^ 3 := Nat.pow_le_pow_right (by decide) (by omega)
    have := ok2.ln
    omega
  have P := forL_push (g := gtName 8) (fb := B_all_counts_2) tI (fun f => (acOne o f).map tI)
    (fun l ρ => ∃ y z, ρ = [some (.val A), some (.val (.int 9)), some (.val (.lst (found.map tI))), some (.val (.int p)), some (.val (.int o.m)), some (.val (.int a)), some (.val (.int b)), some (.own (.lst l)), y, z]) found [] _ ⟨y, z, rfl⟩ ?_ ?_
  · obtain ⟨ρ', e1, y', z', rfl⟩ := P
    rw [List.nil_append, ← map_flat] at e1
    have e2 : found.flatMap (acOne o) = acStep o found := rfl
    rw [e2] at e1
    refine ⟨_, ?_, some (.own (.lst ((acStep o found).map tI))), y', z', rfl⟩
    unfold B_all_counts_3
    simp
    rw [e1]
    simp
  · rw [List.nil_append, ← map_flat, List.length_map]
    exact short_of (by show (acStep o found).length ≤ _; omega)
  · rintro f hf l ρ ⟨y, z, rfl⟩ hz
    obtain ⟨⟨⟨v1, v2⟩, v3⟩, v4⟩ := ok.ok f hf
    have m1 := mn_le (x := o.m) (y := 9 - f.sum)
    have hoo := ho.m9
    have hm0 : -1 ≤ mn o.m (9 - f.sum) := by have := ho.m0; unfold mn; split <;> omega
    have hsm : smallI (mn o.m (9 - f.sum) + 1) = true := smallI_of (by omega) (by omega)
    have inner := forL_push (g := gtName 9) (fb := B_all_counts_1) (fun c : Nat => D.int (c : Int)) (fun c => [tI (f ++ [(c : Int)])])
        (fun l ρ => ∃ z, ρ = [some (.val A), some (.val (.int 9)), some (.val (.lst (found.map tI))), some (.val (.int p)), some (.val (.int o.m)), some (.val (.int a)), some (.val (.int b)), some (.own (.lst l)), some (.val (tI f)), z]) (List.range (mn o.m (9 - f.sum) + 1).toNat) l _ ⟨z, rfl⟩ ?_ ?_
    · obtain ⟨ρ2, e1, z', rfl⟩ := inner
      rw [flat_one] at e1
      have e3 : (List.range (mn o.m (9 - f.sum) + 1).toNat).map (fun c : Nat => tI (f ++ [(c : Int)])) = (acOne o f).map tI := by unfold acOne; rw [List.map_map]; rfl
      rw [e3] at e1
      have hB : B_all_counts_2 [some (.val A), some (.val (.int 9)), some (.val (.lst (found.map tI))), some (.val (.int p)), some (.val (.int o.m)), some (.val (.int a)), some (.val (.int b)), some (.own (.lst l)), some (.val (tI f)), z] = .nx [some (.val A), some (.val (.int 9)), some (.val (.lst (found.map tI))), some (.val (.int p)), some (.val (.int o.m)), some (.val (.int a)), some (.val (.int b)), some (.own (.lst (l ++ (acOne o f).map tI))), some (.val (tI f)), z'] := by
        have hmn : (if (9 : Int) - f.sum < o.m then 9 - f.sum else o.m) = mn o.m (9 - f.sum) := rfl
        unfold B_all_counts_2
        simp only [ev_for, ev_irange, ev_cons, ev_bin, ev_cb, ev_pname, ev_nil, ev_k, List.getElem?_cons_succ, List.getElem?_cons_zero, Option.bind_some, sum_tI, ev_sub, ev_min2, hmn, ev_add, hsm, if_true, rangeD_nat]
        exact e1
      exact ⟨_, _, rfl, hB, some (.val (tI f)), z', rfl⟩
    · rw [flat_one, List.length_append]
      have e3 : (List.range (mn o.m (9 - f.sum) + 1).toNat).map (fun c : Nat => tI (f ++ [(c : Int)])) = (acOne o f).map tI := by unfold acOne; rw [List.map_map]; rfl
      rw [e3]
      exact hz
    · rintro c _ l ρ ⟨z, rfl⟩ hz2
      have hz3 : l.length < sizeLine := by simp at hz2; omega
      have hs : f.length + 1 ≤ sizeLine := short_of (by omega)
      unfold B_all_counts_1
      simp [tI_snoc, hs, hz3]
theorem all_counts_eq (t : Bool) (os : List Of) (hn : os.length ≤ 3) (ho : ∀ o ∈ os, OfOk o) : F_all_counts [.lst (os.map (ofX t)), .int 9] = some (.lst ((allC os).map tI)) := by
  have F := forL_ix (g := gtTup 4 (gtCons (gtName 3) (gtCons (gtName 4) (gtCons (gtName 5) (gtCons (gtName 6) gtNil))))) (fb := B_all_counts_3) (ofX t) (fun f o => acStep o f)
    (fun i f ρ => (∃ a b c d x y z, ρ = [some (.val (.lst (os.map (ofX t)))), some (.val (.int 9)), some (.val (.lst (f.map tI))), a, b, c, d, x, y, z]) ∧ AcOk i f) os 0 [[]] _ ⟨⟨none, none, none, none, none, none, none, rfl⟩, ac0⟩ ?_
  · obtain ⟨ρ', e1, ⟨a, b, c, d, x, y, z, rfl⟩, _⟩ := F
    have e2 : os.foldl (fun f o => acStep o f) [[]] = allC os := rfl
    rw [e2] at e1
    simp only [List.map_cons, List.map_nil] at e1
    have e0 : tI [] = D.tup [] := rfl
    rw [e0] at e1
    refine fn_rt (ρ := [some (.val (.lst (os.map (ofX t)))), some (.val (.int 9)), none, none, none, none, none, none, none, none]) rfl ?_
    unfold S_all_counts
    simp
    rw [e1]
    simp
  · rintro i o hq f ρ ⟨⟨a, b, c, d, x, y, z, rfl⟩, ok⟩
    have hi : i < os.length := (List.getElem?_eq_some_iff.mp hq).1
    rw [Nat.zero_add] at ok ⊢
    obtain ⟨ρ2, e1, x', y', z', rfl⟩ := pa_turn (.lst (os.map (ofX t))) o.p o.a o.b o i (by omega) (ho o (List.mem_of_getElem? hq)) f ok x y z
    exact ⟨_, _, by cases t <;> rfl, e1, ⟨_, _, _, _, x', y', z', rfl⟩, acStep_ok ok (ho o (List.mem_of_getElem? hq))⟩
/-- the law's -/
theorem la_turn (A : D) (o : Of) (i : Nat) (hi : i < 3) (ho : OfOk o) (found : List (List Int)) (ok : AcOk i found) (x y z : Option Sl) :
    ∃ ρ', B__law_all_counts_3 [some (.val A), some (.val (.int 9)), some (.val (.lst (found.map lI))), some (.val (ofX false o)), x, y, z] = .nx ρ' ∧
      ∃ x y z, ρ' = [some (.val A), some (.val (.int 9)), some (.val (.lst ((acStep o found).map lI))), some (.val (ofX false o)), x, y, z] := by
  have ok2 := acStep_ok ok ho
  have hlen : (acStep o found).length ≤ 1000 := by
    have h2 : 10 ^ (i + 1) ≤ 10 ^ 3 := Nat.pow_le_pow_right (by decide) (by omega)
    have := ok2.ln
    omega
  have P := forL_push (g := gtName 5) (fb := B__law_all_counts_2) lI (fun f => (acOne o f).map lI)
    (fun l ρ => ∃ y z, ρ = [some (.val A), some (.val (.int 9)), some (.val (.lst (found.map lI))), some (.val (ofX false o)), some (.own (.lst l)), y, z]) found [] _ ⟨y, z, rfl⟩ ?_ ?_
  · obtain ⟨ρ', e1, y', z', rfl⟩ := P
    rw [List.nil_append, ← map_flat] at e1
    have e2 : found.flatMap (acOne o) = acStep o found := rfl
    rw [e2] at e1
    refine ⟨_, ?_, some (.own (.lst ((acStep o found).map lI))), y', z', rfl⟩
    unfold B__law_all_counts_3
    simp
    rw [e1]
    simp
  · rw [List.nil_append, ← map_flat, List.length_map]
    exact short_of (by show (acStep o found).length ≤ _; omega)
  · rintro f hf l ρ ⟨y, z, rfl⟩ hz
    obtain ⟨⟨⟨v1, v2⟩, v3⟩, v4⟩ := ok.ok f hf
    have m1 := mn_le (x := o.m) (y := 9 - f.sum)
    have hoo := ho.m9
    have hm0 : -1 ≤ mn o.m (9 - f.sum) := by have := ho.m0; unfold mn; split <;> omega
    have hsm : smallI (mn o.m (9 - f.sum) + 1) = true := smallI_of (by omega) (by omega)
    have inner := forL_push (g := gtName 6) (fb := B__law_all_counts_1) (fun c : Nat => D.int (c : Int)) (fun c => [lI (f ++ [(c : Int)])])
        (fun l ρ => ∃ z, ρ = [some (.val A), some (.val (.int 9)), some (.val (.lst (found.map lI))), some (.val (ofX false o)), some (.own (.lst l)), some (.val (lI f)), z]) (List.range (mn o.m (9 - f.sum) + 1).toNat) l _ ⟨z, rfl⟩ ?_ ?_
    · obtain ⟨ρ2, e1, z', rfl⟩ := inner
      rw [flat_one] at e1
      have e3 : (List.range (mn o.m (9 - f.sum) + 1).toNat).map (fun c : Nat => lI (f ++ [(c : Int)])) = (acOne o f).map lI := by unfold acOne; rw [List.map_map]; rfl
      rw [e3] at e1
      have hB : B__law_all_counts_2 [some (.val A), some (.val (.int 9)), some (.val (.lst (found.map lI))), some (.val (ofX false o)), some (.own (.lst l)), some (.val (lI f)), z] = .nx [some (.val A), some (.val (.int 9)), some (.val (.lst (found.map lI))), some (.val (ofX false o)), some (.own (.lst (l ++ (acOne o f).map lI))), some (.val (lI f)), z'] := by
        have hmn : (if (9 : Int) - f.sum < o.m then 9 - f.sum else o.m) = mn o.m (9 - f.sum) := rfl
        have g1 : gIx (ofX false o) (.int 1) = some (.int o.m) := rfl
        unfold B__law_all_counts_2
        simp only [ev_for, ev_irange, ev_cons, ev_bin, ev_cb, ev_pname, ev_nil, ev_k, List.getElem?_cons_succ, List.getElem?_cons_zero, Option.bind_some, g1, sum_lI, ev_sub, ev_min2, hmn, ev_add, hsm, if_true, rangeD_nat]
        exact e1
      exact ⟨_, _, rfl, hB, some (.val (lI f)), z', rfl⟩
    · rw [flat_one, List.length_append]
      have e3 : (List.range (mn o.m (9 - f.sum) + 1).toNat).map (fun c : Nat => lI (f ++ [(c : Int)])) = (acOne o f).map lI := by unfold acOne; rw [List.map_map]; rfl
      rw [e3]
      exact hz
    · rintro c _ l ρ ⟨z, rfl⟩ hz2
      have hz3 : l.length < sizeLine := by simp at hz2; omega
      have hs : f.length + 1 ≤ sizeLine := short_of (by omega)
      unfold B__law_all_counts_1
      simp [lI_snoc, hs, hz3]
theorem lall_counts_eq (os : List Of) (hn : os.length ≤ 3) (ho : ∀ o ∈ os, OfOk o) : F__law_all_counts [.lst (os.map (ofX false)), .int 9] = some (.lst ((allC os).map lI)) := by
  have F := forL_ix (g := gtName 3) (fb := B__law_all_counts_3) (ofX false) (fun f o => acStep o f)
    (fun i f ρ => (∃ a x y z, ρ = [some (.val (.lst (os.map (ofX false)))), some (.val (.int 9)), some (.val (.lst (f.map lI))), a, x, y, z]) ∧ AcOk i f) os 0 [[]] _ ⟨⟨none, none, none, none, rfl⟩, ac0⟩ ?_
  · obtain ⟨ρ', e1, ⟨a, x, y, z, rfl⟩, _⟩ := F
    have e2 : os.foldl (fun f o => acStep o f) [[]] = allC os := rfl
    rw [e2] at e1
    simp only [List.map_cons, List.map_nil] at e1
    have e0 : lI [] = D.lst [] := rfl
    rw [e0] at e1
    refine fn_rt (ρ := [some (.val (.lst (os.map (ofX false)))), some (.val (.int 9)), none, none, none, none, none]) rfl ?_
    unfold S__law_all_counts
    simp
    rw [e1]
    simp
  · rintro i o hq f ρ ⟨⟨a, x, y, z, rfl⟩, ok⟩
    have hi : i < os.length := (List.getElem?_eq_some_iff.mp hq).1
    rw [Nat.zero_add] at ok ⊢
    obtain ⟨ρ2, e1, x', y', z', rfl⟩ := la_turn (.lst (os.map (ofX false))) o i (by omega) (ho o (List.mem_of_getElem? hq)) f ok x y z
    exact ⟨_, _, rfl, e1, ⟨_, x', y', z', rfl⟩, acStep_ok ok (ho o (List.mem_of_getElem? hq))⟩
end K75
namespace K75
open PySem PySem.Spec PyProof.Rows L2 DL
/-- one case: lots, degree, peeks and the offers, within the law's bounds -/
structure Case (L : Nat) (d pk : Int) (os : List Of) : Prop where
  L1 : 1 ≤ L
  L4 : L ≤ 4
  hd : 1 ≤ d ∧ d ≤ 4
  hpk : 0 ≤ pk ∧ pk ≤ 3
  n0 : 0 < os.length
  n3 : os.length ≤ 3
  ho : ∀ o ∈ os, OfOk o
def fnd (L : Nat) (d pk : Int) (os : List Of) : List (List Int) := (allC os).filter fun cs => enough L d pk os cs
theorem filt_flat {α β : Type} (p : α → Bool) (g : α → β) : ∀ l : List α, l.flatMap (fun x => if p x = true then [g x] else []) = (l.filter p).map g
  | [] => rfl
  | x :: l => by
    rw [List.flatMap_cons, filt_flat p g l, List.filter_cons]
    split <;> rfl
theorem allC_cs {os : List Of} (ho : ∀ o ∈ os, OfOk o) {cs : List Int} (h : cs ∈ allC os) : CsOk os.length cs := ((allC_ok os ho).ok cs h).1
theorem fnd_cs {L : Nat} {d pk : Int} {os : List Of} (h : Case L d pk os) {cs : List Int} (hc : cs ∈ fnd L d pk os) : CsOk os.length cs := allC_cs h.ho (List.mem_filter.mp hc).1
theorem fnd_len {L : Nat} {d pk : Int} {os : List Of} (h : Case L d pk os) : (fnd L d pk os).length ≤ 1000 := by
  have h1 := ac_bound h.n3 (Nat.le_refl _) (allC_ok os h.ho)
  have h2 : (fnd L d pk os).length ≤ (allC os).length := List.length_filter_le ..
  omega
theorem enough_counts_eq (L : Nat) (d pk : Int) (os : List Of) (h : Case L d pk os) (t : Bool) : F_enough_counts [.int (L : Int), .int d, .int pk, .lst (os.map (ofX t))] = some (.lst ((fnd L d pk os).map tI)) := by
  have hA := all_counts_eq t os h.n3 h.ho
  have hlen := ac_bound h.n3 (Nat.le_refl _) (allC_ok os h.ho)
  have P := forL_push (g := gtName 5) (fb := B_enough_counts_1) tI (fun cs => if enough L d pk os cs = true then [tI cs] else [])
    (fun l ρ => ∃ z, ρ = [some (.val (.int (L : Int))), some (.val (.int d)), some (.val (.int pk)), some (.val (.lst (os.map (ofX t)))), some (.own (.lst l)), z]) (allC os) [] _ ⟨none, rfl⟩ ?_ ?_
  · obtain ⟨ρ', e1, z', rfl⟩ := P
    rw [List.nil_append, filt_flat (fun cs => enough L d pk os cs) tI] at e1
    have e2 : (allC os).filter (fun cs => enough L d pk os cs) = fnd L d pk os := rfl
    rw [e2] at e1
    refine fn_rt (ρ := [some (.val (.int (L : Int))), some (.val (.int d)), some (.val (.int pk)), some (.val (.lst (os.map (ofX t)))), none, none]) rfl ?_
    unfold S_enough_counts
    simp [hA]
    rw [e1]
    simp
  · rw [List.nil_append, filt_flat (fun cs => enough L d pk os cs) tI, List.length_map]
    exact short_of (by have := fnd_len h; unfold fnd at this; omega)
  · rintro cs hcs l ρ ⟨z, rfl⟩ hz
    have hc := allC_cs h.ho hcs
    have h1 := hire_crew_eq os t true cs pk h.ho (by have := h.n3; omega) hc
    have h1' : F_hire_crew [.lst (os.map (ofX t)), tI cs, .int pk] = some (crewD os (mem cs) pk) := h1
    have h2 := is_enough_eq L d pk os cs h.L1 h.L4 h.hd h.hpk h.n0 h.n3 h.ho hc
    refine ⟨_, _, rfl, ?_, some (.val (tI cs)), rfl⟩
    unfold B_enough_counts_1
    cases c : enough L d pk os cs
    · rw [c] at h2
      simp [h1', h2]
    · rw [c] at h2 hz
      have hz3 : l.length < sizeLine := by simp at hz; omega
      simp [h1', h2, hz3]
theorem lenough_counts_eq (L : Nat) (d pk : Int) (os : List Of) (h : Case L d pk os) : F__law_enough_counts [.int (L : Int), .int d, .int pk, .lst (os.map (ofX false))] = some (.lst ((fnd L d pk os).map lI)) := by
  have hA := lall_counts_eq os h.n3 h.ho
  have hlen := ac_bound h.n3 (Nat.le_refl _) (allC_ok os h.ho)
  have hS := lslacks_eq os h.ho (by have := h.n3; omega)
  have hK : L__law_enough_counts_1 [some (.val (.int (L : Int))), some (.val (.int d)), some (.val (.int pk)), some (.val (.lst (os.map (ofX false)))), none, none, none, none, none] = some (.lst (os.map kL)) := by
    have C := lcL_all (g := gtName 8) (fe := eLst (aCons (eBin gIx (pName 8) (eK (.int 2))) (aCons (eBin gIx (pName 8) (eK (.int 3))) aNil))) (ρ := [some (.val (.int (L : Int))), some (.val (.int d)), some (.val (.int pk)), some (.val (.lst (os.map (ofX false)))), none, none, none, none, none]) (ofX false) kL os fun o _ => by
      have g0 : gIx (ofX false o) (.int 2) = some (.int o.a) := rfl
      have g1 : gIx (ofX false o) (.int 3) = some (.int o.b) := rfl
      have g2 : kL o = .lst [.int o.a, .int o.b] := rfl
      refine ⟨_, rfl, ?_⟩
      simp [g0, g1, g2]
    have hz2 : os.length ≤ sizeLine := short_of (by have := h.n3; omega)
    unfold L__law_enough_counts_1
    simp only [ev_lc, ev_iseq, ev_name, List.getElem?_cons_succ, List.getElem?_cons_zero, Option.bind_some, wipeD, List.set_cons_succ, List.set_cons_zero, C, List.length_map, hz2, if_true]
  have P := forL_push (g := gtName 7) (fb := B__law_enough_counts_2) lI (fun cs => if enough L d pk os cs = true then [lI cs] else [])
    (fun l ρ => ∃ z, ρ = [some (.val (.int (L : Int))), some (.val (.int d)), some (.val (.int pk)), some (.val (.lst (os.map (ofX false)))), some (.val (.lst (os.map kL))), some (.val (lI (slk os))), some (.own (.lst l)), z, none]) (allC os) [] _ ⟨none, rfl⟩ ?_ ?_
  · obtain ⟨ρ', e1, z', rfl⟩ := P
    rw [List.nil_append, filt_flat (fun cs => enough L d pk os cs) lI] at e1
    have e2 : (allC os).filter (fun cs => enough L d pk os cs) = fnd L d pk os := rfl
    rw [e2] at e1
    refine fn_rt (ρ := [some (.val (.int (L : Int))), some (.val (.int d)), some (.val (.int pk)), some (.val (.lst (os.map (ofX false)))), none, none, none, none, none]) rfl ?_
    unfold S__law_enough_counts
    simp [hA, hK, hS]
    rw [e1]
    simp
  · rw [List.nil_append, filt_flat (fun cs => enough L d pk os cs) lI, List.length_map]
    exact short_of (by have := fnd_len h; unfold fnd at this; omega)
  · rintro cs hcs l ρ ⟨z, rfl⟩ hz
    have hc := allC_cs h.ho hcs
    have h2 := lenough_eq L d pk os cs h.L1 h.L4 h.hd h.hpk h.n0 h.n3 h.ho hc
    refine ⟨_, _, rfl, ?_, some (.val (lI cs)), rfl⟩
    unfold B__law_enough_counts_2
    cases c : enough L d pk os cs
    · rw [c] at h2
      simp [h2]
    · rw [c] at h2 hz
      have hz3 : l.length < sizeLine := by simp at hz; omega
      simp [h2, hz3]
end K75
namespace K75
open PySem PySem.Spec PyProof.Rows L2 DL
def prc (os : List Of) (cs : List Int) : Int := ((os.zip cs).map fun q => q.1.p * q.2).sum
theorem sum_sI (u : Bool) (l : List Int) : gSum [sI u l] = some (.int l.sum) := by cases u; exact sum_lI l; exact sum_tI l
theorem plain_sI {n : Nat} (u : Bool) (l : List Int) : plain (n + 1) (sI u l) = true := by cases u; exact plain_lI l; exact plain_tI l
theorem sq_sI (u : Bool) (l : List Int) : sqD (sI u l) = some (u, l.map D.int) := by cases u <;> rfl
theorem ix0_ofX (t : Bool) (o : Of) : gIx (ofX t o) (.int 0) = some (.int o.p) := by cases t <;> rfl
theorem hire_price_eq (os : List Of) (t u : Bool) (cs : List Int) (hz : os.length ≤ 1000) (hc : CsOk os.length cs) : F_hire_price [.lst (os.map (ofX t)), sI u cs] = some (.int (prc os cs)) := by
  have C := lcL_all (g := gtTup 2 (gtCons (gtName 2) (gtCons (gtName 3) gtNil))) (fe := eBin gMul (eBin gIx (pName 2) (eK (.int 0))) (pName 3)) (ρ := [some (.val (.lst (os.map (ofX t)))), some (.val (sI u cs)), none, none]) (fun q : Of × Int => D.tup [ofX t q.1, .int q.2]) (fun q => D.int (q.1.p * q.2)) (os.zip cs) fun q hq => by
    have hx := hc.vec.2 q.2 (List.of_mem_zip hq).2
    have hcm : CMul q.1.p q.2 := cmul_r (by omega)
    have g0 := ix0_ofX t q.1
    refine ⟨_, rfl, ?_⟩
    simp [g0, hcm]
  have e1 : (os.zip cs).map (fun q => D.int (q.1.p * q.2)) = ((os.zip cs).map fun q => q.1.p * q.2).map D.int := by rw [List.map_map]; rfl
  rw [e1] at C
  have hl : ((os.zip cs).map fun q => q.1.p * q.2).length ≤ sizeLine := short_of (by rw [List.length_map, List.length_zip]; omega)
  have hzip : zip2D (os.map (ofX t)) (cs.map D.int) = (os.zip cs).map fun q => D.tup [ofX t q.1, .int q.2] := zip2D_map os cs
  have hs : gSum [.lst (((os.zip cs).map fun q => q.1.p * q.2).map D.int)] = some (.int (prc os cs)) := sum_lI _
  refine fn_rt (ρ := [some (.val (.lst (os.map (ofX t)))), some (.val (sI u cs)), none, none]) rfl ?_
  unfold S_hire_price L_hire_price_1
  simp only [ev_ret, ev_cb, ev_cons, ev_nil, ev_lc, ev_izip, ev_name, List.getElem?_cons_succ, List.getElem?_cons_zero, Option.bind_some, sqD_l, sq_sI, Option.map_some, hzip, wipeD, List.set_cons_succ, List.set_cons_zero, C, List.length_map, if_true]
  rw [List.length_map] at hl
  rw [if_pos hl]
  simp only [Option.bind_some, hs]
def oD (os : List Of) (u v : Bool) (cs : List Int) : D := if v = true then .tup [.int (prc os cs), .int cs.sum, sI u cs] else .lst [.int (prc os cs), .int cs.sum, sI u cs]
theorem hire_order_eq (os : List Of) (t u : Bool) (cs : List Int) (hz : os.length ≤ 1000) (hc : CsOk os.length cs) : F_hire_order [.lst (os.map (ofX t)), sI u cs] = some (oD os u true cs) := by
  have h := hire_price_eq os t u cs hz hc
  have hs := sum_sI u cs
  refine fn_rt (ρ := [some (.val (.lst (os.map (ofX t)))), some (.val (sI u cs))]) rfl ?_
  unfold S_hire_order
  simp [h, hs, oD]
/-! ### the order -/
def lexI : List Int → List Int → Bool
  | [], [] => false
  | [], _ :: _ => true
  | _ :: _, [] => false
  | x :: xs, y :: ys => if x = y then lexI xs ys else decide (x < y)
def lessO (os : List Of) (a b : List Int) : Bool := if prc os a = prc os b then (if a.sum = b.sum then lexI a b else decide (a.sum < b.sum)) else decide (prc os a < prc os b)
theorem eqI (a b : Int) : eqD (.int a) (.int b) = decide (a = b) := by rw [DL.eqD_int]; rfl
theorem ordL_ints : ∀ a b : List Int, ordL .lt (a.map D.int) (b.map D.int) = some (lexI a b)
  | [], [] => by simp [ordL, lexI, Or4.rel]
  | [], y :: b => by simp [ordL, lexI, Or4.rel]
  | x :: a, [] => by simp [ordL, lexI, Or4.rel]
  | x :: a, y :: b => by
    rw [List.map_cons, List.map_cons]
    unfold ordL lexI
    rw [ordL_ints a b, eqI]
    simp only [Option.bind_some, ordD, Or4.rel]
    by_cases h : x = y
    · simp [h]
    · simp [h]
theorem ord_sI (u : Bool) (a b : List Int) : ordD .lt (sI u a) (sI u b) = some (lexI a b) := by
  cases u
  · show ordD .lt (.lst (a.map D.int)) (.lst (b.map D.int)) = _
    unfold ordD; exact ordL_ints a b
  · show ordD .lt (.tup (a.map D.int)) (.tup (b.map D.int)) = _
    unfold ordD; exact ordL_ints a b
theorem eqD_sI (u : Bool) (a b : List Int) : eqD (sI u a) (sI u b) = decide (a = b) := by cases u; exact eqD_lI a b; exact eqD_tI a b
theorem lexI_self : ∀ a : List Int, lexI a a = false
  | [] => rfl
  | x :: a => by unfold lexI; rw [if_pos rfl, lexI_self a]
theorem ord3 (u : Bool) (p q s t : Int) (a b : List Int) : ordL .lt [.int p, .int s, sI u a] [.int q, .int t, sI u b] = some (if p = q then (if s = t then lexI a b else decide (s < t)) else decide (p < q)) := by
  have h3 : ordL .lt [sI u a] [sI u b] = some (lexI a b) := by
    have h0 : ordL .lt [] [] = some false := by simp [ordL, Or4.rel]
    unfold ordL
    rw [h0, eqD_sI, ord_sI]
    by_cases h : a = b
    · simp [h, lexI_self]
    · simp [h]
  have h2 : ordL .lt [.int s, sI u a] [.int t, sI u b] = some (if s = t then lexI a b else decide (s < t)) := by
    unfold ordL
    rw [h3, eqI]
    by_cases h : s = t
    · simp [h]
    · simp [h, ordD, Or4.rel]
  unfold ordL
  rw [h2, eqI]
  by_cases h : p = q
  · simp [h]
  · simp [h, ordD, Or4.rel]
theorem ord_oD (os : List Of) (u v : Bool) (a b : List Int) : ordD .lt (oD os u v a) (oD os u v b) = some (lessO os a b) := by
  cases v
  · show ordD .lt (.lst _) (.lst _) = _
    unfold ordD; exact ord3 ..
  · show ordD .lt (.tup _) (.tup _) = _
    unfold ordD; exact ord3 ..
theorem plain_oD {n : Nat} (os : List Of) (u v : Bool) (a : List Int) : plain (n + 2) (oD os u v a) = true := by
  have h := plain_sI (n := n) u a
  have h2 : plainL (n + 1) [.int (prc os a), .int a.sum, sI u a] = true := by
    simp [plainL, DL.plain, h]
  cases v <;> exact h2
/-! ### the first least -/
def pick (os : List Of) (m c : List Int) : List Int := if lessO os c m = true then c else m
def bst (os : List Of) : List (List Int) → Option (List Int)
  | [] => none
  | c :: cs => some (cs.foldl (pick os) c)
theorem least_oD (os : List Of) (u v : Bool) : ∀ (cs : List (List Int)) (m : List Int), leastF (oD os u v m) (cs.map (oD os u v)) = some (oD os u v (cs.foldl (pick os) m))
  | [], m => rfl
  | c :: cs, m => by
    rw [List.map_cons, List.foldl_cons, ← least_oD os u v cs (pick os m c)]
    show (ordD .lt _ _).bind _ = _
    rw [ord_oD, Option.bind_some]
    unfold pick
    split <;> rfl
def bstD (os : List Of) (u v : Bool) (l : List (List Int)) : D := match bst os l with | some c => oD os u v c | none => .non
theorem first_hire_eq (os : List Of) (t : Bool) (l : List (List Int)) (hz : os.length ≤ 1000) (hl : l.length ≤ 1000) (hc : ∀ cs ∈ l, CsOk os.length cs) : F_first_hire [.lst (os.map (ofX t)), .lst (l.map tI)] = some (bstD os true true l) := by
  cases l with
  | nil =>
    refine fn_rt (ρ := [some (.val (.lst (os.map (ofX t)))), some (.val (.lst [])), none]) rfl ?_
    have hg : gEq (.int 0) (.int 0) = some (.bl true) := rfl
    unfold S_first_hire
    simp [hg]
    rfl
  | cons c l =>
    have C := lcL_all (g := gtName 2) (fe := eCall F_hire_order [] 2 (aCons (eName 0) (aCons (eName 2) aNil))) (ρ := [some (.val (.lst (os.map (ofX t)))), some (.val (.lst ((c :: l).map tI))), none]) tI (oD os true true) (c :: l) fun cs hm => by
      have h : F_hire_order [.lst (os.map (ofX t)), tI cs] = some (oD os true true cs) := hire_order_eq os t true cs hz (hc cs hm)
      refine ⟨_, rfl, ?_⟩
      simp [h]
    have hz2 : (c :: l).length ≤ sizeLine := short_of (by omega)
    have hL : gLeast [.lst ((c :: l).map (oD os true true))] = some (oD os true true (l.foldl (pick os) c)) := by
      have hp : plainL 19 ((c :: l).map (oD os true true)) = true := plainL_of _ fun x _ => plain_oD (n := 17) os true true x
      rw [List.map_cons] at hp ⊢
      show (if plainL 19 _ then leastF _ _ else none) = _
      rw [hp, if_pos rfl]
      exact least_oD os true true l c
    refine fn_rt (ρ := [some (.val (.lst (os.map (ofX t)))), some (.val (.lst ((c :: l).map tI))), none]) rfl ?_
    have hE : L_first_hire_1 [some (.val (.lst (os.map (ofX t)))), some (.val (.lst ((c :: l).map tI))), none] = some (.lst ((c :: l).map (oD os true true))) := by
      unfold L_first_hire_1
      simp only [ev_lc, ev_iseq, ev_name, List.getElem?_cons_succ, List.getElem?_cons_zero, Option.bind_some, wipeD, List.set_cons_succ, List.set_cons_zero, C, List.length_map, hz2, if_true]
    have hn : gEq (.int (((c :: l).map tI).length : Nat)) (.int 0) = some (.bl false) := by
      show (if (plain 20 (.int _) && plain 20 (.int 0)) = true then some (D.bl (eqD _ _)) else none) = _
      rw [eqI, List.length_map, List.length_cons, decide_eq_false (by omega)]
      simp [DL.plain]
    unfold S_first_hire
    simp only [ev_seq, ev_xif, ev_bool, ev_bin, ev_cb, ev_cons, ev_nil, ev_pname, ev_k, List.getElem?_cons_succ, List.getElem?_cons_zero, Option.bind_some, gLen_l, hn, ev_pass, ev_ret, hE, hL]
    rfl
end K75
namespace K75
open PySem PySem.Spec PyProof.Rows L2 DL
def of0 : Of := ⟨0, 0, 0, 0⟩
theorem zip_ix {α β γ : Type} (f : α → β → γ) (da : α) (db : β) : ∀ (xs : List α) (ys : List β), xs.length = ys.length → (List.range xs.length).map (fun k => f (xs.getD k da) (ys.getD k db)) = (xs.zip ys).map fun q => f q.1 q.2
  | [], [], _ => rfl
  | [], y :: ys, h => by simp at h
  | x :: xs, [], h => by simp at h
  | x :: xs, y :: ys, h => by
    rw [List.length_cons, List.range_succ_eq_map, List.map_cons, List.zip_cons_cons, List.map_cons, List.map_map, ← zip_ix f da db xs ys (by simpa using h)]
    rfl
theorem prc_ix (os : List Of) (cs : List Int) (h : cs.length = os.length) : ((List.range os.length).map fun k => (os.getD k of0).p * cs.getD k 0).sum = prc os cs := by
  rw [zip_ix (fun o c => o.p * c) of0 0 os cs h.symm]; rfl
/-- the law's own price, whatever slot the turn stands in -/
theorem price_comp (os : List Of) (u : Bool) (cs : List Int) (hz : os.length ≤ 1000) (hc : CsOk os.length cs) (si sc sk : Nat) (ρ : DEnv) (hk : sk < ρ.length) (ne1 : sk ≠ si) (ne2 : sk ≠ sc)
    (h0 : ρ[si]? = some (some (.val (.lst (os.map (ofX false)))))) (h3 : ρ[sc]? = some (some (.val (sI u cs)))) :
    (eLc (iRange (aCons (eCB gLen (aCons (pName si) aNil)) aNil)) [sk] (gtName sk) tYesD (eBin gMul (eBin gIx (eBin gIx (pName si) (pName sk)) (eK (.int 0))) (eBin gIx (pName sc) (pName sk)))) ρ = some (.lst (((os.zip cs).map fun q => q.1.p * q.2).map D.int)) := by
  have hcl := hc.vec.1
  have C := lcL_all (g := gtName sk) (fe := eBin gMul (eBin gIx (eBin gIx (pName si) (pName sk)) (eK (.int 0))) (eBin gIx (pName sc) (pName sk))) (ρ := wipeD ρ [sk]) (fun i : Nat => D.int (i : Int)) (fun i => D.int ((os.getD i of0).p * cs.getD i 0)) (List.range os.length) fun i hi => by
    have hi : i < os.length := List.mem_range.mp hi
    have hk2 : sk < (wipeD ρ [sk]).length := by rw [wipeD_length]; exact hk
    have w0 : (wipeD ρ [sk])[si]? = some (some (.val (.lst (os.map (ofX false))))) := by show (ρ.set sk none)[si]? = _; rw [List.getElem?_set_ne ne1]; exact h0
    have w3 : (wipeD ρ [sk])[sc]? = some (some (.val (sI u cs))) := by show (ρ.set sk none)[sc]? = _; rw [List.getElem?_set_ne ne2]; exact h3
    have g1 : gIx (.lst (os.map (ofX false))) (.int (i : Nat)) = some (ofX false (os.getD i of0)) := gIx_lst hi
    have g2 : gIx (sI u cs) (.int (i : Nat)) = some (.int (cs.getD i 0)) := by cases u; exact gIx_lst (by omega); exact gIx_tup (by omega)
    have g0 := ix0_ofX false (os.getD i of0)
    have hx : 0 ≤ cs.getD i 0 ∧ cs.getD i 0 ≤ 9 := by
      have : cs.getD i 0 ∈ cs := by rw [List.getD_eq_getElem?_getD, List.getElem?_eq_getElem (by omega)]; exact List.getElem_mem _
      exact hc.vec.2 _ this
    have hcm : CMul (os.getD i of0).p (cs.getD i 0) := cmul_r (by omega)
    generalize os.getD i of0 = o at g1 g0 hcm
    generalize cs.getD i 0 = c at g2 hcm
    refine ⟨_, rfl, ?_⟩
    simp only [ev_bin, ev_pname, ev_k, List.getElem?_set_ne ne1, List.getElem?_set_ne ne2, w0, w3, List.getElem?_set_self hk2, Option.bind_some, g1, g2, g0, ev_mul, hcm, if_true]
  have e1 : (List.range os.length).map (fun i => D.int ((os.getD i of0).p * cs.getD i 0)) = ((os.zip cs).map fun q => q.1.p * q.2).map D.int := by
    rw [List.map_map]
    exact zip_ix (fun o c => D.int (o.p * c)) of0 0 os cs hcl.symm
  rw [e1] at C
  have hsm : smallI (os.length : Int) = true := smallI_of (by omega) (by omega)
  have hz2 : ((os.zip cs).map fun q => q.1.p * q.2).length ≤ sizeLine := short_of (by rw [List.length_map, List.length_zip]; omega)
  rw [← List.length_map (f := D.int)] at hz2
  simp only [ev_lc, ev_irange, ev_cons, ev_cb, ev_nil, ev_pname, h0, Option.bind_some, gLen_l, List.length_map, hsm, if_true, Int.toNat_natCast, rangeD_nat, C]
  rw [List.length_map] at hz2
  simp only [List.length_map] at hz2
  rw [if_pos hz2]
def gLt3 (os : List Of) (m c : List Int) : gOrd .lt (oD os false false c) (oD os false false m) = some (.bl (lessO os c m)) := by
  unfold gOrd
  rw [plain_oD (n := 18), plain_oD (n := 18), ord_oD]
  rfl
def bstO (os : List Of) (m : Option (List Int)) (c : List Int) : Option (List Int) := match m with | none => some c | some m => some (pick os m c)
def optD (os : List Of) (u v : Bool) (m : Option (List Int)) : D := match m with | some c => oD os u v c | none => .non
theorem bstO_some (os : List Of) : ∀ (l : List (List Int)) (m : List Int), l.foldl (bstO os) (some m) = some (l.foldl (pick os) m)
  | [], m => rfl
  | c :: l, m => bstO_some os l (pick os m c)
theorem bst_fold (os : List Of) (l : List (List Int)) : l.foldl (bstO os) none = bst os l := by
  cases l with
  | nil => rfl
  | cons c l => exact bstO_some os l c
theorem optD_non (os : List Of) (u v : Bool) (m : Option (List Int)) : isNon (optD os u v m) = m.isNone := by
  cases m with
  | none => rfl
  | some c => cases v <;> rfl
theorem law_best_eq (os : List Of) (l : List (List Int)) (hz : os.length ≤ 1000) (hc : ∀ cs ∈ l, CsOk os.length cs) : F__law_best [.lst (os.map (ofX false)), .lst (l.map lI)] = some (bstD os false false l) := by
  have F := forL_fold (g := gtName 3) (fb := B__law_best_2) lI (bstO os)
    (fun m ρ => ∃ a b c e, ρ = [some (.val (.lst (os.map (ofX false)))), some (.val (.lst (l.map lI))), some (.val (optD os false false m)), a, b, c, e]) l none _ ⟨none, none, none, none, rfl⟩ ?_
  · obtain ⟨ρ', e1, a, b, c, e, rfl⟩ := F
    rw [bst_fold] at e1
    have h0 : optD os false false none = .non := rfl
    have h1 : optD os false false (bst os l) = bstD os false false l := rfl
    rw [h0, h1] at e1
    refine fn_rt (ρ := [some (.val (.lst (os.map (ofX false)))), some (.val (.lst (l.map lI))), none, none, none, none, none]) rfl ?_
    unfold S__law_best
    simp
    rw [e1]
    simp
  · rintro cs hm m ρ ⟨a, b, c, e, rfl⟩
    have hcs := hc cs hm
    have P := price_comp os false cs hz hcs 0 3 6 [some (.val (.lst (os.map (ofX false)))), some (.val (.lst (l.map lI))), some (.val (optD os false false m)), some (.val (lI cs)), b, c, e] (by simp) (by decide) (by decide) rfl rfl
    have hL : L__law_best_1 [some (.val (.lst (os.map (ofX false)))), some (.val (.lst (l.map lI))), some (.val (optD os false false m)), some (.val (lI cs)), b, c, e] = _ := P
    have hs : gSum [.lst (((os.zip cs).map fun q => q.1.p * q.2).map D.int)] = some (.int (prc os cs)) := sum_lI _
    clear P
    generalize ((os.zip cs).map fun q => q.1.p * q.2) = ns at hL hs
    have hs2 := sum_lI cs
    have ho : D.lst [.int (prc os cs), .int cs.sum, lI cs] = oD os false false cs := rfl
    have hn := optD_non os false false m
    refine ⟨_, _, rfl, ?_, some (.val (lI cs)), some (.val (.int (prc os cs))), some (.val (oD os false false cs)), e, rfl⟩
    cases m with
    | none =>
      have h1 : optD os false false none = .non := rfl
      rw [h1] at hL ⊢
      have h2 : optD os false false (bstO os none cs) = oD os false false cs := rfl
      rw [h2]
      unfold B__law_best_2
      simp [hL, hs, hs2, ho]
    | some m =>
      have hg := gLt3 os m cs
      have h1 : optD os false false (some m) = oD os false false m := rfl
      rw [h1] at hn hL ⊢
      have h2 : optD os false false (bstO os (some m) cs) = oD os false false (pick os m cs) := rfl
      rw [h2]
      unfold B__law_best_2
      unfold pick
      cases hq : lessO os cs m
      · rw [hq] at hg
        simp [hL, hs, hs2, ho, hn, hg]
      · rw [hq] at hg
        simp [hL, hs, hs2, ho, hn, hg]
def cheapD (L : Nat) (d pk : Int) (os : List Of) : D := match bst os (fnd L d pk os) with | some c => tI c | none => .non
theorem cheapest_eq (L : Nat) (d pk : Int) (os : List Of) (h : Case L d pk os) (t : Bool) : F_cheapest [.int (L : Int), .int d, .int pk, .lst (os.map (ofX t))] = some (cheapD L d pk os) := by
  have h1 := enough_counts_eq L d pk os h t
  have h2 := first_hire_eq os t (fnd L d pk os) (by have := h.n3; omega) (fnd_len h) fun cs hc => fnd_cs h hc
  refine fn_rt (ρ := [some (.val (.int (L : Int))), some (.val (.int d)), some (.val (.int pk)), some (.val (.lst (os.map (ofX t)))), none]) rfl ?_
  unfold S_cheapest cheapD
  unfold bstD at h2
  cases c : bst os (fnd L d pk os) with
  | none =>
    rw [c] at h2
    simp [h1, h2]
  | some cs =>
    rw [c] at h2
    have ho : oD os true true cs = .tup [.int (prc os cs), .int cs.sum, tI cs] := rfl
    have g : gIx (.tup [.int (prc os cs), .int cs.sum, tI cs]) (.int 2) = some (tI cs) := rfl
    simp [h1, h2, ho, g]
end K75
namespace K75
open PySem PySem.Spec PyProof.Rows L2 DL
theorem foldl_app {α β : Type} (g : α → List β) : ∀ (l : List α) (a : List β), l.foldl (fun s x => s ++ g x) a = a ++ l.flatMap g
  | [], a => by simp
  | x :: l, a => by rw [List.foldl_cons, foldl_app g l, List.flatMap_cons, List.append_assoc]
theorem mem_ix (cs : List Int) : (List.range cs.length).flatMap (fun k => List.replicate (cs.getD k 0).toNat (k : Int)) = mem cs := by
  unfold mem memZ
  have h := zip_ix (fun (k : Nat) (c : Int) => List.replicate c.toNat (k : Int)) 0 0 (List.range cs.length) cs (by simp)
  rw [List.flatMap_def, List.flatMap_def, ← h, List.length_range]
  congr 1
  refine List.map_congr_left fun k hk => ?_
  have hk : k < cs.length := List.mem_range.mp hk
  have : (List.range cs.length).getD k 0 = k := by rw [List.getD_eq_getElem?_getD, List.getElem?_range hk]; rfl
  rw [this]
theorem eqDL_kT : ∀ os : List Of, eqDL (os.map kT) (os.map kT) = true
  | [] => eqDL_nil
  | o :: os => by rw [List.map_cons, eqDL_cc, eqDL_kT os, show eqD (kT o) (kT o) = true from (eqD_tI _ _).trans (decide_eq_true rfl)]; rfl
theorem gEq_kinds (os : List Of) : gEq (.tup (os.map kT)) (.tup (os.map kT)) = some (.bl true) := by
  have hp : DL.plain 20 (.tup (os.map kT)) = true := plainL_of _ fun x _ => plain_tI (n := 18) _
  unfold gEq
  rw [hp, eqD_tup, eqDL_kT]
  rfl
theorem gEq_tI (a b : List Int) : gEq (tI a) (tI b) = some (.bl (decide (a = b))) := by
  unfold gEq
  rw [plain_tI, plain_tI, eqD_tI]
  rfl
theorem gAdd_lI (a b : List Int) (h : a.length + b.length ≤ sizeLine) : gAdd (lI a) (lI b) = some (lI (a ++ b)) := by
  show (if (a.map D.int).length + (b.map D.int).length ≤ sizeLine then some (D.lst (a.map D.int ++ b.map D.int)) else none) = _
  rw [List.length_map, List.length_map, if_pos h, ← List.map_append]
theorem cf_get (os : List Of) (ms : List Int) (pk : Int) (ρ : DEnv) (h : ρ[3]? = some (some (.val (crewD os ms pk)))) :
    eFld ["Crew"] "kinds" (pName 3) ρ = some (.tup (os.map kT)) ∧ eFld ["Crew"] "members" (pName 3) ρ = some (tI ms) ∧ eFld ["Crew"] "peeks" (pName 3) ρ = some (.int pk) := by
  refine ⟨?_, ?_, ?_⟩
  · simp only [ev_fld, ev_pname, h, Option.bind_some, crewD, List.mem_singleton, if_true, lk1]
  · simp only [ev_fld, ev_pname, h, Option.bind_some, crewD, List.mem_singleton, if_true, lk2]
  · simp only [ev_fld, ev_pname, h, Option.bind_some, crewD, List.mem_singleton, if_true, lk4]
theorem crew_right_eq (os : List Of) (u : Bool) (cs : List Int) (pk : Int) (ho : ∀ o ∈ os, OfOk o) (hz : os.length ≤ 1000) (hc : CsOk os.length cs) :
    F__law_crew_right [.lst (os.map (ofX false)), sI u cs, .int pk] = some (.bl true) := by
  have hcl := hc.vec.1
  have h1 : F_hire_crew [.lst (os.map (ofX true)), tI cs, .int pk] = some (crewD os (mem cs) pk) := hire_crew_eq os true true cs pk ho hz hc
  have hz2 : os.length ≤ sizeLine := short_of (by omega)
  have htu : gTuple [sI u cs] = some (tI cs) := by cases u <;> rfl
  have hL1 : L__law_crew_right_1 [some (.val (.lst (os.map (ofX false)))), some (.val (sI u cs)), some (.val (.int pk)), none, none, none, none, none, none] = some (.lst (os.map (ofX true))) := by
    have C := lcL_all (g := gtName 7) (fe := eCB gTuple (aCons (pName 7) aNil)) (ρ := [some (.val (.lst (os.map (ofX false)))), some (.val (sI u cs)), some (.val (.int pk)), none, none, none, none, none, none]) (ofX false) (ofX true) os fun o _ => by
      have g : gTuple [ofX false o] = some (ofX true o) := rfl
      refine ⟨_, rfl, ?_⟩
      simp [g]
    unfold L__law_crew_right_1
    simp only [ev_lc, ev_iseq, ev_name, List.getElem?_cons_succ, List.getElem?_cons_zero, Option.bind_some, wipeD, List.set_cons_succ, List.set_cons_zero, C, List.length_map, hz2, if_true]
  have F := forL_ix (g := gtName 5) (fb := B__law_crew_right_3) (fun i : Nat => D.int (i : Int)) (fun s k => s ++ List.replicate (cs.getD k 0).toNat (k : Int))
    (fun i s ρ => (∃ a, ρ = [some (.val (.lst (os.map (ofX false)))), some (.val (sI u cs)), some (.val (.int pk)), some (.val (crewD os (mem cs) pk)), some (.val (lI s)), a, none, none, none]) ∧ s.length ≤ 9 * i) (List.range cs.length) 0 [] _ ⟨⟨none, rfl⟩, Nat.zero_le _⟩ ?_
  · obtain ⟨ρ', e1, ⟨a, rfl⟩, _⟩ := F
    rw [foldl_app, List.nil_append, mem_ix] at e1
    have hL4 : L__law_crew_right_4 [some (.val (.lst (os.map (ofX false)))), some (.val (sI u cs)), some (.val (.int pk)), some (.val (crewD os (mem cs) pk)), some (.val (lI (mem cs))), a, none, none, none] = some (.lst (os.map kT)) := by
      have C := lcL_all (g := gtName 7) (fe := eTup (aCons (eBin gIx (pName 7) (eK (.int 2))) (aCons (eBin gIx (pName 7) (eK (.int 3))) aNil))) (ρ := [some (.val (.lst (os.map (ofX false)))), some (.val (sI u cs)), some (.val (.int pk)), some (.val (crewD os (mem cs) pk)), some (.val (lI (mem cs))), a, none, none, none]) (ofX false) kT os fun o _ => by
        have g0 : gIx (ofX false o) (.int 2) = some (.int o.a) := rfl
        have g1 : gIx (ofX false o) (.int 3) = some (.int o.b) := rfl
        have g2 : kT o = .tup [.int o.a, .int o.b] := rfl
        refine ⟨_, rfl, ?_⟩
        simp [g0, g1, g2]
      unfold L__law_crew_right_4
      simp only [ev_lc, ev_iseq, ev_name, List.getElem?_cons_succ, List.getElem?_cons_zero, Option.bind_some, wipeD, List.set_cons_succ, List.set_cons_zero, C, List.length_map, hz2, if_true]
    have hlen : gLen [sI u cs] = some (.int (cs.length : Nat)) := by cases u <;> simp [sI, lI, tI]
    have hsm : smallI (cs.length : Int) = true := smallI_of (by omega) (by omega)
    have e0 : lI [] = D.lst [] := rfl
    rw [e0] at e1
    have hm : gTuple [lI (mem cs)] = some (tI (mem cs)) := rfl
    have hk := gEq_kinds os
    have hme := gEq_tI (mem cs) (mem cs)
    rw [decide_eq_true rfl] at hme
    refine fn_rt (ρ := [some (.val (.lst (os.map (ofX false)))), some (.val (sI u cs)), some (.val (.int pk)), none, none, none, none, none, none]) rfl ?_
    unfold S__law_crew_right
    simp [-ev_fld, hL1, htu, h1, hlen, hsm, rangeD_nat]
    rw [e1]
    have f1 := cf_get os (mem cs) pk [some (.val (.lst (os.map (ofX false)))), some (.val (sI u cs)), some (.val (.int pk)), some (.val (crewD os (mem cs) pk)), some (.val (lI (mem cs))), a, some (.val (.tup (os.map kT))), none, none] rfl
    simp [-ev_fld, hL4, f1, hk, hm, hme]
  · rintro i k hq s ρ ⟨⟨a, rfl⟩, hs⟩
    have hk : k < cs.length := List.mem_range.mp (List.mem_of_getElem? hq)
    have hi : i < cs.length := by have := (List.getElem?_eq_some_iff.mp hq).1; rwa [List.length_range] at this
    rw [Nat.zero_add] at hs ⊢
    have hx : 0 ≤ cs.getD k 0 ∧ cs.getD k 0 ≤ 9 := by
      have : cs.getD k 0 ∈ cs := by rw [List.getD_eq_getElem?_getD, List.getElem?_eq_getElem hk]; exact List.getElem_mem _
      exact hc.vec.2 _ this
    have g2 : gIx (sI u cs) (.int (k : Nat)) = some (.int (cs.getD k 0)) := by cases u; exact gIx_lst hk; exact gIx_tup hk
    generalize cs.getD k 0 = c at hx g2
    have C := lcL_all (g := gtName 8) (fe := eName 5) (ρ := [some (.val (.lst (os.map (ofX false)))), some (.val (sI u cs)), some (.val (.int pk)), some (.val (crewD os (mem cs) pk)), some (.val (lI s)), some (.val (.int (k : Nat))), none, none, none]) (fun i : Nat => D.int (i : Int)) (fun _ => D.int (k : Nat)) (List.range c.toNat) fun j _ => ⟨_, rfl, by simp⟩
    have e1 : (List.range c.toNat).map (fun _ => D.int (k : Nat)) = (List.replicate c.toNat (k : Int)).map D.int := by rw [List.map_replicate, List.map_const', List.length_range]
    rw [e1] at C
    have hsm : smallI c = true := smallI_of (by omega) (by omega)
    have hz3 : c.toNat ≤ sizeLine := short_of (by omega)
    have hL2 : L__law_crew_right_2 [some (.val (.lst (os.map (ofX false)))), some (.val (sI u cs)), some (.val (.int pk)), some (.val (crewD os (mem cs) pk)), some (.val (lI s)), some (.val (.int (k : Nat))), none, none, none] = some (lI (List.replicate c.toNat (k : Int))) := by
      unfold L__law_crew_right_2
      simp only [ev_lc, ev_irange, ev_cons, ev_nil, ev_bin, ev_pname, g2, hsm, if_true, rangeD_nat, List.getElem?_cons_succ, List.getElem?_cons_zero, Option.bind_some, wipeD, List.set_cons_succ, List.set_cons_zero, C, List.length_map, List.length_replicate, hz3]
    have hadd := gAdd_lI s (List.replicate c.toNat (k : Int)) (short_of (by rw [List.length_replicate]; omega))
    refine ⟨_, _, rfl, ?_, ⟨some (.val (.int (k : Nat))), rfl⟩, by rw [List.length_append, List.length_replicate]; omega⟩
    unfold B__law_crew_right_3
    simp [hL2, hadd]
end K75
namespace K75
open PySem PySem.Spec PyProof.Rows L2 DL
/-! ### the order is a strict total one -/
theorem lexI_tri : ∀ a b : List Int, a ≠ b → lexI a b = false → lexI b a = true
  | [], [], h, _ => absurd rfl h
  | [], _ :: _, _, h => by simp [lexI] at h
  | _ :: _, [], _, _ => rfl
  | x :: a, y :: b, h, e => by
    unfold lexI at e ⊢
    by_cases c : x = y
    · rw [if_pos c] at e
      rw [if_pos c.symm]
      exact lexI_tri a b (fun q => h (by rw [c, q])) e
    · rw [if_neg c] at e
      rw [if_neg (fun q => c q.symm)]
      have := of_decide_eq_false e
      exact decide_eq_true (by omega)
theorem lexI_tr : ∀ a b c : List Int, lexI a b = true → lexI b c = true → lexI a c = true
  | [], [], _, h, _ => by simp [lexI] at h
  | _ :: _, [], _, h, _ => by simp [lexI] at h
  | _, _ :: _, [], _, h => by simp [lexI] at h
  | [], _ :: _, _ :: _, _, _ => rfl
  | x :: a, y :: b, z :: c, h1, h2 => by
    unfold lexI at h1 h2 ⊢
    by_cases e1 : x = y
    · rw [if_pos e1] at h1
      subst e1
      by_cases e2 : x = z
      · rw [if_pos e2] at h2 ⊢
        exact lexI_tr a b c h1 h2
      · rw [if_neg e2] at h2 ⊢
        exact h2
    · rw [if_neg e1] at h1
      have h1 := of_decide_eq_true h1
      by_cases e2 : y = z
      · rw [if_neg (by omega)]
        exact decide_eq_true (by omega)
      · rw [if_neg e2] at h2
        have h2 := of_decide_eq_true h2
        rw [if_neg (by omega)]
        exact decide_eq_true (by omega)
/-- sum, then the counts -/
def less2 (a b : List Int) : Bool := if a.sum = b.sum then lexI a b else decide (a.sum < b.sum)
theorem lessO_def (os : List Of) (a b : List Int) : lessO os a b = if prc os a = prc os b then less2 a b else decide (prc os a < prc os b) := rfl
theorem lessO_tri (os : List Of) (a b : List Int) (h : a ≠ b) (e : lessO os a b = false) : lessO os b a = true := by
  rw [lessO_def] at e ⊢
  unfold less2 at e ⊢
  by_cases c : prc os a = prc os b
  · rw [if_pos c] at e
    rw [if_pos c.symm]
    by_cases c2 : a.sum = b.sum
    · rw [if_pos c2] at e
      rw [if_pos c2.symm]
      exact lexI_tri a b h e
    · rw [if_neg c2] at e
      rw [if_neg (fun q => c2 q.symm)]
      have := of_decide_eq_false e
      exact decide_eq_true (by omega)
  · rw [if_neg c] at e
    rw [if_neg (fun q => c q.symm)]
    have := of_decide_eq_false e
    exact decide_eq_true (by omega)
theorem less2_tr (a b c : List Int) (h1 : less2 a b = true) (h2 : less2 b c = true) : less2 a c = true := by
  unfold less2 at h1 h2 ⊢
  by_cases e1 : a.sum = b.sum
  · rw [if_pos e1] at h1
    by_cases e2 : b.sum = c.sum
    · rw [if_pos e2] at h2
      rw [if_pos (e1.trans e2)]
      exact lexI_tr a b c h1 h2
    · rw [if_neg e2] at h2
      rw [if_neg (by omega), e1]
      exact h2
  · rw [if_neg e1] at h1
    have h1 := of_decide_eq_true h1
    by_cases e2 : b.sum = c.sum
    · rw [if_neg (by omega)]
      exact decide_eq_true (by omega)
    · rw [if_neg e2] at h2
      have h2 := of_decide_eq_true h2
      rw [if_neg (by omega)]
      exact decide_eq_true (by omega)
theorem lessO_tr (os : List Of) (a b c : List Int) (h1 : lessO os a b = true) (h2 : lessO os b c = true) : lessO os a c = true := by
  rw [lessO_def] at h1 h2 ⊢
  by_cases e1 : prc os a = prc os b
  · rw [if_pos e1] at h1
    by_cases e2 : prc os b = prc os c
    · rw [if_pos e2] at h2
      rw [if_pos (e1.trans e2)]
      exact less2_tr a b c h1 h2
    · rw [if_neg e2] at h2
      rw [if_neg (by omega), e1]
      exact h2
  · rw [if_neg e1] at h1
    have h1 := of_decide_eq_true h1
    by_cases e2 : prc os b = prc os c
    · rw [if_neg (by omega)]
      exact decide_eq_true (by omega)
    · rw [if_neg e2] at h2
      have h2 := of_decide_eq_true h2
      rw [if_neg (by omega)]
      exact decide_eq_true (by omega)
theorem lessO_self (os : List Of) (a : List Int) : lessO os a a = false := by
  rw [lessO_def, if_pos rfl]; unfold less2; rw [if_pos rfl, lexI_self]
theorem lessO_asym (os : List Of) (a b : List Int) (h : lessO os a b = true) : lessO os b a = false := by
  cases q : lessO os b a with
  | false => rfl
  | true => have := lessO_tr os a b a h q; rw [lessO_self] at this; cases this
/-- a ≤ b ≤ c -/
theorem ge_tr (os : List Of) (a b c : List Int) (h1 : lessO os b a = false) (h2 : lessO os c b = false) : lessO os c a = false := by
  cases q : lessO os c a with
  | false => rfl
  | true =>
    by_cases e : c = b
    · subst e; rw [q] at h1; cases h1
    · have h3 := lessO_tri os c b e h2
      have := lessO_tr os b c a h3 q
      rw [h1] at this; cases this
theorem fold_least (os : List Of) : ∀ (l : List (List Int)) (m : List Int), (l.foldl (pick os) m ∈ m :: l) ∧ ∀ c ∈ m :: l, lessO os c (l.foldl (pick os) m) = false
  | [], m => ⟨List.mem_singleton.mpr rfl, fun c h => by rw [List.mem_singleton.mp h]; exact lessO_self os m⟩
  | x :: l, m => by
    obtain ⟨h1, h2⟩ := fold_least os l (pick os m x)
    rw [List.foldl_cons]
    have hp : pick os m x = m ∨ pick os m x = x := by unfold pick; split <;> simp
    have hm : lessO os m (pick os m x) = false := by
      unfold pick; split
      · rename_i q; exact lessO_asym os x m q
      · exact lessO_self os m
    have hx : lessO os x (pick os m x) = false := by
      unfold pick; split
      · exact lessO_self os x
      · rename_i q; exact Bool.eq_false_iff.mpr q
    have hr := h2 _ (List.mem_cons_self ..)
    refine ⟨?_, fun c hc => ?_⟩
    · rcases List.mem_cons.mp h1 with e | e
      · rw [e]; rcases hp with e2 | e2 <;> rw [e2] <;> simp
      · exact List.mem_cons_of_mem _ (List.mem_cons_of_mem _ e)
    · rcases List.mem_cons.mp hc with e | hc
      · rw [e]; exact ge_tr os _ _ _ hr hm
      · rcases List.mem_cons.mp hc with e | hc
        · rw [e]; exact ge_tr os _ _ _ hr hx
        · exact h2 c (List.mem_cons_of_mem _ hc)
theorem bst_spec (os : List Of) {l : List (List Int)} {m : List Int} (h : bst os l = some m) : m ∈ l ∧ ∀ c ∈ l, lessO os c m = false := by
  cases l with
  | nil => cases h
  | cons c l => cases h; exact fold_least os l c
theorem bst_none (os : List Of) {l : List (List Int)} (h : bst os l = none) : l = [] := by
  cases l with
  | nil => rfl
  | cons c l => cases h
/-! ### another price -/
def setP (os : List Of) (i : Nat) (p : Int) : List Of := os.set i { os.getD i of0 with p := p }
theorem setP_len (os : List Of) (i : Nat) (p : Int) : (setP os i p).length = os.length := List.length_set
theorem setP_map {α : Type} (f : Of → α) (hf : ∀ o p, f { o with p := p } = f o) : ∀ (os : List Of) (i : Nat) (p : Int), (setP os i p).map f = os.map f
  | [], i, p => rfl
  | o :: os, 0, p => by show f { o with p := p } :: os.map f = _; rw [hf]; rfl
  | o :: os, i + 1, p => by
    have := setP_map f hf os i p
    show f o :: (setP os i p).map f = _
    rw [this]; rfl
theorem setP_ok {os : List Of} {i : Nat} {p : Int} (h : ∀ o ∈ os, OfOk o) : ∀ o ∈ setP os i p, OfOk o := fun o ho => by
  by_cases hi : i < os.length
  · rcases List.mem_or_eq_of_mem_set ho with e | e
    · exact h o e
    · have hm := h (os.getD i of0) (by rw [List.getD_eq_getElem?_getD, List.getElem?_eq_getElem hi]; exact List.getElem_mem _)
      rw [e]
      exact ⟨hm.m0, hm.m9, hm.a0, hm.a9, hm.b0, hm.b9⟩
  · have : setP os i p = os := List.set_eq_of_length_le (by omega)
    rw [this] at ho
    exact h o ho
theorem setP_slk (os : List Of) (i : Nat) (p : Int) : slk (setP os i p) = slk os := setP_map sl1 (fun _ _ => rfl) os i p
theorem allC_m (os : List Of) : allC os = (os.map (·.m)).foldl (fun f m => acStep ⟨0, m, 0, 0⟩ f) [[]] := by
  unfold allC; rw [List.foldl_map]; rfl
theorem setP_allC (os : List Of) (i : Nat) (p : Int) : allC (setP os i p) = allC os := by
  rw [allC_m, allC_m, setP_map (·.m) (fun _ _ => rfl)]
theorem setP_fnd (L : Nat) (d pk : Int) (os : List Of) (i : Nat) (p : Int) : fnd L d pk (setP os i p) = fnd L d pk os := by
  unfold fnd
  rw [setP_allC]
  congr 1
  funext cs
  unfold enough openOk
  rw [setP_slk]
theorem setP_case {L : Nat} {d pk : Int} {os : List Of} (h : Case L d pk os) (i : Nat) (p : Int) : Case L d pk (setP os i p) :=
  ⟨h.L1, h.L4, h.hd, h.hpk, by rw [setP_len]; exact h.n0, by rw [setP_len]; exact h.n3, setP_ok h.ho⟩
def oth (os : List Of) (i : Nat) (c : List Int) : Int := prc os c - (os.getD i of0).p * c.getD i 0
theorem prc_setP : ∀ (os : List Of) (cs : List Int) (i : Nat) (p : Int), os.length = cs.length → i < os.length → prc (setP os i p) cs = oth os i cs + p * cs.getD i 0
  | [], _, i, p, _, h => by simp at h
  | o :: os, [], i, p, h, _ => by simp at h
  | o :: os, c :: cs, 0, p, _, _ => by
    show (p * c :: (os.zip cs).map _).sum = ((o.p * c :: (os.zip cs).map _).sum - o.p * c) + p * c
    rw [List.sum_cons, List.sum_cons]
    omega
  | o :: os, c :: cs, i + 1, p, h, hi => by
    have ih := prc_setP os cs i p (by simpa using h) (by simpa using hi)
    have e1 : prc (setP (o :: os) (i + 1) p) (c :: cs) = o.p * c + prc (setP os i p) cs := by
      show (o.p * c :: ((setP os i p).zip cs).map _).sum = _
      rw [List.sum_cons]; rfl
    have e2 : prc (o :: os) (c :: cs) = o.p * c + prc os cs := by
      show (o.p * c :: (os.zip cs).map _).sum = _
      rw [List.sum_cons]; rfl
    have e3 : oth (o :: os) (i + 1) (c :: cs) = prc (o :: os) (c :: cs) - (os.getD i of0).p * cs.getD i 0 := rfl
    have e4 : (c :: cs).getD (i + 1) 0 = cs.getD i 0 := rfl
    rw [e1, ih, e3, e2, e4]
    unfold oth
    omega
end K75
namespace K75
open PySem PySem.Spec PyProof.Rows L2 DL
def cap (x : Int) : Int := if 999 < x then 999 else x
def wth (P O k : Int) (l : Bool) : Int := cap (if O + (P - O) / k * k = P ∧ l = false then (P - O) / k - 1 else (P - O) / k)
theorem wth_iff (P O k p : Int) (l : Bool) (hk : 0 < k) (p9 : p ≤ 999) : (if O + p * k = P then l else decide (O + p * k < P)) = true ↔ p ≤ wth P O k l := by
  have q1 : (P - O) / k * k ≤ P - O := Int.ediv_mul_le _ (by omega)
  have q2 : P - O < ((P - O) / k + 1) * k := Int.lt_ediv_add_one_mul_self _ hk
  unfold wth
  generalize (P - O) / k = q at q1 q2
  rw [Int.add_mul, Int.one_mul] at q2
  have hA : p < q → p * k ≤ q * k - k := fun h => by
    have := Int.mul_le_mul_of_nonneg_right (show p ≤ q - 1 by omega) (Int.le_of_lt hk)
    rw [Int.sub_mul, Int.one_mul] at this; exact this
  have hB : q < p → q * k + k ≤ p * k := fun h => by
    have := Int.mul_le_mul_of_nonneg_right (show q + 1 ≤ p by omega) (Int.le_of_lt hk)
    rw [Int.add_mul, Int.one_mul] at this; exact this
  have hC : p = q → p * k = q * k := fun h => by rw [h]
  generalize p * k = pk at hA hB hC
  generalize q * k = qk at q1 q2 hA hB hC
  unfold cap
  cases l
  · simp only [and_true]
    split <;> (try simp only [Bool.false_eq_true, false_iff, decide_eq_true_eq]) <;> split <;> split <;> first | omega | (constructor <;> intro <;> omega)
  · simp only [Bool.true_eq_false, and_false, if_false]
    split <;> (try simp only [true_iff, decide_eq_true_eq]) <;> split <;> first | omega | (constructor <;> intro <;> omega)
def zer (i : Nat) (C : List (List Int)) : List (List Int) := C.filter fun c => c.getD i 0 == 0
def pst (i : Nat) (C : List (List Int)) : List (List Int) := C.filter fun c => decide (0 < c.getD i 0)
def worth (os : List Of) (i : Nat) (B : Option (List Int)) (c : List Int) : Int := match B with
  | none => 999
  | some b => wth (prc os b) (oth os i c) (c.getD i 0) (less2 c b)
theorem prc_zero (os : List Of) (i : Nat) (p : Int) (b : List Int) (hb : os.length = b.length) (hi : i < os.length) (b0 : b.getD i 0 = 0) : prc (setP os i p) b = prc os b := by
  rw [prc_setP os b i p hb hi]
  unfold oth
  rw [b0]
  omega
theorem worth_iff (os : List Of) (i : Nat) (p : Int) (c b : List Int) (hc : os.length = c.length) (hb : os.length = b.length) (hi : i < os.length) (b0 : b.getD i 0 = 0) (c1 : 0 < c.getD i 0) (p9 : p ≤ 999) :
    lessO (setP os i p) c b = true ↔ p ≤ worth os i (some b) c := by
  rw [lessO_def, prc_zero os i p b hb hi b0, prc_setP os c i p hc hi]
  exact wth_iff _ _ _ _ _ c1 p9
theorem fold_congr {os os' : List Of} : ∀ (l : List (List Int)) (m : List Int), (∀ a ∈ m :: l, prc os a = prc os' a) → l.foldl (pick os) m = l.foldl (pick os') m
  | [], _, _ => rfl
  | x :: l, m, h => by
    have hm := h m (List.mem_cons_self ..)
    have hx := h x (List.mem_cons_of_mem _ (List.mem_cons_self ..))
    have e : pick os m x = pick os' m x := by unfold pick lessO; rw [hm, hx]
    rw [List.foldl_cons, List.foldl_cons, e]
    refine fold_congr l _ fun a ha => ?_
    rcases List.mem_cons.mp ha with q | ha
    · rw [q]; unfold pick; split <;> assumption
    · exact h a (List.mem_cons_of_mem _ (List.mem_cons_of_mem _ ha))
theorem bst_congr {os os' : List Of} {l : List (List Int)} (h : ∀ a ∈ l, prc os a = prc os' a) : bst os l = bst os' l := by
  cases l with
  | nil => rfl
  | cons c l => exact congrArg some (fold_congr l c h)
/-- the cheapest takes offer i at price p just when p is not above some worth -/
theorem win_iff (os : List Of) (i : Nat) (p : Int) (C : List (List Int)) (hC : ∀ c ∈ C, CsOk os.length c) (hi : i < os.length) (p9 : p ≤ 999) {m : List Int} (hm : bst (setP os i p) C = some m) :
    0 < m.getD i 0 ↔ ∃ c ∈ pst i C, p ≤ worth os i (bst os (zer i C)) c := by
  obtain ⟨m1, m2⟩ := bst_spec _ hm
  have hl : ∀ c ∈ C, os.length = c.length := fun c hc => (hC c hc).vec.1.symm
  have hz : bst os (zer i C) = bst (setP os i p) (zer i C) := bst_congr fun a ha => by
    obtain ⟨ha, a0⟩ := List.mem_filter.mp ha
    exact (prc_zero os i p a (hl a ha) hi (by simpa using a0)).symm
  have hpst : ∀ c, c ∈ pst i C ↔ c ∈ C ∧ 0 < c.getD i 0 := fun c => by unfold pst; rw [List.mem_filter, decide_eq_true_eq]
  have hzer : ∀ c, c ∈ zer i C ↔ c ∈ C ∧ c.getD i 0 = 0 := fun c => by unfold zer; rw [List.mem_filter, beq_iff_eq]
  constructor
  · intro hp
    refine ⟨m, (hpst m).mpr ⟨m1, hp⟩, ?_⟩
    cases hB : bst os (zer i C) with
    | none => exact p9
    | some b =>
      rw [hz] at hB
      obtain ⟨b1, b2⟩ := bst_spec _ hB
      obtain ⟨b1, b0⟩ := (hzer b).mp b1
      refine (worth_iff os i p m b (hl m m1) (hl b b1) hi b0 hp p9).mp ?_
      refine lessO_tri _ b m (fun q => ?_) (m2 b b1)
      rw [q] at b0; omega
  · rintro ⟨c, hc, hw⟩
    obtain ⟨c1, cp⟩ := (hpst c).mp hc
    have hm0 : 0 ≤ m.getD i 0 := by
      have hmv := (hC m m1).vec
      have : m.getD i 0 ∈ m := by rw [List.getD_eq_getElem?_getD, List.getElem?_eq_getElem (by rw [hmv.1]; exact hi)]; exact List.getElem_mem _
      exact (hmv.2 _ this).1
    by_cases h0 : m.getD i 0 = 0
    · exfalso
      have hmz := (hzer m).mpr ⟨m1, h0⟩
      cases hB : bst os (zer i C) with
      | none => have := bst_none _ hB; rw [this] at hmz; cases hmz
      | some b =>
        rw [hB] at hw
        rw [hz] at hB
        obtain ⟨b1, b2⟩ := bst_spec _ hB
        obtain ⟨b1, b0⟩ := (hzer b).mp b1
        have hcb := (worth_iff os i p c b (hl c c1) (hl b b1) hi b0 cp p9).mpr hw
        rw [ge_tr _ b m c (b2 m hmz) (m2 c c1)] at hcb
        cases hcb
    · omega
end K75
namespace K75
open PySem PySem.Spec PyProof.Rows L2 DL
theorem ordGe_ints : ∀ a b : List Int, ordL .ge (a.map D.int) (b.map D.int) = some (!lexI a b)
  | [], [] => by simp [ordL, lexI, Or4.rel]
  | [], y :: b => by simp [ordL, lexI, Or4.rel]
  | x :: a, [] => by simp [ordL, lexI, Or4.rel]
  | x :: a, y :: b => by
    rw [List.map_cons, List.map_cons]
    unfold ordL lexI
    rw [ordGe_ints a b, eqI]
    simp only [Option.bind_some, ordD, Or4.rel]
    by_cases h : x = y
    · simp [h]
    · by_cases h2 : x < y
      · have : ¬ y ≤ x := by omega
        simp [h, h2, this]
      · have : y ≤ x := by omega
        simp [h, h2, this]
theorem ge2 (a b : List Int) : gOrd .ge (.tup [.int a.sum, tI a]) (.tup [.int b.sum, tI b]) = some (.bl (!less2 a b)) := by
  have h0 : ordL .ge [] [] = some true := by simp [ordL, Or4.rel]
  have h3 : ordL .ge [tI a] [tI b] = some (!lexI a b) := by
    unfold ordL
    rw [h0, eqD_tI]
    by_cases h : a = b
    · simp [h, lexI_self]
    · have : ordD .ge (tI a) (tI b) = some (!lexI a b) := by
        show ordD .ge (.tup (a.map D.int)) (.tup (b.map D.int)) = _
        unfold ordD; exact ordGe_ints a b
      simp [h, this]
  have h2 : ordL .ge [.int a.sum, tI a] [.int b.sum, tI b] = some (!less2 a b) := by
    unfold ordL less2
    rw [h3, eqI]
    by_cases h : a.sum = b.sum
    · simp [h]
    · by_cases h4 : a.sum < b.sum
      · have : ¬ b.sum ≤ a.sum := by omega
        simp [h, ordD, Or4.rel, h4, this]
      · have : b.sum ≤ a.sum := by omega
        simp [h, ordD, Or4.rel, h4, this]
  have hp : ∀ l : List Int, DL.plain 20 (.tup [.int l.sum, tI l]) = true := fun l => by
    have h := plain_sI (n := 18) true l
    show plainL 19 [.int l.sum, sI true l] = true
    simp [plainL, DL.plain, h]
  unfold gOrd
  rw [hp, hp]
  have : ordD .ge (.tup [.int a.sum, tI a]) (.tup [.int b.sum, tI b]) = some (!less2 a b) := by unfold ordD; exact h2
  rw [this]; rfl
theorem worth_eq (os : List Of) (i : Nat) (c : List Int) (B : Option (List Int)) (hz : os.length ≤ 1000) (hi : i < os.length) (hc : CsOk os.length c) (c1 : 0 < c.getD i 0) :
    F_worth_price [.lst (os.map (ofX true)), tI c, .int (i : Int), optD os true true B] = some (.int (worth os i B c)) := by
  cases B with
  | none =>
    have h0 : optD os true true none = .non := rfl
    rw [h0]
    refine fn_rt (ρ := [some (.val (.lst (os.map (ofX true)))), some (.val (tI c)), some (.val (.int (i : Int))), some (.val .non), none, none]) rfl ?_
    unfold S_worth_price
    simp [worth]
  | some b =>
    have hcl := hc.vec.1
    have h1 : F_hire_price [.lst (os.map (ofX true)), tI c] = some (.int (prc os c)) := hire_price_eq os true true c hz hc
    have g1 : gIx (.lst (os.map (ofX true))) (.int (i : Nat)) = some (ofX true (os.getD i of0)) := gIx_lst hi
    have g2 : gIx (tI c) (.int (i : Nat)) = some (.int (c.getD i 0)) := gIx_tup (by omega)
    have g0 := ix0_ofX true (os.getD i of0)
    have hx : c.getD i 0 ≤ 9 := by
      have : c.getD i 0 ∈ c := by rw [List.getD_eq_getElem?_getD, List.getElem?_eq_getElem (by omega)]; exact List.getElem_mem _
      exact (hc.vec.2 _ this).2
    have b0 : gIx (optD os true true (some b)) (.int 0) = some (.int (prc os b)) := rfl
    have b1 : gIx (optD os true true (some b)) (.int 1) = some (.int b.sum) := rfl
    have b2 : gIx (optD os true true (some b)) (.int 2) = some (tI b) := rfl
    have hn : isNon (optD os true true (some b)) = false := rfl
    have hs := sum_tI c
    have hge := ge2 c b
    have ho : oth os i c = prc os c - (os.getD i of0).p * c.getD i 0 := rfl
    have hw : worth os i (some b) c = wth (prc os b) (oth os i c) (c.getD i 0) (less2 c b) := rfl
    rw [hw, ho]
    generalize optD os true true (some b) = bb at b0 b1 b2 hn
    generalize os.getD i of0 = o at g1 g0
    generalize c.getD i 0 = k at g2 c1 hx
    have m1 : CMul o.p k := cmul_r (by omega)
    have hd : CDiv (prc os b - (prc os c - o.p * k)) k := cdiv_of c1 (by omega)
    have m2 : CMul ((prc os b - (prc os c - o.p * k)) / k) k := cmul_r (by omega)
    refine fn_rt (ρ := [some (.val (.lst (os.map (ofX true)))), some (.val (tI c)), some (.val (.int (i : Int))), some (.val bb), none, none]) rfl ?_
    unfold S_worth_price
    unfold wth
    generalize less2 c b = l at hge
    generalize hP : prc os b = P at b0 hd m2
    generalize hQ : prc os c = Q at h1 hd m2
    generalize hpk : o.p * k = pk at hd m2
    simp only [ev_seq, ev_xif, ev_bool, ev_bin, ev_pname, ev_name, ev_k, List.getElem?_cons_succ, List.getElem?_cons_zero, Option.bind_some, ev_isN, hn, ev_pass, ev_set, ev_call, ev_cons, ev_nil, List.append_nil, List.length_cons, List.length_nil, if_true, h1, g1, g0, g2, ev_mul, m1, hpk, ev_sub, List.set_cons_succ, List.set_cons_zero, b0, ev_div, hd, m2, ev_tand, ev_add, gEq_int, ev_cb, hs, ev_tup, Option.map_some, b1, b2, hge, ev_ret, ev_min2, ev_aug]
    generalize (P - (Q - pk)) / k = q
    by_cases e : Q - pk + q * k = P
    · have eb : (Q - pk + q * k == P) = true := beq_iff_eq.mpr e
      cases l <;> simp [eb, e, cap]
    · have eb : (Q - pk + q * k == P) = false := beq_eq_false_iff_ne.mpr e
      simp [eb, e, cap]
end K75
namespace K75
open PySem PySem.Spec PyProof.Rows L2 DL
def bnds (os : List Of) (i : Nat) (C : List (List Int)) : List Int := (pst i C).map (worth os i (bst os (zer i C)))
def bnd (os : List Of) (i : Nat) (C : List (List Int)) : Option Int := if bnds os i C = [] ∨ maxI (bnds os i C) < 0 then none else some (maxI (bnds os i C))
def oI (o : Option Int) : D := match o with | some n => .int n | none => .non
theorem price_bound_eq (L : Nat) (d pk : Int) (os : List Of) (h : Case L d pk os) (i : Nat) (hi : i < os.length) : F_price_bound [.int (L : Int), .int d, .int pk, .lst (os.map (ofX true)), .int (i : Int)] = some (oI (bnd os i (fnd L d pk os))) := by
  have n3 := h.n3
  have hE := enough_counts_eq L d pk os h true
  have hCs : ∀ c ∈ fnd L d pk os, CsOk os.length c := fun c hc => fnd_cs h hc
  have hlen := fnd_len h
  generalize fnd L d pk os = C at hE hCs hlen
  have hzl : (zer i C).length ≤ C.length := List.length_filter_le ..
  have hpl : (pst i C).length ≤ C.length := List.length_filter_le ..
  have hF := first_hire_eq os true (zer i C) (by omega) (by omega) fun c hc => hCs c (List.mem_filter.mp hc).1
  have hL1 : L_price_bound_1 [some (.val (.int (L : Int))), some (.val (.int d)), some (.val (.int pk)), some (.val (.lst (os.map (ofX true)))), some (.val (.int (i : Int))), some (.val (.lst (C.map tI))), none, none, none] = some (.lst ((zer i C).map tI)) := by
    have Q := lcL_map (g := gtName 8) (t := tBool (eBin gEq (eBin gIx (pName 8) (pName 4)) (eK (.int 0)))) (fe := eName 8) (ρ := [some (.val (.int (L : Int))), some (.val (.int d)), some (.val (.int pk)), some (.val (.lst (os.map (ofX true)))), some (.val (.int (i : Int))), some (.val (.lst (C.map tI))), none, none, none]) tI (fun c => c.getD i 0 == 0) tI C fun c hc => by
      have hcl := (hCs c hc).vec.1
      have g2 : gIx (tI c) (.int (i : Nat)) = some (.int (c.getD i 0)) := gIx_tup (by omega)
      generalize c.getD i 0 = k at g2
      refine ⟨_, rfl, ?_, fun _ => ?_⟩
      · simp only [ev_bool, ev_bin, ev_pname, ev_k, List.set_cons_succ, List.set_cons_zero, List.getElem?_cons_succ, List.getElem?_cons_zero, Option.bind_some, g2, gEq_int]
      · simp only [ev_name, List.set_cons_succ, List.set_cons_zero, List.getElem?_cons_succ, List.getElem?_cons_zero]
    have e : C.filter (fun c => c.getD i 0 == 0) = zer i C := rfl
    rw [e] at Q
    have hz2 : (zer i C).length ≤ sizeLine := short_of (by omega)
    unfold L_price_bound_1
    simp only [ev_lc, ev_iseq, ev_name, List.getElem?_cons_succ, List.getElem?_cons_zero, Option.bind_some, wipeD, List.set_cons_succ, List.set_cons_zero, Q, List.length_map, hz2, if_true]
  have hbd : bstD os true true (zer i C) = optD os true true (bst os (zer i C)) := rfl
  rw [hbd] at hF
  have hL2 : L_price_bound_2 [some (.val (.int (L : Int))), some (.val (.int d)), some (.val (.int pk)), some (.val (.lst (os.map (ofX true)))), some (.val (.int (i : Int))), some (.val (.lst (C.map tI))), some (.val (optD os true true (bst os (zer i C)))), none, none] = some (lI (bnds os i C)) := by
    have Q := lcL_map (g := gtName 8) (t := tBool (eBin gGt (eBin gIx (pName 8) (pName 4)) (eK (.int 0)))) (fe := eCall F_worth_price [] 4 (aCons (eName 3) (aCons (eName 8) (aCons (eName 4) (aCons (eName 6) aNil))))) (ρ := [some (.val (.int (L : Int))), some (.val (.int d)), some (.val (.int pk)), some (.val (.lst (os.map (ofX true)))), some (.val (.int (i : Int))), some (.val (.lst (C.map tI))), some (.val (optD os true true (bst os (zer i C)))), none, none]) tI (fun c => decide (0 < c.getD i 0)) (fun c => D.int (worth os i (bst os (zer i C)) c)) C fun c hc => by
      have hcl := (hCs c hc).vec.1
      have g2 : gIx (tI c) (.int (i : Nat)) = some (.int (c.getD i 0)) := gIx_tup (by omega)
      refine ⟨_, rfl, ?_, fun q => ?_⟩
      · generalize c.getD i 0 = k at g2
        simp only [ev_bool, ev_bin, ev_pname, ev_k, List.set_cons_succ, List.set_cons_zero, List.getElem?_cons_succ, List.getElem?_cons_zero, Option.bind_some, g2, ev_gt]
      · have hw := worth_eq os i c (bst os (zer i C)) (by omega) hi (hCs c hc) (of_decide_eq_true q)
        simp only [ev_call, ev_cons, ev_nil, ev_name, List.set_cons_succ, List.set_cons_zero, List.getElem?_cons_succ, List.getElem?_cons_zero, Option.bind_some, List.append_nil, List.length_cons, List.length_nil, if_true, hw]
    have e : (C.filter fun c => decide (0 < c.getD i 0)).map (fun c => D.int (worth os i (bst os (zer i C)) c)) = (bnds os i C).map D.int := by unfold bnds pst; rw [List.map_map]; rfl
    rw [e] at Q
    have hz2 : (bnds os i C).length ≤ sizeLine := short_of (by unfold bnds; rw [List.length_map]; omega)
    unfold L_price_bound_2
    simp only [ev_lc, ev_iseq, ev_name, List.getElem?_cons_succ, List.getElem?_cons_zero, Option.bind_some, wipeD, List.set_cons_succ, List.set_cons_zero, Q, List.length_map, hz2, if_true]
  have hob : isObjD (lI (bnds os i C)) = false := rfl
  have hgl : gLen [lI (bnds os i C)] = some (.int ((bnds os i C).length : Nat)) := by show some (D.int (((bnds os i C).map D.int).length : Nat)) = _; rw [List.length_map]
  refine fn_rt (ρ := [some (.val (.int (L : Int))), some (.val (.int d)), some (.val (.int pk)), some (.val (.lst (os.map (ofX true)))), some (.val (.int (i : Int))), none, none, none, none]) rfl ?_
  unfold S_price_bound bnd
  generalize bnds os i C = l at hL2 hob hgl
  generalize optD os true true (bst os (zer i C)) = bb at hF hL2
  by_cases e : l = []
  · subst e
    rw [if_pos (.inl rfl)]
    have hl0 : (([] : List Int).length : Int) = 0 := rfl
    simp only [ev_seq, ev_set, ev_call, ev_cons, ev_nil, ev_name, List.getElem?_cons_succ, List.getElem?_cons_zero, Option.bind_some, List.append_nil, List.length_cons, List.length_nil, if_true, hE, hL1, hF, List.set_cons_succ, List.set_cons_zero, ev_new, hL2, hob, or_true, ev_xif, ev_tor, ev_bool, ev_bin, ev_cb, ev_pname, hgl, ev_k, gEq_int, ev_ret]
    rfl
  · have hl0 : ((l.length : Int) == 0) = false := beq_eq_false_iff_ne.mpr (by have := List.length_pos_iff.mpr e; omega)
    have hmx : gMaxL [lI l] = some (.int (maxI l)) := by
      show (asInts (l.map D.int)).bind _ = _
      rw [asInts_map, Option.bind_some, if_neg e]
    simp only [ev_seq, ev_set, ev_call, ev_cons, ev_nil, ev_name, List.getElem?_cons_succ, List.getElem?_cons_zero, Option.bind_some, List.append_nil, List.length_cons, List.length_nil, if_true, hE, hL1, hF, List.set_cons_succ, List.set_cons_zero, ev_new, hL2, hob, or_true, ev_xif, ev_tor, ev_bool, ev_bin, ev_cb, ev_pname, hgl, ev_k, gEq_int, hl0, ev_ret, hmx, ev_lt, ev_pass]
    by_cases c : maxI l < 0
    · simp [c, oI]
    · simp [c, oI, e, hmx]
end K75
namespace K75
open PySem PySem.Spec PyProof.Rows L2 DL
def rw1 (o : Of) : List D := [.int o.p, .int o.m, .int o.a, .int o.b]
theorem asRows_of : ∀ os : List Of, asRows (os.map (ofX false)) = some (os.map rw1)
  | [] => rfl
  | o :: os => by
    rw [List.map_cons, List.map_cons]
    show (asRows (os.map (ofX false))).map (rw1 o :: ·) = _
    rw [asRows_of os]; rfl
theorem rows_set (os : List Of) (i : Nat) (p : Int) : ((os.map rw1).set i ((rw1 (os.getD i of0)).set 0 (.int p))).map D.lst = (setP os i p).map (ofX false) := by
  unfold setP
  have e : (rw1 (os.getD i of0)).set 0 (.int p) = rw1 { os.getD i of0 with p := p } := rfl
  rw [e, ← List.map_set, List.map_map]
  rfl
theorem rows_eq (os : List Of) (i : Nat) (p : Int) (hi : i < os.length) (hz : os.length ≤ 1000) (kt si so sx sp : Nat) (ρ : DEnv) (h1 : kt < ρ.length) (h2 : so < ρ.length) (n1 : kt ≠ sx) (n2 : kt ≠ sp)
    (e0 : ρ[si]? = some (some (.val (.lst (os.map (ofX false)))))) (ex : ρ[sx]? = some (some (.val (.int (i : Int))))) (ep : ρ[sp]? = some (some (.val (.int p)))) :
    rowsD kt (iSeq (eName si)) [so] (gtName so) (eCB gList (aCons (pName so) aNil)) (pName sx) (eK (.int 0)) (eName sp) ρ = some ((setP os i p).map (ofX false)) := by
  have C := lcL_all (g := gtName so) (fe := eCB gList (aCons (pName so) aNil)) (ρ := wipeD ρ [so]) (ofX false) (ofX false) os fun o _ => by
    have hk2 : so < (wipeD ρ [so]).length := by rw [wipeD_length]; exact h2
    have g : gList [ofX false o] = some (ofX false o) := rfl
    refine ⟨_, rfl, ?_⟩
    simp only [ev_cb, ev_cons, ev_nil, ev_pname, List.getElem?_set_self hk2, Option.bind_some, g]
  have hz2 : os.length ≤ sizeLine := short_of (by omega)
  have f1 : eName sp (ρ.set kt none) = some (.int p) := by simp only [ev_name, List.getElem?_set_ne n2, ep]
  have f2 : pName sx (ρ.set kt none) = some (.int (i : Int)) := by simp only [ev_pname, List.getElem?_set_ne n1, ex]
  have f3 : iSeq (eName si) ρ = some (os.map (ofX false)) := by simp only [ev_iseq, ev_name, e0]
  have x1 : ixN (os.map rw1).length (i : Int) = some i := by unfold ixN; simp [hi]
  have x2 : (os.map rw1)[i]? = some (rw1 (os.getD i of0)) := by rw [List.getElem?_map, List.getD_eq_getElem?_getD, List.getElem?_eq_getElem hi]; rfl
  have x3 : ixN (rw1 (os.getD i of0)).length (0 : Int) = some 0 := rfl
  unfold rowsD
  rw [if_pos h1, f3, Option.bind_some, C, Option.bind_some, List.length_map, if_pos hz2, asRows_of, Option.bind_some, f1, Option.bind_some, f2]
  show ((ixN (os.map rw1).length (i : Int)).bind _) = _
  rw [x1, Option.bind_some, x2, Option.bind_some]
  show (ixN (rw1 (os.getD i of0)).length (0 : Int)).map _ = _
  rw [x3, Option.map_some, rows_set]
/-! ### the bound -/
def win (os : List Of) (i : Nat) (C : List (List Int)) (p : Int) : Bool := match bst (setP os i p) C with
  | some m => decide (0 < m.getD i 0)
  | none => false
def bM (os : List Of) (i : Nat) (C : List (List Int)) : Int := match bnd os i C with | some m => m | none => -1
theorem worth_le (os : List Of) (i : Nat) (B : Option (List Int)) (c : List Int) : worth os i B c ≤ 999 := by
  cases B with
  | none => exact Int.le_refl _
  | some b => show cap _ ≤ 999; unfold cap; split <;> omega
theorem bnd_spec (os : List Of) (i : Nat) (C : List (List Int)) : (∀ m, bnd os i C = some m → 0 ≤ m ∧ m ≤ 999) ∧ ∀ p, 0 ≤ p → ((∃ c ∈ pst i C, p ≤ worth os i (bst os (zer i C)) c) ↔ p ≤ bM os i C) := by
  have hmem : ∀ x, x ∈ bnds os i C ↔ ∃ c ∈ pst i C, worth os i (bst os (zer i C)) c = x := fun x => List.mem_map
  have h9 : ∀ x ∈ bnds os i C, x ≤ 999 := fun x hx => by
    obtain ⟨c, _, e⟩ := (hmem x).mp hx
    rw [← e]; exact worth_le ..
  unfold bM bnd
  by_cases e : bnds os i C = [] ∨ maxI (bnds os i C) < 0
  · rw [if_pos e]
    refine ⟨fun m h => (by cases h), fun p hp => ⟨?_, fun h => (by exfalso; have h : p ≤ -1 := h; omega)⟩⟩
    rintro ⟨c, hc, hw⟩
    have hx := (hmem _).mpr ⟨c, hc, rfl⟩
    exfalso
    rcases e with e | e
    · rw [e] at hx; cases hx
    · have hne : bnds os i C ≠ [] := fun q => by rw [q] at hx; cases hx
      have := (maxI_mem hne).2 _ hx
      omega
  · rw [if_neg e]
    have hne : bnds os i C ≠ [] := fun q => e (.inl q)
    have h0 : 0 ≤ maxI (bnds os i C) := by
      have : ¬ maxI (bnds os i C) < 0 := fun q => e (.inr q)
      omega
    obtain ⟨m1, m2⟩ := maxI_mem hne
    refine ⟨fun m h => (by cases h; exact ⟨h0, h9 _ m1⟩), fun p hp => ⟨?_, fun h => ?_⟩⟩
    · rintro ⟨c, hc, hw⟩
      have := m2 _ ((hmem _).mpr ⟨c, hc, rfl⟩)
      show p ≤ maxI _
      omega
    · obtain ⟨c, hc, hw⟩ := (hmem _).mp m1
      exact ⟨c, hc, by rw [hw]; exact h⟩
theorem win_M (os : List Of) (i : Nat) (p : Int) (C : List (List Int)) (hC : ∀ c ∈ C, CsOk os.length c) (hi : i < os.length) (p0 : 0 ≤ p) (p9 : p ≤ 999) : win os i C p = decide (p ≤ bM os i C) := by
  have hb := (bnd_spec os i C).2 p p0
  unfold win
  cases hm : bst (setP os i p) C with
  | none =>
    have := bst_none _ hm
    subst this
    refine (decide_eq_false fun q => ?_).symm
    obtain ⟨c, hc, _⟩ := hb.mpr q
    cases hc
  | some m =>
    have hw := (win_iff os i p C hC hi p9 hm).trans hb
    by_cases q : p ≤ bM os i C
    · rw [decide_eq_true q]; exact decide_eq_true (hw.mpr q)
    · rw [decide_eq_false q]; exact decide_eq_false fun z => q (hw.mp z)
end K75
namespace K75
open PySem PySem.Spec PyProof.Rows L2 DL
/-- one turn of the search -/
def bsStep (M : Int) (s : Int × Int) : Int × Int := if 1 < s.2 - s.1 then (if (s.1 + s.2) / 2 ≤ M then ((s.1 + s.2) / 2, s.2) else (s.1, (s.1 + s.2) / 2)) else s
structure BsOk (M : Int) (n : Nat) (s : Int × Int) : Prop where
  l0 : -1 ≤ s.1
  lM : s.1 ≤ M
  Mh : M < s.2
  h9 : s.2 ≤ 1000
  near : s.2 - s.1 ≤ ((2 ^ (10 - n) : Nat) : Int)
theorem bs_near (n : Nat) (k x : Int) (h : k ≤ ((2 ^ (10 - n) : Nat) : Int)) (hk : 1 < k) (hx : 2 * x ≤ k + 1) : x ≤ ((2 ^ (10 - (n + 1)) : Nat) : Int) := by
  by_cases q : n < 10
  · have e : 10 - n = (10 - (n + 1)) + 1 := by omega
    rw [e, Nat.pow_succ] at h
    generalize 2 ^ (10 - (n + 1)) = z at h ⊢
    omega
  · have e : 10 - n = 0 := by omega
    rw [e] at h
    exfalso
    have : (((2 ^ 0 : Nat)) : Int) = 1 := rfl
    omega
theorem pow_mono (n : Nat) (x : Int) (h : x ≤ 1) : x ≤ ((2 ^ n : Nat) : Int) := by
  have : 0 < 2 ^ n := Nat.pow_pos (by decide)
  omega
theorem bsOk_step {M : Int} {n : Nat} {s : Int × Int} (h : BsOk M n s) : BsOk M (n + 1) (bsStep M s) := by
  obtain ⟨l, hh⟩ := s
  obtain ⟨a, b, c, e, f⟩ := h
  dsimp only at a b c e f
  unfold bsStep
  dsimp only
  by_cases q : 1 < hh - l
  · rw [if_pos q]
    by_cases r : (l + hh) / 2 ≤ M
    · rw [if_pos r]
      refine ⟨?_, r, c, e, bs_near n (hh - l) _ f q ?_⟩ <;> dsimp only <;> omega
    · rw [if_neg r]
      refine ⟨a, b, ?_, ?_, bs_near n (hh - l) _ f q ?_⟩ <;> dsimp only <;> omega
  · rw [if_neg q]
    exact ⟨a, b, c, e, pow_mono _ _ (by dsimp only; omega)⟩
def sl (n : Int) : Option Sl := some (.val (.int n))
theorem ev_rows {k : Nat} {fi : FI} {vs : List Nat} {g : FG} {fe fr fc fv : FE} {ρ : DEnv} {l : List D} (h : rowsD k fi vs g fe fr fc fv ρ = some l) : xRows k fi vs g fe fr fc fv ρ = .nx (ρ.set k (some (.own (.lst l)))) := by
  unfold xRows; rw [h]
theorem lb_turn (os : List Of) (i : Nat) (C : List (List Int)) (hz : os.length ≤ 1000) (hC : ∀ c ∈ C, CsOk os.length c) (hi : i < os.length) (n : Nat) (l h : Int) (ok : BsOk (bM os i C) n (l, h)) (t : Int) (a b c : Option Sl) :
    ∃ a' b' c', B__law_bound_1 [some (.val (.lst (os.map (ofX false)))), some (.val (.lst (C.map lI))), some (.val (.int (i : Int))), some (.val (.int l)), some (.val (.int h)), some (.val (.int t)), a, b, c, none] =
      .nx [some (.val (.lst (os.map (ofX false)))), some (.val (.lst (C.map lI))), some (.val (.int (i : Int))), some (.val (.int (bsStep (bM os i C) (l, h)).1)), some (.val (.int (bsStep (bM os i C) (l, h)).2)), some (.val (.int t)), a', b', c', none] := by
  obtain ⟨o1, o2, o3, o4, _⟩ := ok
  dsimp only at o1 o2 o3 o4
  have hd : CDiv (l + h) 2 := cdiv_of (by decide) (by decide)
  unfold bsStep
  dsimp only
  by_cases q : 1 < h - l
  · rw [if_pos q]
    have p0 : 0 ≤ (l + h) / 2 := by omega
    have p9 : (l + h) / 2 ≤ 999 := by omega
    have hw := win_M os i ((l + h) / 2) C hC hi p0 p9
    generalize hp : (l + h) / 2 = p at p0 p9 hw ⊢
    have hq : decide (1 < h - l) = true := decide_eq_true q
    have hR := rows_eq os i p hi hz 7 0 9 2 6 [some (.val (.lst (os.map (ofX false)))), some (.val (.lst (C.map lI))), some (.val (.int (i : Int))), some (.val (.int l)), some (.val (.int h)), some (.val (.int t)), some (.val (.int p)), b, c, none] (by simp) (by simp) (by decide) (by decide) rfl rfl rfl
    have hX := ev_rows hR
    have hB := law_best_eq (setP os i p) C (by rw [setP_len]; exact hz) (by rw [setP_len]; exact hC)
    have start : ∀ k : FS, (xSeq (xSet 6 (eBin gDiv (eBin gAdd (pName 3) (pName 4)) (eK (.int 2)))) (xIf (tBool (eBin gGt (eBin DL.gSub (pName 4) (pName 3)) (eK (.int 1)))) (xSeq (xRows 7 (iSeq (eName 0)) [9] (gtName 9) (eCB gList (aCons (pName 9) aNil)) (pName 2) (eK (.int 0)) (eName 6)) k) xPass))
        [some (.val (.lst (os.map (ofX false)))), some (.val (.lst (C.map lI))), some (.val (.int (i : Int))), some (.val (.int l)), some (.val (.int h)), some (.val (.int t)), a, b, c, none] =
        k [some (.val (.lst (os.map (ofX false)))), some (.val (.lst (C.map lI))), some (.val (.int (i : Int))), some (.val (.int l)), some (.val (.int h)), some (.val (.int t)), some (.val (.int p)), some (.own (.lst ((setP os i p).map (ofX false)))), c, none] := fun k => by
      simp only [ev_seq, ev_set, ev_bin, ev_pname, ev_k, List.getElem?_cons_succ, List.getElem?_cons_zero, Option.bind_some, ev_add, ev_div, hd, if_true, hp, List.set_cons_succ, List.set_cons_zero, ev_xif, ev_bool, ev_sub, ev_gt, hq]
      rw [hX]
      rfl
    refine ⟨some (.val (.int p)), some (.val (.lst ((setP os i p).map (ofX false)))), some (.val (bstD (setP os i p) false false C)), ?_⟩
    unfold B__law_bound_1
    rw [start]
    unfold win at hw
    unfold bstD at hB ⊢
    cases hm : bst (setP os i p) C with
    | none =>
      rw [hm] at hw hB
      have hn : ¬ p ≤ bM os i C := of_decide_eq_false hw.symm
      rw [if_neg hn]
      simp [hB]
    | some m =>
      rw [hm] at hw hB
      obtain ⟨m1, _⟩ := bst_spec _ hm
      have hcl := (hC m m1).vec.1
      have g0 : isNon (oD (setP os i p) false false m) = false := rfl
      have g1 : gIx (oD (setP os i p) false false m) (.int 2) = some (lI m) := rfl
      have g2 : gIx (lI m) (.int (i : Nat)) = some (.int (m.getD i 0)) := gIx_lst (by omega)
      dsimp only at hw hB ⊢
      generalize oD (setP os i p) false false m = bb at hB g0 g1 ⊢
      generalize m.getD i 0 = k at hw g2
      by_cases hn : p ≤ bM os i C
      · rw [decide_eq_true hn] at hw
        rw [if_pos hn]
        have hk := of_decide_eq_true hw
        simp [hB, g0, g1, g2, hk]
      · rw [decide_eq_false hn] at hw
        rw [if_neg hn]
        have hk := of_decide_eq_false hw
        simp [hB, g0, g1, g2, hk]
  · rw [if_neg q]
    have hq : decide (1 < h - l) = false := decide_eq_false q
    refine ⟨some (.val (.int ((l + h) / 2))), b, c, ?_⟩
    unfold B__law_bound_1
    simp [hd, hq]
theorem law_bound_eq (os : List Of) (i : Nat) (C : List (List Int)) (hz : os.length ≤ 1000) (hC : ∀ c ∈ C, CsOk os.length c) (hi : i < os.length) : F__law_bound [.lst (os.map (ofX false)), .lst (C.map lI), .int (i : Int)] = some (oI (bnd os i C)) := by
  obtain ⟨b1, b2⟩ := bnd_spec os i C
  have hM : -1 ≤ bM os i C ∧ bM os i C ≤ 999 := by
    unfold bM
    cases e : bnd os i C with
    | none => exact ⟨Int.le_refl _, by decide⟩
    | some m => have := b1 m e; exact ⟨by show -1 ≤ m; omega, this.2⟩
  have F := forL_ix (g := gtName 5) (fb := B__law_bound_1) (fun k : Nat => D.int (k : Int)) (fun s _ => bsStep (bM os i C) s)
    (fun n s ρ => (∃ t a b c, ρ = [some (.val (.lst (os.map (ofX false)))), some (.val (.lst (C.map lI))), some (.val (.int (i : Int))), some (.val (.int s.1)), some (.val (.int s.2)), t, a, b, c, none]) ∧ BsOk (bM os i C) n s) (List.range 11) 0 (-1, 1000) _ ⟨⟨none, none, none, none, rfl⟩, ⟨by decide, hM.1, by dsimp only; omega, by decide, by decide⟩⟩ ?_
  · obtain ⟨ρ', e1, ⟨t, a, b, c, rfl⟩, ok⟩ := F
    generalize (List.range 11).foldl (fun s _ => bsStep (bM os i C) s) (-1, 1000) = s at e1 ok
    obtain ⟨l0, lM, Mh, h9, near⟩ := ok
    have hn : ((2 ^ (10 - (0 + (List.range 11).length)) : Nat) : Int) = 1 := rfl
    rw [hn] at near
    have hs : s.1 = bM os i C := by omega
    rw [hs] at e1
    have hsm : smallI 11 = true := rfl
    refine fn_rt (ρ := [some (.val (.lst (os.map (ofX false)))), some (.val (.lst (C.map lI))), some (.val (.int (i : Int))), none, none, none, none, none, none, none]) rfl ?_
    unfold S__law_bound
    simp only [ev_seq, ev_set, ev_un, ev_k, ev_neg, Option.bind_some, List.set_cons_succ, List.set_cons_zero, ev_for, ev_irange, ev_cons, ev_nil, hsm, if_true]
    have hr : rangeD 0 1 (11 : Int).toNat = (List.range 11).map fun k : Nat => D.int (k : Int) := rangeD_nat
    rw [hr, e1]
    unfold bM
    cases e : bnd os i C with
    | none => simp [oI]
    | some m =>
      have := (b1 m e).1
      have hd : decide (m < 0) = false := decide_eq_false (by omega)
      simp [oI, hd, this]
  · rintro k x hx s ρ ⟨⟨t, a, b, c, rfl⟩, ok⟩
    obtain ⟨a', b', c', e⟩ := lb_turn os i C hz hC hi _ s.1 s.2 ok (x : Int) a b c
    exact ⟨_, _, rfl, e, ⟨_, a', b', c', rfl⟩, bsOk_step ok⟩
end K75
namespace K75
open PySem PySem.Spec PyProof.Rows L2 DL
theorem whole_eq (n : Int) : F__law_whole [.int n] = some (.bl true) := by
  refine fn_rt (ρ := [some (.val (.int n))]) rfl ?_
  have h1 : gIsi [.int n, .ty "int"] = some (.bl true) := rfl
  have h2 : gIsi [.int n, .ty "bool"] = some (.bl false) := rfl
  unfold S__law_whole
  simp [h1, h2]
theorem gNe_bl (a : Bool) : gNe (.bl a) (.bl a) = some (.bl false) := by
  cases a <;> (unfold gNe; simp [DL.plain, eqD, toPy, PyData.eqv])
theorem br_turn (L : Nat) (d pk : Int) (os : List Of) (h : Case L d pk os) (i : Nat) (hi : i < os.length) (F : D) (m : Int) (hm : bnd os i (fnd L d pk os) = some m) (p : Int) (p0 : 0 ≤ p) (a b : Option Sl) :
    ∃ a' b', B__law_bound_right_2 [some (.val (.int (L : Int))), some (.val (.int d)), some (.val (.int pk)), some (.val (.lst (os.map (ofX false)))), some (.val F), some (.val (.int (i : Int))), some (.val (.int m)), some (.val (.int m)), some (.val (.int p)), a, b, none] =
      .nx [some (.val (.int (L : Int))), some (.val (.int d)), some (.val (.int pk)), some (.val (.lst (os.map (ofX false)))), some (.val F), some (.val (.int (i : Int))), some (.val (.int m)), some (.val (.int m)), some (.val (.int p)), a', b', none] := by
  have hC : ∀ c ∈ fnd L d pk os, CsOk os.length c := fun c hc => fnd_cs h hc
  by_cases q : p ≤ 999
  · have hq : decide (p ≤ 999) = true := decide_eq_true q
    have hz := h.n3
    have hR := rows_eq os i p hi (by omega) 9 3 11 5 8 [some (.val (.int (L : Int))), some (.val (.int d)), some (.val (.int pk)), some (.val (.lst (os.map (ofX false)))), some (.val F), some (.val (.int (i : Int))), some (.val (.int m)), some (.val (.int m)), some (.val (.int p)), a, b, none] (by simp) (by simp) (by decide) (by decide) rfl rfl rfl
    have hX := ev_rows hR
    have hB := cheapest_eq L d pk (setP os i p) (setP_case h i p) false
    unfold cheapD at hB
    rw [setP_fnd] at hB
    have hw := win_M os i p (fnd L d pk os) hC hi p0 q
    have hbm : bM os i (fnd L d pk os) = m := by unfold bM; rw [hm]
    rw [hbm] at hw
    unfold win at hw
    cases hb : bst (setP os i p) (fnd L d pk os) with
    | none =>
      exfalso
      have := bst_none _ hb
      rw [this] at hm
      unfold bnd at hm
      rw [if_pos (.inl rfl)] at hm
      cases hm
    | some c =>
      rw [hb] at hw hB
      dsimp only at hw hB
      obtain ⟨c1, _⟩ := bst_spec _ hb
      have hcl := (hC c c1).vec.1
      have g0 : isNon (tI c) = false := rfl
      have g2 : gIx (tI c) (.int (i : Nat)) = some (.int (c.getD i 0)) := gIx_tup (by omega)
      have hne := gNe_bl (decide (p ≤ m))
      refine ⟨some (.val (.lst ((setP os i p).map (ofX false)))), some (.val (tI c)), ?_⟩
      unfold B__law_bound_right_2
      generalize c.getD i 0 = k at hw g2
      simp only [ev_xif, ev_bool, ev_bin, ev_pname, ev_k, List.getElem?_cons_succ, List.getElem?_cons_zero, Option.bind_some, ev_le, hq, ev_seq]
      rw [hX]
      simp only [ev_frz, ev_frz0, ev_frzAt, List.set_cons_succ, List.set_cons_zero, List.getElem?_cons_succ, List.getElem?_cons_zero, ev_set, ev_call, ev_cons, ev_nil, ev_name, Option.bind_some, List.append_nil, List.length_cons, List.length_nil, if_true, hB, ev_xif, ev_tor, ev_bool, ev_bin, ev_pname, ev_k, ev_isN, g0, g2, ev_gt, ev_le, hw, hne, ev_pass]
      rfl
  · have hq : decide (p ≤ 999) = false := decide_eq_false q
    refine ⟨a, b, ?_⟩
    unfold B__law_bound_right_2
    simp [hq]
theorem bound_right_eq (L : Nat) (d pk : Int) (os : List Of) (h : Case L d pk os) (i : Nat) (hi : i < os.length) :
    F__law_bound_right [.int (L : Int), .int d, .int pk, .lst (os.map (ofX false)), .lst ((fnd L d pk os).map lI), .int (i : Int)] = some (.bl true) := by
  have hz := h.n3
  have hC : ∀ c ∈ fnd L d pk os, CsOk os.length c := fun c hc => fnd_cs h hc
  have hD := law_bound_eq os i (fnd L d pk os) (by omega) hC hi
  have hT := price_bound_eq L d pk os h i hi
  have hL1 : L__law_bound_right_1 [some (.val (.int (L : Int))), some (.val (.int d)), some (.val (.int pk)), some (.val (.lst (os.map (ofX false)))), some (.val (.lst ((fnd L d pk os).map lI))), some (.val (.int (i : Int))), some (.val (oI (bnd os i (fnd L d pk os)))), none, none, none, none, none] = some (.lst (os.map (ofX true))) := by
    have C := lcL_all (g := gtName 11) (fe := eCB gTuple (aCons (pName 11) aNil)) (ρ := [some (.val (.int (L : Int))), some (.val (.int d)), some (.val (.int pk)), some (.val (.lst (os.map (ofX false)))), some (.val (.lst ((fnd L d pk os).map lI))), some (.val (.int (i : Int))), some (.val (oI (bnd os i (fnd L d pk os)))), none, none, none, none, none]) (ofX false) (ofX true) os fun o _ => by
      have g : gTuple [ofX false o] = some (ofX true o) := rfl
      refine ⟨_, rfl, ?_⟩
      simp [g]
    have hz2 : os.length ≤ sizeLine := short_of (by omega)
    unfold L__law_bound_right_1
    simp only [ev_lc, ev_iseq, ev_name, List.getElem?_cons_succ, List.getElem?_cons_zero, Option.bind_some, wipeD, List.set_cons_succ, List.set_cons_zero, C, List.length_map, hz2, if_true]
  have start : ∀ k : FS, (xSeq (xSet 6 (eCall F__law_bound [] 3 (aCons (eName 3) (aCons (eName 4) (aCons (eName 5) aNil))))) (xSeq (xSet 7 (eCall F_price_bound [] 5 (aCons (eName 0) (aCons (eName 1) (aCons (eName 2) (aCons L__law_bound_right_1 (aCons (eName 5) aNil))))))) k)) [some (.val (.int (L : Int))), some (.val (.int d)), some (.val (.int pk)), some (.val (.lst (os.map (ofX false)))), some (.val (.lst ((fnd L d pk os).map lI))), some (.val (.int (i : Int))), none, none, none, none, none, none] =
      k [some (.val (.int (L : Int))), some (.val (.int d)), some (.val (.int pk)), some (.val (.lst (os.map (ofX false)))), some (.val (.lst ((fnd L d pk os).map lI))), some (.val (.int (i : Int))), some (.val (oI (bnd os i (fnd L d pk os)))), some (.val (oI (bnd os i (fnd L d pk os)))), none, none, none, none] := fun k => by
    simp only [ev_seq, ev_set, ev_call, ev_cons, ev_nil, ev_name, List.getElem?_cons_succ, List.getElem?_cons_zero, Option.bind_some, List.append_nil, List.length_cons, List.length_nil, if_true, hD, List.set_cons_succ, List.set_cons_zero, hL1, hT]
  refine fn_rt (ρ := [some (.val (.int (L : Int))), some (.val (.int d)), some (.val (.int pk)), some (.val (.lst (os.map (ofX false)))), some (.val (.lst ((fnd L d pk os).map lI))), some (.val (.int (i : Int))), none, none, none, none, none, none]) rfl ?_
  unfold S__law_bound_right
  rw [start]
  cases hb : bnd os i (fnd L d pk os) with
  | none => simp [oI]
  | some m =>
    obtain ⟨m0, m9⟩ := (bnd_spec os i (fnd L d pk os)).1 m hb
    have hwh := whole_eq m
    have hd : CDiv m 2 := cdiv_of (by decide) (by decide)
    have F := forL_fold (g := gtName 8) (fb := B__law_bound_right_2) D.int (fun (s : Unit) _ => s)
      (fun s ρ => ∃ t a b, ρ = [some (.val (.int (L : Int))), some (.val (.int d)), some (.val (.int pk)), some (.val (.lst (os.map (ofX false)))), some (.val (.lst ((fnd L d pk os).map lI))), some (.val (.int (i : Int))), some (.val (.int m)), some (.val (.int m)), t, a, b, none]) [m, m / 2, m + 1] () _ ⟨none, none, none, rfl⟩ ?_
    · obtain ⟨ρ', e1, t, a, b, rfl⟩ := F
      simp only [List.map_cons, List.map_nil] at e1
      simp [oI, hwh, hd]
      rw [e1]
    · rintro p hp s ρ ⟨t, a, b, rfl⟩
      have p0 : 0 ≤ p := by
        simp only [List.mem_cons, List.not_mem_nil, or_false] at hp
        omega
      obtain ⟨a', b', e⟩ := br_turn L d pk os h i hi (.lst ((fnd L d pk os).map lI)) m hb p p0 a b
      exact ⟨_, _, rfl, e, ⟨_, a', b', rfl⟩⟩
end K75
namespace K75
open PySem PySem.Spec PyProof.Rows L2 DL
structure DigOk (sizes : List Int) (n : Nat) (acc : List Int) : Prop where
  ln : acc.length = n
  dg : ∀ k, k < n → 0 ≤ acc.getD k 0 ∧ acc.getD k 0 < sizes.getD k 0
theorem DigOk.snoc {sizes : List Int} {n : Nat} {acc : List Int} {x : Int} (h : DigOk sizes n acc) (h0 : 0 ≤ x) (h1 : x < sizes.getD n 0) : DigOk sizes (n + 1) (acc ++ [x]) := by
  refine ⟨by rw [List.length_append, h.ln]; rfl, fun k hk => ?_⟩
  by_cases q : k < n
  · have e : (acc ++ [x]).getD k 0 = acc.getD k 0 := by rw [List.getD_eq_getElem?_getD, List.getD_eq_getElem?_getD, List.getElem?_append_left (by rw [h.ln]; exact q)]
    rw [e]; exact h.dg k q
  · have e : k = n := by omega
    subst e
    have e : (acc ++ [x]).getD k 0 = x := by rw [List.getD_eq_getElem?_getD, List.getElem?_append_right (by rw [h.ln]; exact Nat.le_refl _), h.ln, Nat.sub_self]; rfl
    rw [e]; exact ⟨h0, h1⟩
theorem cell_eq (ns : List Int) : ∃ c : Int, F__law_cell [lI ns, .int 0] = some (.int c) := by
  cases ns with
  | cons x ns =>
    refine ⟨x, fn_rt (ρ := [some (.val (lI (x :: ns))), some (.val (.int 0)), none, none]) rfl ?_⟩
    have hl : gLen [lI (x :: ns)] = some (.int ((x :: ns).length : Nat)) := by show some (D.int (((x :: ns).map D.int).length : Nat)) = _; rw [List.length_map]
    have hd : decide ((0 : Int) < ((x :: ns).length : Nat)) = true := decide_eq_true (by rw [List.length_cons]; omega)
    have hg : gIx (lI (x :: ns)) (.int 0) = some (.int x) := gIx_lst (f := D.int) (xs := x :: ns) (k := 0) (d := 0) (by simp)
    unfold S__law_cell
    simp only [ev_seq, ev_xif, ev_bool, ev_bin, ev_pname, List.getElem?_cons_succ, List.getElem?_cons_zero, Option.bind_some, ev_cb, ev_cons, ev_nil, hl, ev_lt, hd, ev_ret, hg]
  | nil =>
    refine ⟨24 * 3 * 69621 % 2147483647, fn_rt (ρ := [some (.val (lI [])), some (.val (.int 0)), none, none]) rfl ?_⟩
    · have hl : gLen [lI []] = some (.int 0) := rfl
      have m1 : CMul 24 3 := cmul_l (by decide)
      have m2 : CMul (24 * 3) 69621 := cmul_l (by decide)
      have hi : iSeq (eName 0) [some (.val (lI [])), some (.val (.int 0)), some (.val (.int 17)), none] = some [] := rfl
      unfold S__law_cell
      simp only [ev_seq, ev_xif, ev_bool, ev_bin, ev_pname, ev_k, List.getElem?_cons_succ, List.getElem?_cons_zero, Option.bind_some, ev_cb, ev_cons, ev_nil, hl, ev_lt, Int.lt_irrefl, decide_false, ev_pass, ev_set, List.set_cons_succ, List.set_cons_zero, ev_for, hi, ev_ret, ev_add, ev_mul, forL]
      have a1 : (17 : Int) + 7 = 24 := rfl
      have a2 : (0 : Int) + 3 = 3 := rfl
      rw [a1, a2]
      simp only [m1, m2, ev_mul, if_true, Option.bind_some, ev_int, ev_mod, show (0 : Int) < 2147483647 from by decide]
def SizesOk (sizes : List Int) : Prop := sizes.length ≤ 1000 ∧ ∀ s ∈ sizes, 0 < s ∧ s < 1073741824
theorem digits_eq (c : Int) (sizes : List Int) (hs : SizesOk sizes) : ∃ ds, F__law_digits [.int c, lI sizes] = some (lI ds) ∧ DigOk sizes sizes.length ds := by
  have hp : gPow (.int 10) (.int 18) = some (.int 1000000000000000000) := rfl
  by_cases q : 1000000000000000000 ≤ c
  · have hq : decide (1000000000000000000 ≤ c) = true := decide_eq_true q
    have F := forL_ix (g := gtName 6) (fb := B__law_digits_1) D.int (fun (s : List Int × Int) z => (s.1 ++ [s.2 % z], s.2 / z))
      (fun n s ρ => (∃ z, ρ = [some (.val (.int c)), some (.val (lI sizes)), some (.own (lI s.1)), some (.val (.int s.2)), none, none, z, none]) ∧ DigOk sizes n s.1) sizes 0 ([], c - 1000000000000000000) _ ⟨⟨none, rfl⟩, ⟨rfl, fun k hk => absurd hk (Nat.not_lt_zero k)⟩⟩ ?_
    · obtain ⟨ρ', e1, ⟨z, rfl⟩, ok⟩ := F
      rw [Nat.zero_add] at ok
      refine ⟨_, ?_, ok⟩
      refine fn_rt (ρ := [some (.val (.int c)), some (.val (lI sizes)), none, none, none, none, none, none]) rfl ?_
      have hi : iSeq (eName 1) [some (.val (.int c)), some (.val (lI sizes)), some (.own (lI [])), some (.val (.int (c - 1000000000000000000))), none, none, none, none] = some (sizes.map D.int) := rfl
      have e0 : D.lst [] = lI [] := rfl
      have hob : isObjD (lI []) = false := rfl
      unfold S__law_digits
      simp only [ev_seq, ev_new, ev_lst, ev_nil, Option.map_some, e0, hob, or_true, if_true, ev_set, ev_cb, ev_cons, ev_pname, ev_name, ev_k, List.getElem?_cons_succ, List.getElem?_cons_zero, Option.bind_some, ev_int, List.set_cons_succ, List.set_cons_zero, ev_xif, ev_bool, ev_bin, hp, ev_ge, hq, ev_sub, ev_for, hi]
      rw [e1]
      rfl
    · rintro n z hz s ρ ⟨⟨w, rfl⟩, ok⟩
      rw [Nat.zero_add] at ok ⊢
      have hzm := hs.2 z (List.mem_of_getElem? hz)
      have hn : n < sizes.length := (List.getElem?_eq_some_iff.mp hz).1
      have hgd : sizes.getD n 0 = z := by rw [List.getD_eq_getElem?_getD, hz]; rfl
      have hd : CDiv s.2 z := cdiv_of hzm.1 hzm.2
      have h0 : 0 < z := hzm.1
      have hl : s.1.length < sizeLine := by have := hs.1; have := ok.ln; exact Nat.lt_of_lt_of_le (show s.1.length < 16777216 by omega) (short_of (Nat.le_refl _))
      refine ⟨_, _, rfl, ?_, ⟨⟨some (.val (.int z)), rfl⟩, ok.snoc (Int.emod_nonneg _ (by omega)) (by rw [hgd]; exact Int.emod_lt_of_pos _ h0)⟩⟩
      unfold B__law_digits_1
      have hl2 : (s.1.map D.int).length < sizeLine := by rw [List.length_map]; exact hl
      simp [h0, hd, lI, hl]
  · have hq : decide (1000000000000000000 ≤ c) = false := decide_eq_false q
    have hi : iRange (aCons (eCB gLen (aCons (pName 1) aNil)) aNil) [some (.val (.int c)), some (.val (lI sizes)), some (.own (lI [])), some (.val (.int c)), some (.val (.int (c % 2147483629))), none, none, none] = some ((List.range sizes.length).map fun k : Nat => D.int (k : Int)) := by
      have hgl : gLen [lI sizes] = some (.int (sizes.length : Nat)) := by show some (D.int ((sizes.map D.int).length : Nat)) = _; rw [List.length_map]
      have hsm : smallI (sizes.length : Int) = true := smallI_of (by omega) (by have := hs.1; omega)
      simp only [ev_irange, ev_cons, ev_nil, ev_cb, ev_pname, List.getElem?_cons_succ, List.getElem?_cons_zero, Option.bind_some, hgl, hsm, if_true, Int.toNat_natCast, rangeD_nat]
    have F := forL_ix (g := gtName 5) (fb := B__law_digits_2) (fun k : Nat => D.int (k : Int)) (fun (s : List Int × Int) k => (s.1 ++ [((s.2 * 48271 + 974711 * (k : Int) + 12345) % 2147483647 * ((s.2 * 48271 + 974711 * (k : Int) + 12345) % 2147483647 / 65537 + 3)) % 2147483629 / 19 % sizes.getD k 0], (s.2 * 48271 + 974711 * (k : Int) + 12345) % 2147483647))
      (fun n s ρ => (∃ a b, ρ = [some (.val (.int c)), some (.val (lI sizes)), some (.own (lI s.1)), some (.val (.int c)), some (.val (.int s.2)), a, none, b]) ∧ DigOk sizes n s.1) (List.range sizes.length) 0 ([], c % 2147483629) _ ⟨⟨none, none, rfl⟩, ⟨rfl, fun k hk => absurd hk (Nat.not_lt_zero k)⟩⟩ ?_
    · obtain ⟨ρ', e1, ⟨a, b, rfl⟩, ok⟩ := F
      rw [Nat.zero_add, List.length_range] at ok
      refine ⟨_, ?_, ok⟩
      refine fn_rt (ρ := [some (.val (.int c)), some (.val (lI sizes)), none, none, none, none, none, none]) rfl ?_
      have e0 : D.lst [] = lI [] := rfl
      have hob : isObjD (lI []) = false := rfl
      unfold S__law_digits
      simp only [ev_seq, ev_new, ev_lst, ev_nil, Option.map_some, e0, hob, or_true, if_true, ev_set, ev_cb, ev_cons, ev_pname, ev_name, ev_k, List.getElem?_cons_succ, List.getElem?_cons_zero, Option.bind_some, ev_int, List.set_cons_succ, List.set_cons_zero, ev_xif, ev_bool, ev_bin, hp, ev_ge, hq, ev_pass, ev_mod, show (0 : Int) < 2147483629 from by decide, ev_for, hi]
      rw [e1]
      rfl
    · rintro n k hk s ρ ⟨⟨a, b, rfl⟩, ok⟩
      rw [Nat.zero_add] at ok ⊢
      have hn : n < sizes.length := by have := (List.getElem?_eq_some_iff.mp hk).1; rwa [List.length_range] at this
      have hkn : k = n := by rw [List.getElem?_range hn] at hk; cases hk; rfl
      subst hkn
      have hz : sizes.getD k 0 ∈ sizes := by rw [List.getD_eq_getElem?_getD, List.getElem?_eq_getElem hn]; exact List.getElem_mem _
      have hzm := hs.2 _ hz
      have g2 : gIx (lI sizes) (.int (k : Nat)) = some (.int (sizes.getD k 0)) := gIx_lst hn
      have hl : s.1.length < sizeLine := by have := hs.1; have := ok.ln; exact Nat.lt_of_lt_of_le (show s.1.length < 16777216 by omega) (short_of (Nat.le_refl _))
      have m1 : CMul s.2 48271 := cmul_r (by decide)
      have m2 : CMul 974711 (k : Int) := cmul_l (by decide)
      refine ⟨_, _, rfl, ?_, ⟨⟨some (.val (.int (k : Nat))), some (.val (.int ((s.2 * 48271 + 974711 * (k : Int) + 12345) % 2147483647 * ((s.2 * 48271 + 974711 * (k : Int) + 12345) % 2147483647 / 65537 + 3) % 2147483629))), rfl⟩, ok.snoc (Int.emod_nonneg _ (by omega)) (Int.emod_lt_of_pos _ hzm.1)⟩⟩
      have r0 : 0 ≤ (s.2 * 48271 + 974711 * (k : Int) + 12345) % 2147483647 := Int.emod_nonneg _ (by decide)
      have r1 : (s.2 * 48271 + 974711 * (k : Int) + 12345) % 2147483647 < 2147483647 := Int.emod_lt_of_pos _ (by decide)
      generalize hsd : (s.2 * 48271 + 974711 * (k : Int) + 12345) % 2147483647 = sd at r0 r1 ⊢
      have m3 : CMul sd (sd / 65537 + 3) := cmul_l (by omega)
      have d1 : CDiv sd 65537 := cdiv_of (by decide) (by decide)
      have d2 : CDiv (sd * (sd / 65537 + 3) % 2147483629) 19 := cdiv_of (by decide) (by decide)
      generalize sizes.getD k 0 = z at g2 hzm
      have h0 : 0 < z := hzm.1
      unfold B__law_digits_2
      simp [m1, m2, hsd, m3, d1, d2, g2, h0, lI, hl]
end K75
namespace K75
open PySem PySem.Spec PyProof.Rows L2 DL
def tabK : List (Int × Int) := [(0, 0), (1, 0), (0, 1), (2, 0), (1, 1), (0, 0), (3, 0), (0, 2), (1, 0), (0, 1), (2, 1), (9, 0)]
def kL2 (q : Int × Int) : D := lI [q.1, q.2]
def mkOf (x y z w : Int) : Of := ⟨if w = 0 then x % 4 else x, if (if 0 < w then (5 : Int) else 0) > y then (if 0 < w then 5 else 0) else y, (tabK.getD z.toNat (0, 0)).1, (tabK.getD z.toNat (0, 0)).2⟩
theorem tab_ok : ∀ k < 12, 0 ≤ (tabK.getD k (0, 0)).1 ∧ (tabK.getD k (0, 0)).1 ≤ 9 ∧ 0 ≤ (tabK.getD k (0, 0)).2 ∧ (tabK.getD k (0, 0)).2 ≤ 9 := by decide
theorem mkOf_ok {x y z w : Int} (y0 : 0 ≤ y) (y9 : y < 10) (z0 : 0 ≤ z) (z9 : z < 12) : OfOk (mkOf x y z w) := by
  obtain ⟨a, b, c, d⟩ := tab_ok z.toNat (by omega)
  refine ⟨?_, ?_, a, b, c, d⟩ <;> (unfold mkOf; dsimp only; split <;> split <;> omega)
theorem part_turn (A : D) (ds : List Int) (x y z w : Int) (k : Nat) (hk : k < 3) (hcut : cutD (ds.map D.int) (some (5 + 4 * (k : Int))) (some (9 + 4 * (k : Int))) = [.int x, .int y, .int z, .int w]) (z0 : 0 ≤ z) (z9 : z < 12)
    (l : List D) (hz3 : l.length < sizeLine) (s11 s12 s13 : Option Sl) :
    ∃ a b c, B_law_1 [some (.val A), some (.val (lI ds)), some (.own (.lst l)), some (.val (.int (k : Nat))), none, none, none, none, none, none, none, s11, s12, s13, none] =
      .nx [some (.val A), some (.val (lI ds)), some (.own (.lst (l ++ [ofX false (mkOf x y z w)]))), some (.val (.int (k : Nat))), none, none, none, none, none, none, none, a, b, c, none] := by
  have m1 : CMul 4 (k : Int) := cmul_l (by decide)
  have hs : gSl (lI ds) (some (5 + 4 * (k : Int))) (some (9 + 4 * (k : Int))) = some (.lst [.int x, .int y, .int z, .int w]) := by
    show some (D.lst (cutD (ds.map D.int) _ _)) = _
    rw [hcut]
  have hz : ((z.toNat : Nat) : Int) = z := Int.toNat_of_nonneg z0
  have g : gIx (.lst (tabK.map kL2)) (.int z) = some (kL2 (tabK.getD z.toNat (0, 0))) := by
    have := gIx_lst (f := kL2) (xs := tabK) (k := z.toNat) (d := (0, 0)) (by show z.toNat < 12; omega)
    rw [hz] at this; exact this
  have t : tabK.map kL2 = [.lst [.int 0, .int 0], .lst [.int 1, .int 0], .lst [.int 0, .int 1], .lst [.int 2, .int 0], .lst [.int 1, .int 1], .lst [.int 0, .int 0], .lst [.int 3, .int 0], .lst [.int 0, .int 2], .lst [.int 1, .int 0], .lst [.int 0, .int 1], .lst [.int 2, .int 1], .lst [.int 9, .int 0]] := rfl
  rw [t] at g
  have p0 : gIx (.lst [.int x, .int y, .int z, .int w]) (.int 0) = some (.int x) := rfl
  have p1 : gIx (.lst [.int x, .int y, .int z, .int w]) (.int 1) = some (.int y) := rfl
  have p2 : gIx (.lst [.int x, .int y, .int z, .int w]) (.int 2) = some (.int z) := rfl
  have p3 : gIx (.lst [.int x, .int y, .int z, .int w]) (.int 3) = some (.int w) := rfl
  have k0 : ∀ q : Int × Int, gIx (kL2 q) (.int 0) = some (.int q.1) := fun q => rfl
  have k1 : ∀ q : Int × Int, gIx (kL2 q) (.int 1) = some (.int q.2) := fun q => rfl
  have b5 : ∀ b : Bool, gIx (.lst [.int 0, .int 5]) (.int (if b = true then 1 else 0)) = some (.int (if b = true then 5 else 0)) := fun b => by cases b <;> rfl
  have he : ofX false (mkOf x y z w) = .lst [.int (if w = 0 then x % 4 else x), .int (if (if 0 < w then (5 : Int) else 0) > y then (if 0 < w then 5 else 0) else y), .int (tabK.getD z.toNat (0, 0)).1, .int (tabK.getD z.toNat (0, 0)).2] := rfl
  rw [he]
  generalize tabK.getD z.toNat (0, 0) = q at g
  refine ⟨some (.val (.lst [.int x, .int y, .int z, .int w])), some (.val (kL2 q)), some (.val (.int (if w = 0 then x % 4 else x))), ?_⟩
  unfold B_law_1
  have h4 : (0 : Int) < 4 := by decide
  have b5' := b5 (decide (0 < w))
  simp only [decide_eq_true_eq] at b5'
  by_cases c : w = 0
  · subst c
    simp only [Int.lt_irrefl, if_false] at b5' ⊢
    simp [m1, hs, g, p0, p1, p2, p3, k0, k1, b5', hz3]
  · have cb : (w == 0) = false := beq_eq_false_iff_ne.mpr c
    simp [m1, hs, g, p0, p1, p2, p3, k0, k1, b5', hz3, cb, c]
end K75
namespace K75
open PySem PySem.Spec PyProof.Rows L2 DL
def szs : List Int := [3, 4, 4, 8, 3, 1000, 10, 12, 4, 1000, 10, 12, 4, 1000, 10, 12, 4]
theorem szs_ok : SizesOk szs := ⟨by decide, by decide⟩
theorem len17 : ∀ ds : List Int, ds.length = 17 → ∃ a b c d e f g h i j k l m n o p q, ds = [a, b, c, d, e, f, g, h, i, j, k, l, m, n, o, p, q]
  | [a, b, c, d, e, f, g, h, i, j, k, l, m, n, o, p, q], _ => ⟨a, b, c, d, e, f, g, h, i, j, k, l, m, n, o, p, q, rfl⟩
/-- the offers that the digits name -/
theorem offers_eq (A : D) (ds : List Int) (hd : DigOk szs 17 ds) : ∃ os : List Of, os.length = (1 + ds.getD 0 0).toNat ∧ (∀ o ∈ os, OfOk o) ∧
    ∃ s a b c, forL (gtName 3) B_law_1 ((List.range (1 + ds.getD 0 0).toNat).map fun k : Nat => D.int (k : Int)) [some (.val A), some (.val (lI ds)), some (.own (.lst [])), none, none, none, none, none, none, none, none, none, none, none, none] =
      .nx [some (.val A), some (.val (lI ds)), some (.own (.lst (os.map (ofX false)))), s, none, none, none, none, none, none, none, a, b, c, none] := by
  obtain ⟨x0, x1, x2, x3, x4, y0, y1, y2, y3, z0, z1, z2, z3, w0, w1, w2, w3, e⟩ := len17 ds hd.ln
  have h0 : 0 ≤ x0 ∧ x0 < 3 := by have := hd.dg 0 (by decide); rw [e] at this; exact this
  have a1 : 0 ≤ y1 ∧ y1 < 10 := by have := hd.dg 6 (by decide); rw [e] at this; exact this
  have a2 : 0 ≤ y2 ∧ y2 < 12 := by have := hd.dg 7 (by decide); rw [e] at this; exact this
  have b1 : 0 ≤ z1 ∧ z1 < 10 := by have := hd.dg 10 (by decide); rw [e] at this; exact this
  have b2 : 0 ≤ z2 ∧ z2 < 12 := by have := hd.dg 11 (by decide); rw [e] at this; exact this
  have c1 : 0 ≤ w1 ∧ w1 < 10 := by have := hd.dg 14 (by decide); rw [e] at this; exact this
  have c2 : 0 ≤ w2 ∧ w2 < 12 := by have := hd.dg 15 (by decide); rw [e] at this; exact this
  have hg : ds.getD 0 0 = x0 := by rw [e]; rfl
  rw [hg]
  have hn : (1 + x0).toNat ≤ 3 := by omega
  generalize (1 + x0).toNat = n at hn
  let os3 : Nat → Of := fun k => if k = 0 then mkOf y0 y1 y2 y3 else if k = 1 then mkOf z0 z1 z2 z3 else mkOf w0 w1 w2 w3
  have hok : ∀ k, OfOk (os3 k) := fun k => by
    show OfOk (if k = 0 then mkOf y0 y1 y2 y3 else if k = 1 then mkOf z0 z1 z2 z3 else mkOf w0 w1 w2 w3)
    split
    · exact mkOf_ok a1.1 a1.2 a2.1 a2.2
    · split
      · exact mkOf_ok b1.1 b1.2 b2.1 b2.2
      · exact mkOf_ok c1.1 c1.2 c2.1 c2.2
  refine ⟨(List.range n).map os3, by rw [List.length_map, List.length_range], fun o ho => ?_, ?_⟩
  · obtain ⟨k, _, q⟩ := List.mem_map.mp ho
    rw [← q]; exact hok k
  have P := forL_push (g := gtName 3) (fb := B_law_1) (fun k : Nat => D.int (k : Int)) (fun k => [ofX false (os3 k)])
    (fun l ρ => ∃ s a b c, ρ = [some (.val A), some (.val (lI ds)), some (.own (.lst l)), s, none, none, none, none, none, none, none, a, b, c, none]) (List.range n) [] _ ⟨none, none, none, none, rfl⟩ ?_ ?_
  · obtain ⟨ρ', e1, s, a, b, c, q⟩ := P
    rw [List.nil_append, flat_one] at q
    have q2 : (List.range n).map (fun k => ofX false (os3 k)) = ((List.range n).map os3).map (ofX false) := by rw [List.map_map]; rfl
    rw [q2] at q
    rw [q] at e1
    exact ⟨s, a, b, c, e1⟩
  · rw [List.nil_append, flat_one, List.length_map, List.length_range]
    exact short_of (by omega)
  · rintro k hk l ρ ⟨s, a, b, c, q⟩ hz
    have hk : k < n := List.mem_range.mp hk
    have hz3 : l.length < sizeLine := by simp only [List.length_cons, List.length_nil] at hz; omega
    subst q
    match k, hk with
    | 0, _ =>
      obtain ⟨a', b', c', t⟩ := part_turn A ds y0 y1 y2 y3 0 (by decide) (by rw [e]; rfl) a2.1 a2.2 l hz3 a b c
      exact ⟨_, _, rfl, t, ⟨_, a', b', c', rfl⟩⟩
    | 1, _ =>
      obtain ⟨a', b', c', t⟩ := part_turn A ds z0 z1 z2 z3 1 (by decide) (by rw [e]; rfl) b2.1 b2.2 l hz3 a b c
      exact ⟨_, _, rfl, t, ⟨_, a', b', c', rfl⟩⟩
    | 2, _ =>
      obtain ⟨a', b', c', t⟩ := part_turn A ds w0 w1 w2 w3 2 (by decide) (by rw [e]; rfl) c2.1 c2.2 l hz3 a b c
      exact ⟨_, _, rfl, t, ⟨_, a', b', c', rfl⟩⟩
    | k + 3, hk => exact absurd hk (by omega)
end K75
namespace K75
open PySem PySem.Spec PyProof.Rows L2 DL
theorem gNe_lI (a : List Int) : gNe (lI a) (lI a) = some (.bl false) := by
  unfold gNe
  rw [plain_lI, eqD_lI, decide_eq_true rfl]
  rfl
theorem min3_sum : ∀ (os : List Of), (∀ o ∈ os, OfOk o) → (∀ x ∈ os.map (fun o => if 3 < o.m then (3 : Int) else o.m), 0 ≤ x ∧ x ≤ 3) ∧ (os.map (fun o => if 3 < o.m then (3 : Int) else o.m)).sum ≤ 3 * os.length
  | [], _ => ⟨fun x hx => (by cases hx), by simp⟩
  | o :: os, h => by
    obtain ⟨h1, h2⟩ := min3_sum os fun p hp => h p (List.mem_cons_of_mem _ hp)
    have ho := (h o (List.mem_cons_self ..)).m0
    have hx : 0 ≤ (if 3 < o.m then (3 : Int) else o.m) ∧ (if 3 < o.m then (3 : Int) else o.m) ≤ 3 := by split <;> omega
    refine ⟨fun x hm => ?_, ?_⟩
    · rw [List.map_cons] at hm
      rcases List.mem_cons.mp hm with e | hm
      · rw [e]; exact hx
      · exact h1 x hm
    · rw [List.map_cons, List.sum_cons, List.length_cons]
      omega
def cs3 (os : List Of) : List Int := os.map fun o => if 3 < o.m then (3 : Int) else o.m
theorem cs3_ok {os : List Of} (h : ∀ o ∈ os, OfOk o) (hn : os.length ≤ 3) : CsOk os.length (cs3 os) := by
  obtain ⟨h1, h2⟩ := min3_sum os h
  exact ⟨⟨by unfold cs3; rw [List.length_map], fun x hx => by have := h1 x hx; omega⟩, by unfold cs3; omega⟩
theorem law_eq (ns : List Int) : F_law [lI ns] = some (.bl true) := by
  obtain ⟨c, hcell⟩ := cell_eq ns
  obtain ⟨ds, hdig, hd⟩ := digits_eq c szs szs_ok
  have hd : DigOk szs 17 ds := hd
  obtain ⟨os, hlen, ho, s3, s11, s12, s13, hloop⟩ := offers_eq (lI ns) ds hd
  have d0 := hd.dg 0 (by decide)
  have d1 := hd.dg 1 (by decide)
  have d2 := hd.dg 2 (by decide)
  have d3 := hd.dg 3 (by decide)
  have d4 := hd.dg 4 (by decide)
  have hl := hd.ln
  have g0 : gIx (lI ds) (.int 0) = some (.int (ds.getD 0 0)) := gIx_lst (k := 0) (by omega)
  have g1 : gIx (lI ds) (.int 1) = some (.int (ds.getD 1 0)) := gIx_lst (k := 1) (by omega)
  have g2 : gIx (lI ds) (.int 2) = some (.int (ds.getD 2 0)) := gIx_lst (k := 2) (by omega)
  have g3 : gIx (lI ds) (.int 3) = some (.int (ds.getD 3 0)) := gIx_lst (k := 3) (by omega)
  have g4 : gIx (lI ds) (.int 4) = some (.int (ds.getD 4 0)) := gIx_lst (k := 4) (by omega)
  generalize ds.getD 0 0 = x0 at *
  generalize ds.getD 1 0 = x1 at *
  generalize ds.getD 2 0 = x2 at *
  generalize ds.getD 3 0 = x3 at *
  generalize ds.getD 4 0 = x4 at *
  have d0 : 0 ≤ x0 ∧ x0 < 3 := d0
  have d1 : 0 ≤ x1 ∧ x1 < 4 := d1
  have d2 : 0 ≤ x2 ∧ x2 < 4 := d2
  have d3 : 0 ≤ x3 ∧ x3 < 8 := d3
  have d4 : 0 ≤ x4 ∧ x4 < 3 := d4
  have n3 : os.length ≤ 3 := by omega
  have n0 : 0 < os.length := by omega
  obtain ⟨L, hL⟩ : ∃ L : Nat, (L : Int) = 1 + x1 := ⟨(1 + x1).toNat, Int.toNat_of_nonneg (by omega)⟩
  obtain ⟨pk, hpk, gpk⟩ : ∃ pk : Int, (0 ≤ pk ∧ pk ≤ 3) ∧ gIx (.lst [.int 0, .int 0, .int 0, .int 0, .int 1, .int 1, .int 2, .int 3]) (.int x3) = some (.int pk) := by
    have t : ∀ k < 8, 0 ≤ ([0, 0, 0, 0, 1, 1, 2, 3] : List Int).getD k 0 ∧ ([0, 0, 0, 0, 1, 1, 2, 3] : List Int).getD k 0 ≤ 3 := by decide
    have hz : ((x3.toNat : Nat) : Int) = x3 := Int.toNat_of_nonneg d3.1
    have g := gIx_lst (f := D.int) (xs := [0, 0, 0, 0, 1, 1, 2, 3]) (k := x3.toNat) (d := 0) (by show x3.toNat < 8; omega)
    rw [hz] at g
    exact ⟨_, t x3.toNat (by omega), g⟩
  obtain ⟨i, hi, hii⟩ : ∃ i : Nat, i < os.length ∧ x4 % (os.length : Int) = (i : Int) := by
    have h0 : 0 ≤ x4 % (os.length : Int) := Int.emod_nonneg _ (by omega)
    have h1 : x4 % (os.length : Int) < os.length := Int.emod_lt_of_pos _ (by omega)
    exact ⟨(x4 % (os.length : Int)).toNat, by omega, (Int.toNat_of_nonneg h0).symm⟩
  have hC : Case L (1 + x2) pk os := ⟨by omega, by omega, by omega, hpk, n0, n3, ho⟩
  have fcs : ∀ cs ∈ fnd L (1 + x2) pk os, CsOk os.length cs := fun cs h => fnd_cs hC h
  have hE := lenough_counts_eq L (1 + x2) pk os hC
  have hB := law_best_eq os (fnd L (1 + x2) pk os) (by omega) fcs
  have hT := cheapest_eq L (1 + x2) pk os hC false
  have hBR := bound_right_eq L (1 + x2) pk os hC i hi
  have hc3 := cs3_ok ho n3
  have hP3 : F_hire_price [.lst (os.map (ofX false)), lI (cs3 os)] = some (.int (prc os (cs3 os))) := hire_price_eq os false false (cs3 os) (by omega) hc3
  have hR3 : F__law_crew_right [.lst (os.map (ofX false)), lI (cs3 os), .int pk] = some (.bl true) := crew_right_eq os false (cs3 os) pk ho (by omega) hc3
  rw [hL] at hE hT hBR
  have hrep : gRep (.lst [.int 1000, .int 10, .int 12, .int 4]) (.int 3) = some (.lst [.int 1000, .int 10, .int 12, .int 4, .int 1000, .int 10, .int 12, .int 4, .int 1000, .int 10, .int 12, .int 4]) := by
    show (if -(2 ^ 63) ≤ (3 : Int) ∧ (3 : Int) < 2 ^ 63 ∧ 4 * (3 : Int).toNat ≤ sizeLine then _ else none) = _
    rw [if_pos ⟨by decide, by decide, short_of (by decide)⟩]; rfl
  have hadd : gAdd (.lst [.int 3, .int 4, .int 4, .int 8, .int 3]) (.lst [.int 1000, .int 10, .int 12, .int 4, .int 1000, .int 10, .int 12, .int 4, .int 1000, .int 10, .int 12, .int 4]) = some (lI szs) := by
    show (if 5 + 12 ≤ sizeLine then _ else none) = _
    rw [if_pos (short_of (by decide))]; rfl
  have hz2 : os.length ≤ sizeLine := short_of (by omega)
  have hgl : gLen [.lst (os.map (ofX false))] = some (.int (os.length : Nat)) := by rw [gLen_l, List.length_map]
  have hL2 : ∀ ρ : DEnv, ρ.length = 15 → ρ[2]? = some (some (.val (.lst (os.map (ofX false))))) → L_law_2 ρ = some (.lst (os.map (ofX false))) := fun ρ hr h2 => by
    have Q := lcL_all (g := gtName 14) (fe := eCB gList (aCons (pName 14) aNil)) (ρ := wipeD ρ [14]) (ofX false) (ofX false) os fun o _ => by
      have hk2 : 14 < (wipeD ρ [14]).length := by rw [wipeD_length, hr]; decide
      have g : gList [ofX false o] = some (ofX false o) := rfl
      refine ⟨_, rfl, ?_⟩
      simp only [ev_cb, ev_cons, ev_nil, ev_pname, List.getElem?_set_self hk2, Option.bind_some, g]
    unfold L_law_2
    simp only [ev_lc, ev_iseq, ev_name, h2, Option.bind_some, Q, List.length_map, hz2, if_true]
  have hL3 : ∀ ρ : DEnv, ρ.length = 15 → ρ[2]? = some (some (.val (.lst (os.map (ofX false))))) → L_law_3 ρ = some (lI (cs3 os)) := fun ρ hr h2 => by
    have Q := lcL_all (g := gtName 14) (fe := eCB gMin2 (aCons (eBin gIx (pName 14) (eK (.int 1))) (aCons (eK (.int 3)) aNil))) (ρ := wipeD ρ [14]) (ofX false) (fun o => D.int (if 3 < o.m then (3 : Int) else o.m)) os fun o _ => by
      have hk2 : 14 < (wipeD ρ [14]).length := by rw [wipeD_length, hr]; decide
      have g : gIx (ofX false o) (.int 1) = some (.int o.m) := rfl
      refine ⟨_, rfl, ?_⟩
      simp only [ev_cb, ev_cons, ev_nil, ev_bin, ev_k, ev_pname, List.getElem?_set_self hk2, Option.bind_some, g, ev_min2]
    have e : os.map (fun o => D.int (if 3 < o.m then (3 : Int) else o.m)) = (cs3 os).map D.int := by unfold cs3; rw [List.map_map]; rfl
    rw [e] at Q
    have hz4 : (cs3 os).length ≤ sizeLine := short_of (by have := hc3.vec.1; omega)
    unfold L_law_3
    simp only [ev_lc, ev_iseq, ev_name, h2, Option.bind_some, Q, List.length_map, hz4, if_true]
  have hL4 : ∀ ρ : DEnv, ρ.length = 15 → ρ[2]? = some (some (.val (.lst (os.map (ofX false))))) → ρ[10]? = some (some (.val (lI (cs3 os)))) → L_law_4 ρ = some (.lst (((os.zip (cs3 os)).map fun q => q.1.p * q.2).map D.int)) := fun ρ hr h2 h10 =>
    price_comp os false (cs3 os) (by omega) hc3 2 10 3 ρ (by omega) (by decide) (by decide) h2 h10
  have hS4 : gSum [.lst (((os.zip (cs3 os)).map fun q => q.1.p * q.2).map D.int)] = some (.int (prc os (cs3 os))) := sum_lI _
  have hsm : smallI (1 + x0) = true := smallI_of (by omega) (by omega)
  have hrg : rangeD 0 1 (1 + x0).toNat = (List.range (1 + x0).toNat).map fun k : Nat => D.int (k : Int) := rangeD_nat
  refine fn_rt (ρ := [some (.val (lI ns)), none, none, none, none, none, none, none, none, none, none, none, none, none, none]) rfl ?_
  unfold S_law
  have hob : isObjD (.lst []) = false := rfl
  simp only [ev_seq, ev_set, ev_call, ev_cons, ev_nil, ev_name, ev_k, List.getElem?_cons_succ, List.getElem?_cons_zero, Option.bind_some, List.append_nil, List.length_cons, List.length_nil, if_true, hcell, ev_bin, ev_lst, Option.map_some, hrep, hadd, hdig, List.set_cons_succ, List.set_cons_zero, ev_new, hob, or_true, ev_for, ev_irange, ev_pname, g0, ev_add, hsm, hrg]
  rw [hloop]
  simp only [ev_seq, ev_set, ev_call, ev_cons, ev_nil, ev_name, ev_k, List.getElem?_cons_succ, List.getElem?_cons_zero, Option.bind_some, List.append_nil, List.length_cons, List.length_nil, if_true, ev_bin, ev_lst, Option.map_some, List.set_cons_succ, List.set_cons_zero, ev_pname, g1, g2, g3, ev_add, gpk, ev_frz, ev_frz0, ev_frzAt, hE, hB]
  have hL2' : ∀ a0 a1 a3 a4 a5 a6 a7 a8 a9 a10 a11 a12 a13 a14 : Option Sl, L_law_2 [a0, a1, some (.val (.lst (os.map (ofX false)))), a3, a4, a5, a6, a7, a8, a9, a10, a11, a12, a13, a14] = some (.lst (os.map (ofX false))) := fun a0 a1 a3 a4 a5 a6 a7 a8 a9 a10 a11 a12 a13 a14 => hL2 _ rfl rfl
  have hL3' : ∀ a0 a1 a3 a4 a5 a6 a7 a8 a9 a10 a11 a12 a13 a14 : Option Sl, L_law_3 [a0, a1, some (.val (.lst (os.map (ofX false)))), a3, a4, a5, a6, a7, a8, a9, a10, a11, a12, a13, a14] = some (lI (cs3 os)) := fun a0 a1 a3 a4 a5 a6 a7 a8 a9 a10 a11 a12 a13 a14 => hL3 _ rfl rfl
  have hL4' : ∀ a0 a1 a3 a4 a5 a6 a7 a8 a9 a11 a12 a13 a14 : Option Sl, L_law_4 [a0, a1, some (.val (.lst (os.map (ofX false)))), a3, a4, a5, a6, a7, a8, a9, some (.val (lI (cs3 os))), a11, a12, a13, a14] = some (.lst (((os.zip (cs3 os)).map fun q => q.1.p * q.2).map D.int)) := fun a0 a1 a3 a4 a5 a6 a7 a8 a9 a11 a12 a13 a14 => hL4 _ rfl rfl rfl
  clear hL2 hL3 hL4
  have hob2 : isObjD (lI (cs3 os)) = false := rfl
  have hn0 : (0 : Int) < (os.length : Int) := by omega
  have hne : ∀ n : Int, gNe (.int n) (.int n) = some (.bl false) := fun n => by rw [gNe_int, beq_self_eq_true]; rfl
  cases hb : bst os (fnd L (1 + x2) pk os) with
  | none =>
    have e1 : bstD os false false (fnd L (1 + x2) pk os) = .non := by unfold bstD; rw [hb]
    have e2 : cheapD L (1 + x2) pk os = .non := by unfold cheapD; rw [hb]
    rw [e2] at hT
    rw [e1]
    simp only [hn0, hL2', hL3', hL4', hob2, hne, hP3, hS4, hR3, g4, hgl, ev_mod, hii, hBR, ev_new, or_true, ev_seq, ev_set, ev_call, ev_cons, ev_nil, ev_name, ev_k, List.getElem?_cons_succ, List.getElem?_cons_zero, Option.bind_some, Option.map_some, List.append_nil, List.length_cons, List.length_nil, if_true, ev_bin, List.set_cons_succ, List.set_cons_zero, ev_pname, ev_frz, ev_frz0, ev_frzAt, hT, ev_xif, ev_tor, ev_bool, ev_isN, ev_notN, isNon_non, ev_pass, ev_tnot, Bool.not_true, Bool.not_false, ev_cb, ev_ret, Bool.false_eq_true, if_false]
  | some cs =>
    obtain ⟨c1, _⟩ := bst_spec _ hb
    have hcs := fcs cs c1
    have e1 : bstD os false false (fnd L (1 + x2) pk os) = oD os false false cs := by unfold bstD; rw [hb]
    have e2 : cheapD L (1 + x2) pk os = tI cs := by unfold cheapD; rw [hb]
    have hP1 : F_hire_price [.lst (os.map (ofX false)), tI cs] = some (.int (prc os cs)) := hire_price_eq os false true cs (by omega) hcs
    have hR1 : F__law_crew_right [.lst (os.map (ofX false)), tI cs, .int pk] = some (.bl true) := crew_right_eq os true cs pk ho (by omega) hcs
    have q1 : gIsi [tI cs, .ty "tuple"] = some (.bl true) := rfl
    have q2 : gList [tI cs] = some (lI cs) := rfl
    have q3 : gIx (oD os false false cs) (.int 2) = some (lI cs) := rfl
    have q4 : gIx (oD os false false cs) (.int 0) = some (.int (prc os cs)) := rfl
    have q5 : isNon (oD os false false cs) = false := rfl
    have q6 : isNon (tI cs) = false := rfl
    have q7 := gNe_lI cs
    rw [e2] at hT
    rw [e1]
    generalize oD os false false cs = bb at q3 q4 q5
    simp only [q1, q2, q3, q4, q5, q6, q7, hP1, hR1, hn0, hL2', hL3', hL4', hob2, hne, hP3, hS4, hR3, g4, hgl, ev_mod, hii, hBR, ev_new, or_true, ev_seq, ev_set, ev_call, ev_cons, ev_nil, ev_name, ev_k, List.getElem?_cons_succ, List.getElem?_cons_zero, Option.bind_some, Option.map_some, List.append_nil, List.length_cons, List.length_nil, if_true, ev_bin, List.set_cons_succ, List.set_cons_zero, ev_pname, ev_frz, ev_frz0, ev_frzAt, hT, ev_xif, ev_tor, ev_bool, ev_isN, ev_notN, isNon_non, ev_pass, ev_tnot, Bool.not_true, Bool.not_false, ev_cb, ev_ret, Bool.false_eq_true, if_false]
end K75
namespace K75
open PySem PySem.Spec PyProof.Rows L2 DL
def fn0 : List He.DefD := [
  ⟨("_wall", none), "_wall", "_wall", defArgs (top 0), defBody (top 0), defScope (top 0), [], []⟩,
  ⟨("BadKind", some "__init__"), "__init__", "BadKind.__init__", defArgs (inClass (top 3) 0), defBody (inClass (top 3) 0), defScope (inClass (top 3) 0), [], []⟩,
  ⟨("BadMember", some "__init__"), "__init__", "BadMember.__init__", defArgs (inClass (top 4) 0), defBody (inClass (top 4) 0), defScope (inClass (top 4) 0), [], []⟩,
  ⟨("joined_sets", none), "joined_sets", "joined_sets", defArgs (top 8), defBody (top 8), defScope (top 8), [], []⟩,
  ⟨("is_kind", none), "is_kind", "is_kind", defArgs (top 9), defBody (top 9), defScope (top 9), [], []⟩,
  ⟨("Crew", some "__init__"), "__init__", "Crew.__init__", defArgs (inClass (top 10) 0), defBody (inClass (top 10) 0), defScope (inClass (top 10) 0), [.int 0], []⟩,
  ⟨("Crew", some "slack"), "slack", "Crew.slack", defArgs (inClass (top 10) 1), defBody (inClass (top 10) 1), defScope (inClass (top 10) 1), [], []⟩,
  ⟨("Crew", some "of_kind"), "of_kind", "Crew.of_kind", defArgs (inClass (top 10) 2), defBody (inClass (top 10) 2), defScope (inClass (top 10) 2), [], []⟩,
  ⟨("Crew", some "keeps"), "keeps", "Crew.keeps", defArgs (inClass (top 10) 3), defBody (inClass (top 10) 3), defScope (inClass (top 10) 3), [], []⟩,
  ⟨("Crew", some "slacks"), "slacks", "Crew.slacks", defArgs (inClass (top 10) 4), defBody (inClass (top 10) 4), defScope (inClass (top 10) 4), [], []⟩,
  ⟨("Crew", some "may_be_late"), "may_be_late", "Crew.may_be_late", defArgs (inClass (top 10) 5), defBody (inClass (top 10) 5), defScope (inClass (top 10) 5), [], []⟩,
  ⟨("Crew", some "may_lie"), "may_lie", "Crew.may_lie", defArgs (inClass (top 10) 6), defBody (inClass (top 10) 6), defScope (inClass (top 10) 6), [], []⟩,
  ⟨("Crew", some "may_fail"), "may_fail", "Crew.may_fail", defArgs (inClass (top 10) 7), defBody (inClass (top 10) 7), defScope (inClass (top 10) 7), [], []⟩,
  ⟨("Crew", some "strength"), "strength", "Crew.strength", defArgs (inClass (top 10) 8), defBody (inClass (top 10) 8), defScope (inClass (top 10) 8), [], []⟩,
  ⟨("Crew", some "greatest"), "greatest", "Crew.greatest", defArgs (inClass (top 10) 9), defBody (inClass (top 10) 9), defScope (inClass (top 10) 9), [], []⟩,
  ⟨("Crew", some "greatest_failing"), "greatest_failing", "Crew.greatest_failing", defArgs (inClass (top 10) 10), defBody (inClass (top 10) 10), defScope (inClass (top 10) 10), [], []⟩,
  ⟨("Crew", some "greatest_lying"), "greatest_lying", "Crew.greatest_lying", defArgs (inClass (top 10) 11), defBody (inClass (top 10) 11), defScope (inClass (top 10) 11), [], []⟩,
  ⟨("Crew", some "greatest_doubt"), "greatest_doubt", "Crew.greatest_doubt", defArgs (inClass (top 10) 12), defBody (inClass (top 10) 12), defScope (inClass (top 10) 12), [], []⟩,
  ⟨("hire_price", none), "hire_price", "hire_price", defArgs (top 13), defBody (top 13), defScope (top 13), [], []⟩,
  ⟨("hire_crew", none), "hire_crew", "hire_crew", defArgs (top 14), defBody (top 14), defScope (top 14), [], []⟩,
  ⟨("all_counts", none), "all_counts", "all_counts", defArgs (top 15), defBody (top 15), defScope (top 15), [], []⟩,
  ⟨("needed_strength", none), "needed_strength", "needed_strength", defArgs (top 17), defBody (top 17), defScope (top 17), [], []⟩,
  ⟨("partitions", none), "partitions", "partitions", defArgs (top 18), defBody (top 18), defScope (top 18), [], []⟩,
  ⟨("hires", none), "hires", "hires", defArgs (top 19), defBody (top 19), defScope (top 19), [], []⟩,
  ⟨("dealt_hires", none), "dealt_hires", "dealt_hires", defArgs (top 20), defBody (top 20), defScope (top 20), [], []⟩,
  ⟨("named_groups", none), "named_groups", "named_groups", defArgs (top 21), defBody (top 21), defScope (top 21), [], []⟩,
  ⟨("open_grouping", none), "open_grouping", "open_grouping", defArgs (top 22), defBody (top 22), defScope (top 22), [], []⟩,
  ⟨("grouping", none), "grouping", "grouping", defArgs (top 23), defBody (top 23), defScope (top 23), [], []⟩,
  ⟨("is_enough", none), "is_enough", "is_enough", defArgs (top 24), defBody (top 24), defScope (top 24), [], []⟩,
  ⟨("enough_counts", none), "enough_counts", "enough_counts", defArgs (top 27), defBody (top 27), defScope (top 27), [], []⟩]
def fn1 : List He.DefD := [
  ⟨("hire_order", none), "hire_order", "hire_order", defArgs (top 28), defBody (top 28), defScope (top 28), [], []⟩,
  ⟨("first_hire", none), "first_hire", "first_hire", defArgs (top 29), defBody (top 29), defScope (top 29), [], []⟩,
  ⟨("cheapest", none), "cheapest", "cheapest", defArgs (top 30), defBody (top 30), defScope (top 30), [], []⟩,
  ⟨("worth_price", none), "worth_price", "worth_price", defArgs (top 31), defBody (top 31), defScope (top 31), [], []⟩,
  ⟨("price_bound", none), "price_bound", "price_bound", defArgs (top 32), defBody (top 32), defScope (top 32), [], []⟩,
  ⟨("_law_whole", none), "_law_whole", "_law_whole", defArgs (top 34), defBody (top 34), defScope (top 34), [], []⟩,
  ⟨("_law_cell", none), "_law_cell", "_law_cell", defArgs (top 35), defBody (top 35), defScope (top 35), [], []⟩,
  ⟨("_law_digits", none), "_law_digits", "_law_digits", defArgs (top 36), defBody (top 36), defScope (top 36), [], []⟩,
  ⟨("_law_slacks", none), "_law_slacks", "_law_slacks", defArgs (top 37), defBody (top 37), defScope (top 37), [], []⟩,
  ⟨("_law_parts", none), "_law_parts", "_law_parts", defArgs (top 38), defBody (top 38), defScope (top 38), [], []⟩,
  ⟨("_law_takes", none), "_law_takes", "_law_takes", defArgs (top 39), defBody (top 39), defScope (top 39), [], []⟩,
  ⟨("_law_dealt", none), "_law_dealt", "_law_dealt", defArgs (top 40), defBody (top 40), defScope (top 40), [], []⟩,
  ⟨("_law_enough", none), "_law_enough", "_law_enough", defArgs (top 41), defBody (top 41), defScope (top 41), [], []⟩,
  ⟨("_law_all_counts", none), "_law_all_counts", "_law_all_counts", defArgs (top 42), defBody (top 42), defScope (top 42), [], []⟩,
  ⟨("_law_enough_counts", none), "_law_enough_counts", "_law_enough_counts", defArgs (top 43), defBody (top 43), defScope (top 43), [], []⟩,
  ⟨("_law_best", none), "_law_best", "_law_best", defArgs (top 44), defBody (top 44), defScope (top 44), [], []⟩,
  ⟨("_law_bound", none), "_law_bound", "_law_bound", defArgs (top 45), defBody (top 45), defScope (top 45), [], []⟩,
  ⟨("_law_crew_right", none), "_law_crew_right", "_law_crew_right", defArgs (top 46), defBody (top 46), defScope (top 46), [], []⟩,
  ⟨("_law_bound_right", none), "_law_bound_right", "_law_bound_right", defArgs (top 47), defBody (top 47), defScope (top 47), [], []⟩,
  ⟨("law", none), "law", "law", defArgs (top 48), defBody (top 48), defScope (top 48), [], []⟩]
def fn : List He.DefD := fn0 ++ fn1
def fa0 : List He.Fa := [.glo "_wall", .glo "HandsError", .glo "BadKind", .glo "BadMember", .glo "subsets", .glo "joined_sets", .glo "is_kind", .glo "Crew", .glo "hire_price", .glo "hire_crew", .glo "all_counts", .glo "needed_strength", .glo "partitions", .glo "hires", .glo "dealt_hires", .glo "named_groups", .glo "open_grouping", .glo "grouping", .glo "is_enough", .glo "enough_counts", .glo "hire_order", .glo "first_hire", .glo "cheapest", .glo "worth_price", .glo "price_bound", .glo "_law_whole", .glo "_law_cell", .glo "_law_digits", .glo "_law_slacks", .glo "_law_parts", .glo "_law_takes", .glo "_law_dealt", .glo "_law_enough", .glo "_law_all_counts", .glo "_law_enough_counts", .glo "_law_best", .glo "_law_bound", .glo "_law_crew_right", .glo "_law_bound_right", .glo "law"]
def fa1 : List He.Fa := [.free "ValueError", .free "all", .free "bool", .free "dict", .free "enumerate", .free "int", .free "isinstance", .free "len", .free "list", .free "max", .free "min", .free "range", .free "sorted", .free "sum", .free "tuple", .free "zip", .int "GREATEST_NUMBER" 9, .int "MOST_HIRED" 9, .int "GREATEST_PRICE" 999, .cls "Crew", .mkr "Crew", .meth "Crew" "__init__", .meth "Crew" "slack", .meth "Crew" "of_kind", .meth "Crew" "keeps", .meth "Crew" "slacks", .meth "Crew" "may_be_late", .meth "Crew" "may_lie", .meth "Crew" "may_fail", .meth "Crew" "strength", .meth "Crew" "greatest", .meth "Crew" "greatest_failing", .meth "Crew" "greatest_lying", .meth "Crew" "greatest_doubt", .meth "Crew" "heads", .noat "Crew" "hands", .noat "Crew" "kinds", .noat "Crew" "members", .noat "Crew" "peeks"]
def fa : List He.Fa := fa0 ++ fa1
def loose0 : List PySem.Str := [("_wall" : PySem.Str), ("__name__" : PySem.Str), ("HandsError" : PySem.Str), ("BadKind" : PySem.Str), ("BadMember" : PySem.Str), ("GREATEST_NUMBER" : PySem.Str), ("subsets" : PySem.Str), ("joined_sets" : PySem.Str), ("is_kind" : PySem.Str), ("Crew" : PySem.Str), ("MOST_HIRED" : PySem.Str), ("hire_price" : PySem.Str), ("hire_crew" : PySem.Str), ("all_counts" : PySem.Str), ("needed_strength" : PySem.Str), ("partitions" : PySem.Str), ("hires" : PySem.Str), ("dealt_hires" : PySem.Str), ("named_groups" : PySem.Str), ("open_grouping" : PySem.Str), ("grouping" : PySem.Str), ("is_enough" : PySem.Str), ("GREATEST_PRICE" : PySem.Str), ("enough_counts" : PySem.Str), ("hire_order" : PySem.Str), ("first_hire" : PySem.Str), ("cheapest" : PySem.Str), ("worth_price" : PySem.Str), ("price_bound" : PySem.Str), ("_law_whole" : PySem.Str), ("_law_cell" : PySem.Str), ("_law_digits" : PySem.Str), ("_law_slacks" : PySem.Str), ("_law_parts" : PySem.Str), ("_law_takes" : PySem.Str), ("_law_dealt" : PySem.Str), ("_law_enough" : PySem.Str), ("_law_all_counts" : PySem.Str), ("_law_enough_counts" : PySem.Str), ("_law_best" : PySem.Str)]
def loose1 : List PySem.Str := [("_law_bound" : PySem.Str), ("_law_crew_right" : PySem.Str), ("_law_bound_right" : PySem.Str)]
def loose : List PySem.Str := loose0 ++ loose1
section
variable {P : Program} {w : World} {K : PySem.W.Frag} {mg : Str → Option Value} {base : Heap}
theorem tx {h : Heap} (X : K.In h) (G : h.Ns mainGlobals mg) (c : He.SaysD fa fn K) : Tx K mg where
  cls_Crew := He.cls_ok (c.fact 59 (f := .cls "Crew") rfl)
  d_Crew_init := c.def_ 5 rfl
  d_Crew_of_kind := c.def_ 7 rfl
  d_Crew_slack := c.def_ 6 rfl
  d_Crew_slacks := c.def_ 9 rfl
  d_Crew_strength := c.def_ 13 rfl
  d__law_all_counts := c.def_ 43 rfl
  g__law_all_counts := He.glo_ok X G (c.fact 33 (f := .glo "_law_all_counts") rfl)
  d__law_best := c.def_ 45 rfl
  g__law_best := He.glo_ok X G (c.fact 35 (f := .glo "_law_best") rfl)
  d__law_bound := c.def_ 46 rfl
  g__law_bound := He.glo_ok X G (c.fact 36 (f := .glo "_law_bound") rfl)
  d__law_bound_right := c.def_ 48 rfl
  g__law_bound_right := He.glo_ok X G (c.fact 38 (f := .glo "_law_bound_right") rfl)
  d__law_cell := c.def_ 36 rfl
  g__law_cell := He.glo_ok X G (c.fact 26 (f := .glo "_law_cell") rfl)
  d__law_crew_right := c.def_ 47 rfl
  g__law_crew_right := He.glo_ok X G (c.fact 37 (f := .glo "_law_crew_right") rfl)
  d__law_dealt := c.def_ 41 rfl
  g__law_dealt := He.glo_ok X G (c.fact 31 (f := .glo "_law_dealt") rfl)
  d__law_digits := c.def_ 37 rfl
  g__law_digits := He.glo_ok X G (c.fact 27 (f := .glo "_law_digits") rfl)
  d__law_enough := c.def_ 42 rfl
  g__law_enough := He.glo_ok X G (c.fact 32 (f := .glo "_law_enough") rfl)
  d__law_enough_counts := c.def_ 44 rfl
  g__law_enough_counts := He.glo_ok X G (c.fact 34 (f := .glo "_law_enough_counts") rfl)
  d__law_parts := c.def_ 39 rfl
  g__law_parts := He.glo_ok X G (c.fact 29 (f := .glo "_law_parts") rfl)
  d__law_slacks := c.def_ 38 rfl
  g__law_slacks := He.glo_ok X G (c.fact 28 (f := .glo "_law_slacks") rfl)
  d__law_takes := c.def_ 40 rfl
  g__law_takes := He.glo_ok X G (c.fact 30 (f := .glo "_law_takes") rfl)
  d__law_whole := c.def_ 35 rfl
  g__law_whole := He.glo_ok X G (c.fact 25 (f := .glo "_law_whole") rfl)
  d_all_counts := c.def_ 20 rfl
  g_all_counts := He.glo_ok X G (c.fact 10 (f := .glo "all_counts") rfl)
  d_cheapest := c.def_ 32 rfl
  g_cheapest := He.glo_ok X G (c.fact 22 (f := .glo "cheapest") rfl)
  d_dealt_hires := c.def_ 24 rfl
  g_dealt_hires := He.glo_ok X G (c.fact 14 (f := .glo "dealt_hires") rfl)
  d_enough_counts := c.def_ 29 rfl
  g_enough_counts := He.glo_ok X G (c.fact 19 (f := .glo "enough_counts") rfl)
  d_first_hire := c.def_ 31 rfl
  g_first_hire := He.glo_ok X G (c.fact 21 (f := .glo "first_hire") rfl)
  d_grouping := c.def_ 27 rfl
  g_grouping := He.glo_ok X G (c.fact 17 (f := .glo "grouping") rfl)
  d_hire_crew := c.def_ 19 rfl
  g_hire_crew := He.glo_ok X G (c.fact 9 (f := .glo "hire_crew") rfl)
  d_hire_order := c.def_ 30 rfl
  g_hire_order := He.glo_ok X G (c.fact 20 (f := .glo "hire_order") rfl)
  d_hire_price := c.def_ 18 rfl
  g_hire_price := He.glo_ok X G (c.fact 8 (f := .glo "hire_price") rfl)
  d_hires := c.def_ 23 rfl
  g_hires := He.glo_ok X G (c.fact 13 (f := .glo "hires") rfl)
  d_is_enough := c.def_ 28 rfl
  g_is_enough := He.glo_ok X G (c.fact 18 (f := .glo "is_enough") rfl)
  d_is_kind := c.def_ 4 rfl
  g_is_kind := He.glo_ok X G (c.fact 6 (f := .glo "is_kind") rfl)
  d_law := c.def_ 49 rfl
  g_law := He.glo_ok X G (c.fact 39 (f := .glo "law") rfl)
  d_named_groups := c.def_ 25 rfl
  g_named_groups := He.glo_ok X G (c.fact 15 (f := .glo "named_groups") rfl)
  d_needed_strength := c.def_ 21 rfl
  g_needed_strength := He.glo_ok X G (c.fact 11 (f := .glo "needed_strength") rfl)
  d_open_grouping := c.def_ 26 rfl
  g_open_grouping := He.glo_ok X G (c.fact 16 (f := .glo "open_grouping") rfl)
  d_partitions := c.def_ 22 rfl
  g_partitions := He.glo_ok X G (c.fact 12 (f := .glo "partitions") rfl)
  d_price_bound := c.def_ 34 rfl
  g_price_bound := He.glo_ok X G (c.fact 24 (f := .glo "price_bound") rfl)
  d_worth_price := c.def_ 33 rfl
  g_worth_price := He.glo_ok X G (c.fact 23 (f := .glo "worth_price") rfl)
  m_all := He.free_ok X G (c.fact 41 (f := .free "all") rfl)
  m_bool := He.free_ok X G (c.fact 42 (f := .free "bool") rfl)
  m_dict := He.free_ok X G (c.fact 43 (f := .free "dict") rfl)
  m_enumerate := He.free_ok X G (c.fact 44 (f := .free "enumerate") rfl)
  m_int := He.free_ok X G (c.fact 45 (f := .free "int") rfl)
  m_isinstance := He.free_ok X G (c.fact 46 (f := .free "isinstance") rfl)
  m_len := He.free_ok X G (c.fact 47 (f := .free "len") rfl)
  m_list := He.free_ok X G (c.fact 48 (f := .free "list") rfl)
  m_max := He.free_ok X G (c.fact 49 (f := .free "max") rfl)
  m_min := He.free_ok X G (c.fact 50 (f := .free "min") rfl)
  m_range := He.free_ok X G (c.fact 51 (f := .free "range") rfl)
  m_sorted := He.free_ok X G (c.fact 52 (f := .free "sorted") rfl)
  m_sum := He.free_ok X G (c.fact 53 (f := .free "sum") rfl)
  m_tuple := He.free_ok X G (c.fact 54 (f := .free "tuple") rfl)
  m_zip := He.free_ok X G (c.fact 55 (f := .free "zip") rfl)
  v_GREATEST_NUMBER := He.int_ok X G (c.fact 56 (f := .int "GREATEST_NUMBER" 9) rfl)
  v_GREATEST_PRICE := He.int_ok X G (c.fact 58 (f := .int "GREATEST_PRICE" 999) rfl)
  v_MOST_HIRED := He.int_ok X G (c.fact 57 (f := .int "MOST_HIRED" 9) rfl)
  me_Crew_of_kind := He.meth_ok (c.fact 63 (f := .meth "Crew" "of_kind") rfl)
  me_Crew_slack := He.meth_ok (c.fact 62 (f := .meth "Crew" "slack") rfl)
  me_Crew_slacks := He.meth_ok (c.fact 65 (f := .meth "Crew" "slacks") rfl)
  me_Crew_strength := He.meth_ok (c.fact 69 (f := .meth "Crew" "strength") rfl)
  mk_Crew := He.mkr_ok (c.fact 60 (f := .mkr "Crew") rfl)
  g_Crew := He.glo_ok X G (c.fact 7 (f := .glo "Crew") rfl)
  cf_hands := fun q hq => by rw [List.mem_singleton.mp hq]; exact ⟨He.cls_ok (c.fact 59 (f := .cls "Crew") rfl), He.noat_ok (c.fact 75 (f := .noat "Crew" "hands") rfl)⟩
  cf_kinds := fun q hq => by rw [List.mem_singleton.mp hq]; exact ⟨He.cls_ok (c.fact 59 (f := .cls "Crew") rfl), He.noat_ok (c.fact 76 (f := .noat "Crew" "kinds") rfl)⟩
  cf_members := fun q hq => by rw [List.mem_singleton.mp hq]; exact ⟨He.cls_ok (c.fact 59 (f := .cls "Crew") rfl), He.noat_ok (c.fact 77 (f := .noat "Crew" "members") rfl)⟩
  cf_peeks := fun q hq => by rw [List.mem_singleton.mp hq]; exact ⟨He.cls_ok (c.fact 59 (f := .cls "Crew") rfl), He.noat_ok (c.fact 78 (f := .noat "Crew" "peeks") rfl)⟩
theorem end_law (T : Tx K mg) {fd : FuncData} (FD : FunD K "law" "law" (defArgs (top 48)) (defBody (top 48)) (defScope (top 48)) [] [] (He.fAd K ("law", none)) fd) : FnOk P w K mg base (L2.CX P w) 9 (He.fAd K ("law", none)) fd ["script"] (spD K 1 F_law) := by
  have nd := sc_law.nd
  exact fnok FD sc_law (fun cdv A outer s H E hr => by
    unfold S_law L_law_4 L_law_3 L_law_2 B_law_1
    exact (dss_cons (ds_set 1 nd (de_call (ok__law_digits T) (hr.mono (by decide)) rfl (da_cons (de_call (ok__law_cell T) (hr.mono (by decide)) rfl (da_cons (de_name 0) (da_cons de_int da_nil))) (da_cons (de_add (DF.p (df_lst (da_cons de_int (da_cons de_int (da_cons de_int (da_cons de_int (da_cons de_int da_nil))))))) (DF.p (df_rep (df_lst (da_cons de_int (da_cons de_int (da_cons de_int (da_cons de_int da_nil))))) (DE.p de_int)))) da_nil))))
      (dss_cons (ds_new 2 nd (df_lst da_nil))
      (dss_cons (ds_for (vs := [3]) .never rfl (di_range1 rfl T.m_range (da_cons (de_add (DE.p de_int) (DE.p (de_ix (dp_name 1) (DE.p de_int)))) da_nil)) (dg_name 3 nd) (dss_cons (ds_set 11 nd (de_slice (dp_name 1) (do_some (de_add (DE.p de_int) (DE.p (de_mul (DE.p de_int) (dp_name 3))))) (do_some (de_add (DE.p de_int) (DE.p (de_mul (DE.p de_int) (dp_name 3)))))))
      (dss_cons (ds_set 12 nd (de_ix (DF.p (df_lst (da_cons (DF.toE (df_lst (da_cons de_int (da_cons de_int da_nil)))) (da_cons (DF.toE (df_lst (da_cons de_int (da_cons de_int da_nil)))) (da_cons (DF.toE (df_lst (da_cons de_int (da_cons de_int da_nil)))) (da_cons (DF.toE (df_lst (da_cons de_int (da_cons de_int da_nil)))) (da_cons (DF.toE (df_lst (da_cons de_int (da_cons de_int da_nil)))) (da_cons (DF.toE (df_lst (da_cons de_int (da_cons de_int da_nil)))) (da_cons (DF.toE (df_lst (da_cons de_int (da_cons de_int da_nil)))) (da_cons (DF.toE (df_lst (da_cons de_int (da_cons de_int da_nil)))) (da_cons (DF.toE (df_lst (da_cons de_int (da_cons de_int da_nil)))) (da_cons (DF.toE (df_lst (da_cons de_int (da_cons de_int da_nil)))) (da_cons (DF.toE (df_lst (da_cons de_int (da_cons de_int da_nil)))) (da_cons (DF.toE (df_lst (da_cons de_int (da_cons de_int da_nil)))) da_nil)))))))))))))) (DE.p (de_ix (dp_name 11) (DE.p de_int)))))
      (dss_cons (ds_set 13 nd (de_ix (dp_name 11) (DE.p de_int)))
      (dss_cons (ds_if (dt_eq hr (DE.p (de_ix (dp_name 11) (DE.p de_int))) (DE.p de_int)) (dss_one (ds_set 13 nd (de_mod (DE.p (de_ix (dp_name 11) (DE.p de_int))) (DE.p de_int)))) dss_nil)
      (dss_one (ds_append 2 (pe_bm PySem.F.plainAttrs_list PySem.F.slot_list_append PySem.F.type_list_append mt_append (pv 2) (DAr.run (da_cons (DF.toE (df_lst (da_cons (de_name 13) (da_cons (de_max2 rfl rfl T.m_max (DE.p (de_ix (dp_name 11) (DE.p de_int))) (DE.p (de_ix (DF.p (df_lst (da_cons de_int (da_cons de_int da_nil)))) (DE.p (de_intOf rfl T.m_int (DE.p (de_gt (DE.p (de_ix (dp_name 11) (DE.p de_int))) (DE.p de_int)))))))) (da_cons (de_ix (dp_name 12) (DE.p de_int)) (da_cons (de_ix (dp_name 12) (DE.p de_int)) da_nil)))))) da_nil))))))))))
      (dss_cons (ds_set 4 nd (de_add (DE.p de_int) (DE.p (de_ix (dp_name 1) (DE.p de_int)))))
      (dss_cons (ds_set 5 nd (de_add (DE.p de_int) (DE.p (de_ix (dp_name 1) (DE.p de_int)))))
      (dss_cons (ds_set 6 nd (de_ix (DF.p (df_lst (da_cons de_int (da_cons de_int (da_cons de_int (da_cons de_int (da_cons de_int (da_cons de_int (da_cons de_int (da_cons de_int da_nil)))))))))) (DE.p (de_ix (dp_name 1) (DE.p de_int)))))
      (dss_cons (ds_frz [2] (ds_set 7 nd (de_call (ok__law_enough_counts T) (hr.mono (by decide)) rfl (da_cons (de_name 4) (da_cons (de_name 5) (da_cons (de_name 6) (da_cons (de_name 2) da_nil)))))))
      (dss_cons (ds_frz [2] (ds_set 8 nd (de_call (ok__law_best T) (hr.mono (by decide)) rfl (da_cons (de_name 2) (da_cons (de_name 7) da_nil)))))
      (dss_cons (ds_frz [2] (ds_set 9 nd (de_call (ok_cheapest T) (hr.mono (by decide)) rfl (da_cons (de_name 4) (da_cons (de_name 5) (da_cons (de_name 6) (da_cons (DF.toE (df_lc rfl nd (own := [("offer", 14)]) (di_seq (de_name 2)) (by show BlkOk N_law (defScope (top 48)) _ _; exact ⟨rfl, by decide +kernel, by decide +kernel, by decide +kernel, by decide +kernel⟩) (fun _ _ _ _ _ => (dg_name 14 nd)) (fun _ _ _ _ _ => dts_nil) (fun _ _ _ _ _ => (DF.toE (df_listOf rfl T.m_list (dp_name 14)))))) da_nil)))))))
      (dss_cons (ds_if (DW.t (dw_or (dt_isN (dp_name 8)) (dw_or1 (dt_isN (dp_name 9))))) (dss_one (ds_if (DW.t (dw_or (dt_notN (dp_name 8)) (dw_or1 (dt_notN (dp_name 9))))) (dss_one (ds_ret de_bl)) dss_nil)) (dss_cons (ds_if (DW.t (dw_or (dt_not (dt_val (DE.p (de_isi rfl T.m_isinstance (dp_name 9) (DE.p (de_type (n := "tuple") rfl T.m_tuple (by decide +kernel))))))) (dw_or1 (dt_ne hr (DF.p (df_listOf rfl T.m_list (dp_name 9))) (DE.p (de_ix (dp_name 8) (DE.p de_int))))))) (dss_one (ds_ret de_bl)) dss_nil)
      (dss_one (ds_frz [2] (ds_if (DW.t (dw_or (dt_ne hr (DE.p (de_call (ok_hire_price T) (hr.mono (by decide)) rfl (da_cons (de_name 2) (da_cons (de_name 9) da_nil)))) (DE.p (de_ix (dp_name 8) (DE.p de_int)))) (dw_or1 (dt_not (dt_val (DE.p (de_call (ok__law_crew_right T) (hr.mono (by decide)) rfl (da_cons (de_name 2) (da_cons (de_name 9) (da_cons (de_name 6) da_nil)))))))))) (dss_one (ds_ret de_bl)) dss_nil)))))
      (dss_cons (ds_frz [2] (ds_new 10 nd (df_lc rfl nd (own := [("offer", 14)]) (di_seq (de_name 2)) (by show BlkOk N_law (defScope (top 48)) _ _; exact ⟨rfl, by decide +kernel, by decide +kernel, by decide +kernel, by decide +kernel⟩) (fun _ _ _ _ _ => (dg_name 14 nd)) (fun _ _ _ _ _ => dts_nil) (fun _ _ _ _ _ => (de_min2 rfl rfl T.m_min (DE.p (de_ix (dp_name 14) (DE.p de_int))) (DE.p de_int))))))
      (dss_cons (ds_frz [2, 10] (ds_if (dt_ne hr (DE.p (de_call (ok_hire_price T) (hr.mono (by decide)) rfl (da_cons (de_name 2) (da_cons (de_name 10) da_nil)))) (DE.p (de_sum rfl rfl T.m_sum (DF.p (df_lc rfl nd (own := [("k", 3)]) (di_range1 rfl T.m_range (da_cons (de_len rfl T.m_len (dp_name 2)) da_nil)) (by show BlkOk N_law (defScope (top 48)) _ _; exact ⟨rfl, by decide +kernel, by decide +kernel, by decide +kernel, by decide +kernel⟩) (fun _ _ _ _ _ => (dg_name 3 nd)) (fun _ _ _ _ _ => dts_nil) (fun _ _ _ _ _ => (de_mul (DE.p (de_ix (DE.p (de_ix (dp_name 2) (dp_name 3))) (DE.p de_int))) (DE.p (de_ix (dp_name 10) (dp_name 3)))))))))) (dss_one (ds_ret de_bl)) dss_nil))
      (dss_cons (ds_frz [2, 10] (ds_if (dt_not (dt_val (DE.p (de_call (ok__law_crew_right T) (hr.mono (by decide)) rfl (da_cons (de_name 2) (da_cons (de_name 10) (da_cons (de_name 6) da_nil))))))) (dss_one (ds_ret de_bl)) dss_nil))
      (dss_one (ds_frz [2] (ds_ret (de_call (ok__law_bound_right T) (hr.mono (by decide)) rfl (da_cons (de_name 4) (da_cons (de_name 5) (da_cons (de_name 6) (da_cons (de_name 2) (da_cons (de_name 7) (da_cons (de_mod (DE.p (de_ix (dp_name 1) (DE.p de_int))) (DE.p (de_len rfl T.m_len (dp_name 2)))) da_nil))))))))))))))))))))))))
end
theorem repL_ns {K : PySem.W.Frag} (H : Hp) : ∀ ns : List Int, RepL K H (ns.map D.int) (ns.map V.int)
  | [] => .nil
  | n :: ns => .cons (rep_int.mpr rfl) (repL_ns H ns)
theorem sp_law {K : PySem.W.Frag} (H : Hp) (a : Addr) (ns : List Int) (hS : SqL K H a (ns.map V.int)) : spD K 1 F_law [.ref a] H (fun v _ => v = .bl true) fun _ _ _ => False := by
  have r : Rep K H (lI ns) (.ref a) := rep_lst.mpr ⟨a, _, rfl, hS, repL_ns H ns⟩
  exact ⟨H, [lI ns], .bl true, fun _ _ h => h, .cons r .nil, rfl, law_eq ns, fun v G' H' _ q => rep_bl.mp q⟩
end K75
namespace K75
open PySem PySem.Spec PyProof.Rows L2 DL
abbrev R : PySem.W.OpenRow := PySem.W.OpenLaw.row PySem.Challenge.rw_hiredhands_k75_cheapest_whole
abbrev hk : PySem.W.Hook := He.hookD 6 fa fn
def ob (s : PySem.W.SharedT) : He.AlD := He.obsDG 6 fa fn (HandSHeadRun.getT s)
theorem ob_eq (s : PySem.W.SharedT) : ob s = hk.obs s.abs := He.obsDG_eq (HandSHeadRun.getT_eq s)
theorem run (w : World) : HandSHeadRun.RunEq R (PySem.W.view R.prog [48]) hk ob 4000 loose w := by
  intro os
  kernel_rfl
/-- walk_ofE with a call context that may name the world -/
theorem walk_ofW {l : PySem.W.OpenLaw} {n k : Nat} {q : Program} {loose : List Str} {XP : (Str → Option Value) → Heap → Prop} {YP : World → Heap → Prop} {d : DefRec} {CX : World → CXT} {x : Str}
    (hn : l.most = some n) (hn2 : n ≤ sizeLine) (hdf : d.params.defaults = []) (hr : Room k callerA)
    (F : ∀ (w : World) (mg : Str → Option Value) (fa : Addr) (h : Heap), YP w h → h.Ns mainGlobals mg → mg d.name = some (.ref fa) →
      ∃ (K : PySem.W.Frag) (fd : FuncData) (sp : Sp), K.In h ∧ (∀ (s : Shared) (u : Value), BindsTo s fd ⟨[u], []⟩ [(x, u)]) ∧
        (∀ (H : Hp) (a : Addr) (ns : List Int), ns.length ≤ n → Only H → SqL K H a (ns.map V.int) → sp [.ref a] H (fun v _ => v = .bl true) fun _ _ _ => False) ∧
        ∀ base : Heap, K.In base → base.Ns mainGlobals mg → FnOk l.prog w K mg base (CX w) k fa fd [x] sp)
    (hCX : ∀ (w : World) (H : Hp) (s : Shared) (e : Value) (s' : Shared), CX w [] H s (fun _ _ _ => False) e s' → False) :
    PySem.W.WalkO q loose XP YP l.row.toRowW d [] (fun f vs => PySem.call f vs) := by
  refine Att.attach_call hn hdf fun w s₀ s₁ mg mb fa o pm cd doc a vs ns G Y ho hd hcd hmg hobj hints hlen hg => ?_
  obtain ⟨K, fd, sp, KX, hb, hsp, hF⟩ := F w mg fa _ Y G.T.g hmg
  exact law_call KX G.T.g G.T.b G.T.builtins G.T.nolimit hg hobj hints (Nat.le_trans hlen hn2) hr hF hb (fun H hO hS => hsp H a ns hlen hO hS) fun H e s' => hCX w H s₁ e s'
end K75
open PySem PySem.W PySem.Calls PyProof.Rows
theorem PySem.Challenge.cw_hiredhands_k75_cheapest_whole_holds : PySem.Challenge.rw_hiredhands_k75_cheapest_whole.Holds := by
  w_on; o_law
  refine HandSHeadRun.head_any (r := OpenLaw.row PySem.Challenge.rw_hiredhands_k75_cheapest_whole) (q := view (OpenLaw.row PySem.Challenge.rw_hiredhands_k75_cheapest_whole).prog [48]) (H := K75.hk) (ob := K75.ob) (M := 4000) (loose := K75.loose) (d := HandSHeadRun.topDef (OpenLaw.row PySem.Challenge.rw_hiredhands_k75_cheapest_whole).prog 48) (kwd := []) K75.ob_eq
    (by kernel_rfl) (fun s => by kernel_rfl) K75.run (by kernel_rfl) (by kernel_rfl) (by kernel_rfl) (by rfl) (by first | assumption | decide +kernel) (by decide +kernel) ⟨rfl, rfl, rfl, rfl, rfl, by decide +kernel⟩ ?hw ?hc
  case hw => w_witness2
  case hc =>
    refine K75.walk_ofW (l := PySem.Challenge.rw_hiredhands_k75_cheapest_whole) (n := 63) (k := 9) (x := "script") (CX := fun w => L2.CX (PySem.Challenge.rw_hiredhands_k75_cheapest_whole).prog w) rfl (by decide) (by kernel_rfl) ⟨rfl, by decide, by decide⟩ ?F (fun w H s e s' z => by
      obtain ⟨_, _, _, _, _, _, _, _, _, _, _, _, z⟩ := z
      exact z)
    intro w mg fa h Y G hmg0
    obtain ⟨K, KX, c⟩ := Y
    have hmg : mg ("law" : PySem.Str) = some (.ref fa) := by
      have e : (HandSHeadRun.topDef (OpenLaw.row PySem.Challenge.rw_hiredhands_k75_cheapest_whole).prog 48).name = ("law" : PySem.Str) := by kernel_rfl
      rw [← e]
      exact hmg0
    have T := K75.tx KX G c
    obtain ⟨fd, FD⟩ := T.d_law
    have e : fa = He.fAd K ("law", none) := by
      have := hmg.symm.trans T.g_law
      cases this
      rfl
    subst e
    refine ⟨K, fd, DL.spD K 1 K75.F_law, KX, fun s v => L2.FunD.bindsA (ps := ["script"]) FD (fun _ _ _ _ _ _ us hl => match us, hl with | [_], _ => rfl) s [v] rfl, fun H a ns hl _ hS => K75.sp_law H a ns hS, fun base _ _ => K75.end_law T FD⟩
