import PyProof.Rows.All
import Wide.All
import OpenK.AllK
import Wide.FinOn
import HandS.ForMost
import HandS.IsInst
import HandS.Wide
import HandS.TupAny
import HandS.TupMul
import HandS.Conv
import HandS.Deep
import HandS.Zip
import HandS.Flow
import HandS.Style
import KE.KDictPairs
import PySem.Challenge.RW_closedhand_k02_sums
set_option Elab.async false
set_option linter.all false
set_option maxRecDepth 100000
set_option maxHeartbeats 4000000
set_option autoImplicit false
namespace CH
open PySem PySem.Spec L2

/-! ## data -/
inductive D where
  | non | bl (b : Bool) | int (i : Int) | str (x : Str)
  | tup (xs : List D) | lst (xs : List D) | dct (kvs : List (D × D)) | ins (c : Nat) (fs : List (Str × D))
/-- what a slot holds: a value that never changes, or a tree of own objects -/
inductive O where
  | val (d : D) | lst (xs : List O) | tup (xs : List O) | dct (kvs : List (D × D)) | ins (c : Nat) (fs : List (Str × O))

inductive Res (α : Type) where
  | ok (a : α) | err (c : Nat) | stuck
def Res.bind {α β : Type} (r : Res α) (f : α → Res β) : Res β := match r with
  | .ok a => f a
  | .err c => .err c
  | .stuck => .stuck
@[simp] theorem Res.bind_ok {α β : Type} (a : α) (f : α → Res β) : (Res.ok a).bind f = f a := rfl
@[simp] theorem Res.bind_err {α β : Type} (c : Nat) (f : α → Res β) : (Res.err c : Res α).bind f = .err c := rfl
@[simp] theorem Res.bind_stuck {α β : Type} (f : α → Res β) : (Res.stuck : Res α).bind f = .stuck := rfl
/-- where no error may leave -/
def Res.calm {α : Type} : Res α → Res α
  | .err _ => .stuck
  | r => r
@[simp] theorem Res.calm_ok {α : Type} (a : α) : (Res.ok a).calm = .ok a := rfl

abbrev Env := List (Option O)
abbrev ME := Env → Res D

/-! ## what represents a datum -/
def dKey : Key → D
  | .inl i => .int i
  | .inr x => .str x
/-- a tuple whose object is known to bear no dict -/
def Tp (K : PySem.W.Frag) (F : Hp) (a : Addr) (vs : List V) : Prop := (∃ o : Obj, F a = some (.frz o (.tup vs)) ∧ o.dict = none) ∨
  ∃ (o : Obj) (its : Array Value) (n : Nat), K.lookup a = some o ∧ o.cls = .type "tuple" ∧ o.dict = none ∧ o.data = .seq its n ∧ its.size ≤ sizeLine ∧ Vals vs its.toList
theorem Tp.sq {K : PySem.W.Frag} {F : Hp} {a : Addr} {vs : List V} (h : Tp K F a vs) : SqT K F a vs := by
  rcases h with ⟨o, h, _⟩ | ⟨o, its, n, h1, h2, _, h3⟩
  · exact .inl (.inr ⟨o, h⟩)
  · exact .inr ⟨o, its, n, h1, h2, h3⟩
mutual
inductive Rep (K : PySem.W.Frag) (cl : Nat → Addr) (F : Hp) : V → D → Prop
  | non : Rep K cl F .non .non
  | bl (b : Bool) : Rep K cl F (.bl b) (.bl b)
  | int (i : Int) : Rep K cl F (.int i) (.int i)
  | str (x : Str) : Rep K cl F (.str x) (.str x)
  | tup {a : Addr} {vs : List V} {ds : List D} : Tp K F a vs → RepL K cl F vs ds → Rep K cl F (.ref a) (.tup ds)
  | lst {a : Addr} {vs : List V} {ds : List D} : SqL K F a vs → RepL K cl F vs ds → Rep K cl F (.ref a) (.lst ds)
  | dct {a : Addr} {kvs : List (Key × V)} {ds : List (D × D)} : Rd F a (.dK kvs) → RepD K cl F kvs ds → Rep K cl F (.ref a) (.dct ds)
  | ins {a dx : Addr} {c : Nat} {fs : List (Str × V)} {ds : List (Str × D)} : F a = some (.ins (cl c) dx fs) → RepF K cl F fs ds → Rep K cl F (.ref a) (.ins c ds)
inductive RepL (K : PySem.W.Frag) (cl : Nat → Addr) (F : Hp) : List V → List D → Prop
  | nil : RepL K cl F [] []
  | cons {v : V} {d : D} {vs : List V} {ds : List D} : Rep K cl F v d → RepL K cl F vs ds → RepL K cl F (v :: vs) (d :: ds)
inductive RepD (K : PySem.W.Frag) (cl : Nat → Addr) (F : Hp) : List (Key × V) → List (D × D) → Prop
  | nil : RepD K cl F [] []
  | cons {k : Key} {v : V} {d : D} {vs : List (Key × V)} {ds : List (D × D)} : Rep K cl F v d → RepD K cl F vs ds → RepD K cl F ((k, v) :: vs) ((dKey k, d) :: ds)
inductive RepF (K : PySem.W.Frag) (cl : Nat → Addr) (F : Hp) : List (Str × V) → List (Str × D) → Prop
  | nil : RepF K cl F [] []
  | cons {x : Str} {v : V} {d : D} {vs : List (Str × V)} {ds : List (Str × D)} : Rep K cl F v d → RepF K cl F vs ds → RepF K cl F ((x, v) :: vs) ((x, d) :: ds)
end

theorem Same.rd {H H' : Hp} {a : Addr} {u : HO} (e : Same H H') (h : Rd H a u) : Rd H' a u := by
  rcases h with h | ⟨o, h⟩
  · exact .inl (e _ _ h)
  · exact .inr ⟨o, e _ _ h⟩
theorem Same.sqt {K : PySem.W.Frag} {H H' : Hp} {a : Addr} {xs : List V} (e : Same H H') (h : SqT K H a xs) : SqT K H' a xs := by
  rcases h with h | h
  · exact .inl (Same.rd e h)
  · exact .inr h
theorem Same.tp {K : PySem.W.Frag} {H H' : Hp} {a : Addr} {xs : List V} (e : Same H H') (h : Tp K H a xs) : Tp K H' a xs := by
  rcases h with ⟨o, h, z⟩ | h
  · exact .inl ⟨o, e _ _ h, z⟩
  · exact .inr h
theorem Same.sql {K : PySem.W.Frag} {H H' : Hp} {a : Addr} {xs : List V} (e : Same H H') (h : SqL K H a xs) : SqL K H' a xs := Same.seq e h

section
variable {K : PySem.W.Frag} {cl : Nat → Addr} {F F' : Hp}
mutual
theorem Rep.mono (s : Same F F') : ∀ {v : V} {d : D}, Rep K cl F v d → Rep K cl F' v d
  | _, _, .non => .non
  | _, _, .bl b => .bl b
  | _, _, .int i => .int i
  | _, _, .str x => .str x
  | _, _, .tup h r => .tup (Same.tp s h) (RepL.mono s r)
  | _, _, .lst h r => .lst (Same.sql s h) (RepL.mono s r)
  | _, _, .dct h r => .dct (Same.rd s h) (RepD.mono s r)
  | _, _, .ins h r => .ins (s _ _ h) (RepF.mono s r)
theorem RepL.mono (s : Same F F') : ∀ {vs : List V} {ds : List D}, RepL K cl F vs ds → RepL K cl F' vs ds
  | _, _, .nil => .nil
  | _, _, .cons h r => .cons (Rep.mono s h) (RepL.mono s r)
theorem RepD.mono (s : Same F F') : ∀ {vs : List (Key × V)} {ds : List (D × D)}, RepD K cl F vs ds → RepD K cl F' vs ds
  | _, _, .nil => .nil
  | _, _, .cons h r => .cons (Rep.mono s h) (RepD.mono s r)
theorem RepF.mono (s : Same F F') : ∀ {vs : List (Str × V)} {ds : List (Str × D)}, RepF K cl F vs ds → RepF K cl F' vs ds
  | _, _, .nil => .nil
  | _, _, .cons h r => .cons (Rep.mono s h) (RepF.mono s r)
end
theorem RepL.length : ∀ {vs : List V} {ds : List D}, RepL K cl F vs ds → vs.length = ds.length
  | _, _, .nil => rfl
  | _, _, .cons _ r => by rw [List.length_cons, List.length_cons, RepL.length r]
theorem RepL.get : ∀ {vs : List V} {ds : List D} {i : Nat} {d : D}, RepL K cl F vs ds → ds[i]? = some d → ∃ v, vs[i]? = some v ∧ Rep K cl F v d
  | _, _, _, _, .nil, e => by simp at e
  | _, _, 0, _, .cons h _, e => by simp at e; subst e; exact ⟨_, rfl, h⟩
  | _, _, i + 1, _, .cons _ r, e => by
    obtain ⟨v, h1, h2⟩ := RepL.get (i := i) r (by simpa using e)
    exact ⟨v, by simpa using h1, h2⟩
theorem RepL.append : ∀ {vs ws : List V} {ds es : List D}, RepL K cl F vs ds → RepL K cl F ws es → RepL K cl F (vs ++ ws) (ds ++ es)
  | _, _, _, _, .nil, s => s
  | _, _, _, _, .cons h r, s => .cons h (RepL.append r s)
theorem RepL.drop : ∀ {vs : List V} {ds : List D} (n : Nat), RepL K cl F vs ds → RepL K cl F (vs.drop n) (ds.drop n)
  | _, _, 0, r => r
  | _, _, _ + 1, .nil => .nil
  | _, _, n + 1, .cons _ r => RepL.drop n r
theorem RepL.take : ∀ {vs : List V} {ds : List D} (n : Nat), RepL K cl F vs ds → RepL K cl F (vs.take n) (ds.take n)
  | _, _, 0, _ => .nil
  | _, _, _ + 1, .nil => .nil
  | _, _, n + 1, .cons h r => .cons h (RepL.take n r)
theorem RepL.reverse : ∀ {vs : List V} {ds : List D}, RepL K cl F vs ds → RepL K cl F vs.reverse ds.reverse
  | _, _, .nil => .nil
  | _, _, .cons h r => by
    rw [List.reverse_cons, List.reverse_cons]
    exact (RepL.reverse r).append (.cons h .nil)
theorem RepL.getV : ∀ {vs : List V} {ds : List D} {i : Nat} {v : V}, RepL K cl F vs ds → vs[i]? = some v → ∃ d, ds[i]? = some d ∧ Rep K cl F v d
  | _, _, _, _, .nil, e => by simp at e
  | _, _, 0, _, .cons h _, e => by simp at e; subst e; exact ⟨_, rfl, h⟩
  | _, _, i + 1, _, .cons _ r, e => by
    obtain ⟨v, h1, h2⟩ := RepL.getV (i := i) r (by simpa using e)
    exact ⟨v, by simpa using h1, h2⟩
end

/-! ## containers that may be own ones: the items never change -/
def RepB (K : PySem.W.Frag) (cl : Nat → Addr) (F H : Hp) (v : V) : D → Prop
  | .lst ds => ∃ a vs, v = .ref a ∧ SqL K H a vs ∧ RepL K cl F vs ds
  | .dct ds => ∃ a kvs, v = .ref a ∧ Rd H a (.dK kvs) ∧ RepD K cl F kvs ds
  | d => Rep K cl F v d
section
variable {K : PySem.W.Frag} {cl : Nat → Addr} {F F' H H' : Hp}
theorem Rep.toB {v : V} {d : D} (s : Same F H) (h : Rep K cl F v d) : RepB K cl F H v d := by
  cases d with
  | lst ds => cases h with | lst h r => exact ⟨_, _, rfl, Same.sql s h, r⟩
  | dct ds => cases h with | dct h r => exact ⟨_, _, rfl, Same.rd s h, r⟩
  | _ => exact h
theorem RepB.mono {v : V} {d : D} (s : Same F F') (t : Same H H') (h : RepB K cl F H v d) : RepB K cl F' H' v d := by
  cases d with
  | lst ds => obtain ⟨a, vs, e, h, r⟩ := h; exact ⟨a, vs, e, Same.sql t h, r.mono s⟩
  | dct ds => obtain ⟨a, vs, e, h, r⟩ := h; exact ⟨a, vs, e, Same.rd t h, r.mono s⟩
  | non => exact Rep.mono s h
  | bl _ => exact Rep.mono s h
  | int _ => exact Rep.mono s h
  | str _ => exact Rep.mono s h
  | tup _ => exact Rep.mono s h
  | ins _ _ => exact Rep.mono s h
end

/-! ## the frozen part and how it grows -/
/-- every tuple is frozen -/
def isT : HO → Bool
  | .tup _ => true
  | .frz _ (.tup _) => true
  | _ => false
def TupC (F H : Hp) : Prop := ∀ a u, H a = some u → isT u = true → F a = some u
structure Grow (F H F' H' : Hp) : Prop where
  sub : Same F' H'
  tups : TupC F' H'
  hh : Same H H'
  old : ∀ a o, H a = some o → F' a = F a
theorem Grow.ff {F H F' H' : Hp} (g : Grow F H F' H') (s : Same F H) : Same F F' := fun a o e => by
  rw [g.old a o (s a o e)]; exact e
theorem Grow.refl {F H : Hp} (s : Same F H) (t : TupC F H) : Grow F H F H := ⟨s, t, Same.refl H, fun _ _ _ => rfl⟩
theorem Grow.trans {F H F1 H1 F2 H2 : Hp} (a : Grow F H F1 H1) (b : Grow F1 H1 F2 H2) : Grow F H F2 H2 :=
  ⟨b.sub, b.tups, a.hh.trans b.hh, fun c o e => (b.old c o (a.hh c o e)).trans (a.old c o e)⟩
/-- a new frozen object -/
theorem Grow.new {F H : Hp} {p : Addr} {o : HO} (s : Same F H) (t : TupC F H) (n : H p = none) : Grow F H (upd F p o) (upd H p o) := by
  have nf : F p = none := s.free n
  refine ⟨fun a u e => ?_, fun a u e z => ?_, fun a u e => ?_, fun a u e => ?_⟩
  · by_cases h : a = p
    · subst h; rw [upd_same] at e ⊢; exact e
    · rw [upd_ne h] at e ⊢; exact s a u e
  · by_cases h : a = p
    · subst h; rw [upd_same] at e ⊢; exact e
    · rw [upd_ne h] at e ⊢; exact t a u e z
  · rw [upd_ne (ne_of_none e n)]; exact e
  · rw [upd_ne (ne_of_none e n)]
/-- a new object that is not frozen (no tuple) -/
theorem Grow.own {F H : Hp} {p : Addr} {o : HO} (s : Same F H) (t : TupC F H) (n : H p = none) (nt : isT o = false) : Grow F H F (upd H p o) := by
  refine ⟨fun a u e => ?_, fun a u e z => ?_, fun a u e => ?_, fun a u e => rfl⟩
  · rw [upd_ne (ne_of_none (s a u e) n)]; exact s a u e
  · by_cases h : a = p
    · subst h; rw [upd_same] at e; cases e; rw [nt] at z; cases z
    · rw [upd_ne h] at e; exact t a u e z
  · rw [upd_ne (ne_of_none e n)]; exact e

/-! ## own trees -/
mutual
inductive Own (K : PySem.W.Frag) (cl : Nat → Addr) (F H : Hp) : V → O → List Addr → Prop
  | val {v : V} {d : D} : Rep K cl F v d → Own K cl F H v (.val d) []
  | lst {a : Addr} {vs : List V} {os : List O} {fp : List Addr} : H a = some (.lst vs) → OwnL K cl F H vs os fp → Own K cl F H (.ref a) (.lst os) (a :: fp)
  | tup {a : Addr} {vs : List V} {os : List O} {fp : List Addr} : Rd H a (.tup vs) → OwnL K cl F H vs os fp → Own K cl F H (.ref a) (.tup os) fp
  | dct {a : Addr} {kvs : List (Key × V)} {ds : List (D × D)} : H a = some (.dK kvs) → RepD K cl F kvs ds → Own K cl F H (.ref a) (.dct ds) [a]
  | ins {a dx : Addr} {c : Nat} {fs : List (Str × V)} {os : List (Str × O)} {fp : List Addr} : H a = some (.ins (cl c) dx fs) → OwnF K cl F H fs os fp → Own K cl F H (.ref a) (.ins c os) (a :: fp)
inductive OwnL (K : PySem.W.Frag) (cl : Nat → Addr) (F H : Hp) : List V → List O → List Addr → Prop
  | nil : OwnL K cl F H [] [] []
  | cons {v : V} {o : O} {vs : List V} {os : List O} {fp fq : List Addr} : Own K cl F H v o fp → OwnL K cl F H vs os fq → OwnL K cl F H (v :: vs) (o :: os) (fp ++ fq)
inductive OwnF (K : PySem.W.Frag) (cl : Nat → Addr) (F H : Hp) : List (Str × V) → List (Str × O) → List Addr → Prop
  | nil : OwnF K cl F H [] [] []
  | cons {x : Str} {v : V} {o : O} {vs : List (Str × V)} {os : List (Str × O)} {fp fq : List Addr} : Own K cl F H v o fp → OwnF K cl F H vs os fq → OwnF K cl F H ((x, v) :: vs) ((x, o) :: os) (fp ++ fq)
end
section
variable {K : PySem.W.Frag} {cl : Nat → Addr} {F H F' H' : Hp}
mutual
theorem Own.keep (s : Same F F') (t : ∀ a xs, Rd H a (.tup xs) → Rd H' a (.tup xs)) : ∀ {v : V} {o : O} {fp : List Addr}, Own K cl F H v o fp → (∀ a ∈ fp, H' a = H a) → Own K cl F' H' v o fp
  | _, _, _, .val h, _ => .val (h.mono s)
  | _, _, _, .lst h r, k => .lst ((k _ List.mem_cons_self).trans h) (OwnL.keep s t r fun a m => k a (List.mem_cons_of_mem _ m))
  | _, _, _, .tup h r, k => .tup (t _ _ h) (OwnL.keep s t r k)
  | _, _, _, .dct h r, k => .dct ((k _ List.mem_cons_self).trans h) (r.mono s)
  | _, _, _, .ins h r, k => .ins ((k _ List.mem_cons_self).trans h) (OwnF.keep s t r fun a m => k a (List.mem_cons_of_mem _ m))
theorem OwnL.keep (s : Same F F') (t : ∀ a xs, Rd H a (.tup xs) → Rd H' a (.tup xs)) : ∀ {vs : List V} {os : List O} {fp : List Addr}, OwnL K cl F H vs os fp → (∀ a ∈ fp, H' a = H a) → OwnL K cl F' H' vs os fp
  | _, _, _, .nil, _ => .nil
  | _, _, _, .cons h r, k => .cons (Own.keep s t h fun a m => k a (List.mem_append_left _ m)) (OwnL.keep s t r fun a m => k a (List.mem_append_right _ m))
theorem OwnF.keep (s : Same F F') (t : ∀ a xs, Rd H a (.tup xs) → Rd H' a (.tup xs)) : ∀ {vs : List (Str × V)} {os : List (Str × O)} {fp : List Addr}, OwnF K cl F H vs os fp → (∀ a ∈ fp, H' a = H a) → OwnF K cl F' H' vs os fp
  | _, _, _, .nil, _ => .nil
  | _, _, _, .cons h r, k => .cons (Own.keep s t h fun a m => k a (List.mem_append_left _ m)) (OwnF.keep s t r fun a m => k a (List.mem_append_right _ m))
end
mutual
theorem Own.there : ∀ {v : V} {o : O} {fp : List Addr}, Own K cl F H v o fp → ∀ a ∈ fp, ∃ u, H a = some u ∧ isT u = false
  | _, _, _, .val _, _, m => by simp at m
  | _, _, _, .lst h r, b, m => by
    rcases List.mem_cons.mp m with e | m
    · subst e; exact ⟨_, h, rfl⟩
    · exact OwnL.there r b m
  | _, _, _, .tup h r, b, m => OwnL.there r b m
  | _, _, _, .dct h r, b, m => by
    rcases List.mem_cons.mp m with e | m
    · subst e; exact ⟨_, h, rfl⟩
    · simp at m
  | _, _, _, .ins h r, b, m => by
    rcases List.mem_cons.mp m with e | m
    · subst e; exact ⟨_, h, rfl⟩
    · exact OwnF.there r b m
theorem OwnL.there : ∀ {vs : List V} {os : List O} {fp : List Addr}, OwnL K cl F H vs os fp → ∀ a ∈ fp, ∃ u, H a = some u ∧ isT u = false
  | _, _, _, .nil, _, m => by simp at m
  | _, _, _, .cons h r, b, m => by
    rcases List.mem_append.mp m with m | m
    · exact Own.there h b m
    · exact OwnL.there r b m
theorem OwnF.there : ∀ {vs : List (Str × V)} {os : List (Str × O)} {fp : List Addr}, OwnF K cl F H vs os fp → ∀ a ∈ fp, ∃ u, H a = some u ∧ isT u = false
  | _, _, _, .nil, _, m => by simp at m
  | _, _, _, .cons h r, b, m => by
    rcases List.mem_append.mp m with m | m
    · exact Own.there h b m
    · exact OwnF.there r b m
end
end

/-! ## the slots -/
/-- B: the addresses that stood at the def's entry and are not its own -/
structure Rel (K : PySem.W.Frag) (cl : Nat → Addr) (B : Hp) (F H : Hp) (σ : St) (ρ : Env) : Prop where
  sub : Same F H
  tups : TupC F H
  len : σ.length = ρ.length
  slots : ∃ fp : Nat → List Addr, (∀ i o, ρ[i]? = some (some o) → ∃ v, σ[i]? = some (some v) ∧ Own K cl F H v o (fp i)) ∧
    (∀ i, (fp i).Nodup) ∧ (∀ i j a, i ≠ j → a ∈ fp i → a ∉ fp j) ∧ ∀ i a, a ∈ fp i → F a = none ∧ B a = none ∧ ∃ u, H a = some u

section
variable {K : PySem.W.Frag} {cl : Nat → Addr} {B F H F' H' : Hp} {σ : St} {ρ : Env}
theorem Rel.grow (R : Rel K cl B F H σ ρ) (g : Grow F H F' H') : Rel K cl B F' H' σ ρ := by
  obtain ⟨fp, h1, h2, h3, h4⟩ := R.slots
  refine ⟨g.sub, g.tups, R.len, fp, fun i o e => ?_, h2, h3, fun i a m => ?_⟩
  · obtain ⟨v, e1, w⟩ := h1 i o e
    refine ⟨v, e1, w.keep (g.ff R.sub) (fun a xs q => Same.rd g.hh q) fun a m => ?_⟩
    obtain ⟨_, _, u, q⟩ := h4 i a m
    rw [q]; exact g.hh a u q
  · obtain ⟨p1, p2, u, q⟩ := h4 i a m
    exact ⟨(g.old a u q).trans p1, p2, u, g.hh a u q⟩
/-- a slot gets a value -/
theorem Rel.set (R : Rel K cl B F H σ ρ) {v : V} {d : D} (i : Nat) (r : Rep K cl F v d) : Rel K cl B F H (σ.set i (some v)) (ρ.set i (some (.val d))) := by
  obtain ⟨fp, h1, h2, h3, h4⟩ := R.slots
  refine ⟨R.sub, R.tups, by simp [R.len], fun j => if j = i then [] else fp j, fun j o e => ?_, fun j => ?_, fun j k a n m => ?_, fun j a m => ?_⟩
  · by_cases hj : j = i
    · subst hj
      have hl : j < ρ.length := by
        have := (List.getElem?_eq_some_iff.mp e).1
        simpa using this
      rw [List.getElem?_set_self hl] at e
      cases e
      exact ⟨v, by rw [List.getElem?_set_self (by rw [R.len]; exact hl)], by simp only [if_true]; exact .val r⟩
    · rw [List.getElem?_set_ne (Ne.symm hj)] at e
      obtain ⟨v', e1, w⟩ := h1 j o e
      exact ⟨v', by rw [List.getElem?_set_ne (Ne.symm hj)]; exact e1, by simp only [if_neg hj]; exact w⟩
  · by_cases hj : j = i
    · simp [hj]
    · simp only [if_neg hj]; exact h2 j
  · by_cases hj : j = i
    · simp [hj] at m
    · simp only [if_neg hj] at m
      by_cases hk : k = i
      · simp [hk]
      · simp only [if_neg hk]; exact h3 j k a n m
  · by_cases hj : j = i
    · simp [hj] at m
    · simp only [if_neg hj] at m
      exact h4 j a m
theorem Rel.get (R : Rel K cl B F H σ ρ) {i : Nat} {o : O} (e : ρ[i]? = some (some o)) : ∃ v fp, σ[i]? = some (some v) ∧ Own K cl F H v o fp := by
  obtain ⟨fp, h1, _⟩ := R.slots
  obtain ⟨v, e1, w⟩ := h1 i o e
  exact ⟨v, _, e1, w⟩
/-- forgetting slots -/
theorem Rel.weak (R : Rel K cl B F H σ ρ) {σ' : St} {ρ' : Env} (hl : σ'.length = ρ'.length) (h : ∀ (i : Nat) (o : O), ρ'[i]? = some (some o) → ρ[i]? = some (some o) ∧ σ'[i]? = σ[i]?) : Rel K cl B F H σ' ρ' := by
  obtain ⟨fp, h1, h2, h3, h4⟩ := R.slots
  refine ⟨R.sub, R.tups, hl, fp, fun i o e => ?_, h2, h3, h4⟩
  obtain ⟨e1, e2⟩ := h i o e
  obtain ⟨v, e3, w⟩ := h1 i o e1
  exact ⟨v, e2.trans e3, w⟩
end

/-! ## readings of expressions -/
/-- W: what is wanted of an error of the class c -/
abbrev Wish := Nat → Hp → Prop
abbrev noW : Wish := fun _ _ => False
def out (K : PySem.W.Frag) (cl : Nat → Addr) (W : Wish) (r : Res D) (F H : Hp) (Q : VK) : Prop := match r with
  | .ok d => ∀ F' H' v, Grow F H F' H' → Rep K cl F' v d → Q v H'
  | .err c => ∀ H', Same H H' → W c H'
  | .stuck => False
def outB (K : PySem.W.Frag) (cl : Nat → Addr) (W : Wish) (r : Res D) (F H : Hp) (Q : VK) : Prop := match r with
  | .ok d => ∀ F' H' v, Grow F H F' H' → RepB K cl F' H' v d → Q v H'
  | .err c => ∀ H', Same H H' → W c H'
  | .stuck => False
def outT (W : Wish) (r : Res Bool) (F H : Hp) (Q : Bool → Hp → Prop) : Prop := match r with
  | .ok b => ∀ F' H', Grow F H F' H' → Q b H'
  | .err c => ∀ H', Same H H' → W c H'
  | .stuck => False
def outA (K : PySem.W.Frag) (cl : Nat → Addr) (W : Wish) (r : Res (List D)) (F H : Hp) (Q : List V → Hp → Prop) : Prop := match r with
  | .ok ds => ∀ F' H' vs, Grow F H F' H' → RepL K cl F' vs ds → Q vs H'
  | .err c => ∀ H', Same H H' → W c H'
  | .stuck => False
def tE (K : PySem.W.Frag) (cl : Nat → Addr) (W : Wish) (m : ME) : TE := fun σ H Q => ∃ B F ρ, Rel K cl B F H σ ρ ∧ out K cl W (m ρ) F H Q
def tB (K : PySem.W.Frag) (cl : Nat → Addr) (W : Wish) (m : ME) : TE := fun σ H Q => ∃ B F ρ, Rel K cl B F H σ ρ ∧ outB K cl W (m ρ) F H Q
def tT (K : PySem.W.Frag) (cl : Nat → Addr) (W : Wish) (m : Env → Res Bool) : TT := fun σ H Q => ∃ B F ρ, Rel K cl B F H σ ρ ∧ outT W (m ρ) F H Q
def tA (K : PySem.W.Frag) (cl : Nat → Addr) (W : Wish) (m : Env → Res (List D)) : TA := fun σ H Q => ∃ B F ρ, Rel K cl B F H σ ρ ∧ outA K cl W (m ρ) F H Q

theorem PEi {X : Cx} {e : Expr} {t t' : TE} (h : PE X e t) (i : ∀ σ H Q, t' σ H Q → t σ H Q) : PE X e t' := ⟨fun pins s σ H Q I q => h.run pins s σ H Q I (i σ H Q q)⟩
theorem PTi {X : Cx} {e : Expr} {t t' : TT} (h : PT X e t) (i : ∀ σ H Q, t' σ H Q → t σ H Q) : PT X e t' := ⟨fun pins s σ H Q I q => h.run pins s σ H Q I (i σ H Q q)⟩
theorem PWi {X : Cx} {e : Expr} {t t' : TT} (h : PW X e t) (i : ∀ σ H Q, t' σ H Q → t σ H Q) : PW X e t' := ⟨fun wh pins s σ H Q I q => h.run wh pins s σ H Q I (i σ H Q q)⟩
theorem PAi {X : Cx} {e : List Expr} {t t' : TA} (h : PA X e t) (i : ∀ σ H Q, t' σ H Q → t σ H Q) : PA X e t' := ⟨fun pos pins s σ H Q I q => h.run pos pins s σ H Q I (i σ H Q q)⟩
theorem PSi {X : Cx} {e : Stmt} {t t' : TS} (h : PS X e t) (i : ∀ D σ H, t' D σ H → t D σ H) : PS X e t' := ⟨fun pins s σ H D I q => h.run pins s σ H D I (i D σ H q)⟩
theorem PSsi {X : Cx} {e : List Stmt} {t t' : TS} (h : PSs X e t) (i : ∀ D σ H, t' D σ H → t D σ H) : PSs X e t' := ⟨fun pins s σ H D I q => h.run pins s σ H D I (i D σ H q)⟩

section
variable {K : PySem.W.Frag} {cl : Nat → Addr} {W : Wish} {B F H : Hp} {σ : St} {ρ : Env}
theorem out_toB {r : Res D} {Q : VK} (h : outB K cl W r F H Q) : out K cl W r F H Q := by
  cases r with
  | ok d => exact fun F' H' v g r => h F' H' v g (r.toB g.sub)
  | err c => exact h
  | stuck => exact h
theorem pe_B {X : Cx} {e : Expr} {m : ME} (h : PE X e (tE K cl W m)) : PE X e (tB K cl W m) :=
  PEi h fun σ H Q ⟨B, F, ρ, R, q⟩ => ⟨B, F, ρ, R, out_toB q⟩
/-- run a part, go on with its datum -/
theorem thenE {m : ME} {f : D → Res D} {Q Q' : VK} (R : Rel K cl B F H σ ρ) (q : out K cl W ((m ρ).bind f) F H Q) (k : ∀ d F1 H1 v, m ρ = .ok d → Grow F H F1 H1 → Rep K cl F1 v d → out K cl W (f d) F1 H1 Q → Q' v H1) : tE K cl W m σ H Q' := by
  refine ⟨B, F, ρ, R, ?_⟩
  cases e : m ρ with
  | ok d =>
    rw [e] at q
    intro F1 H1 v g r
    refine k d F1 H1 v e g r ?_
    show out K cl W (f d) F1 H1 Q
    have q : out K cl W (f d) F H Q := q
    cases e2 : f d with
    | ok d2 => rw [e2] at q; exact fun F2 H2 v2 g2 r2 => q F2 H2 v2 (g.trans g2) r2
    | err c => rw [e2] at q; exact fun H2 s2 => q H2 (g.hh.trans s2)
    | stuck => rw [e2] at q; exact q
  | err c => rw [e] at q; exact q
  | stuck => rw [e] at q; exact q
theorem thenB {m : ME} {f : D → Res D} {Q Q' : VK} (R : Rel K cl B F H σ ρ) (q : out K cl W ((m ρ).bind f) F H Q) (k : ∀ d F1 H1 v, m ρ = .ok d → Grow F H F1 H1 → RepB K cl F1 H1 v d → out K cl W (f d) F1 H1 Q → Q' v H1) : tB K cl W m σ H Q' := by
  refine ⟨B, F, ρ, R, ?_⟩
  cases e : m ρ with
  | ok d =>
    rw [e] at q
    intro F1 H1 v g r
    refine k d F1 H1 v e g r ?_
    show out K cl W (f d) F1 H1 Q
    have q : out K cl W (f d) F H Q := q
    cases e2 : f d with
    | ok d2 => rw [e2] at q; exact fun F2 H2 v2 g2 r2 => q F2 H2 v2 (g.trans g2) r2
    | err c => rw [e2] at q; exact fun H2 s2 => q H2 (g.hh.trans s2)
    | stuck => rw [e2] at q; exact q
  | err c => rw [e] at q; exact q
  | stuck => rw [e] at q; exact q
end
end CH
namespace CH
open PySem PySem.Spec L2

/-! ## names, constants -/
def mVar (i : Nat) : ME := fun ρ => match ρ[i]? with
  | some (some (.val d)) => .ok d
  | _ => .stuck
def mC (d : D) : ME := fun _ => .ok d
def vals : List O → Option (List D)
  | [] => some []
  | .val d :: r => (vals r).map (d :: ·)
  | _ :: _ => none
/-- an own container seen as a datum -/
def O.view : O → Res D
  | .val d => .ok d
  | .lst os => match vals os with
    | some ds => .ok (.lst ds)
    | none => .stuck
  | .dct kvs => .ok (.dct kvs)
  | _ => .stuck
def mVarB (i : Nat) : ME := fun ρ => match ρ[i]? with
  | some (some o) => o.view
  | _ => .stuck
section
variable {X : Cx} {cl : Nat → Addr} {W : Wish}
theorem OwnL.vals {K : PySem.W.Frag} {F H : Hp} : ∀ {vs : List V} {os : List O} {fp : List Addr} {ds : List D}, OwnL K cl F H vs os fp → CH.vals os = some ds → RepL K cl F vs ds
  | _, _, _, _, .nil, e => by cases e; exact .nil
  | _, _, _, _, .cons (.val h) r, e => by
    simp only [CH.vals, Option.map_eq_some_iff] at e
    obtain ⟨es, e1, e2⟩ := e
    subst e2
    exact .cons h (OwnL.vals r e1)
  | _, _, _, _, .cons (.lst _ _) _, e => by simp [CH.vals] at e
  | _, _, _, _, .cons (.tup _ _) _, e => by simp [CH.vals] at e
  | _, _, _, _, .cons (.dct _ _) _, e => by simp [CH.vals] at e
  | _, _, _, _, .cons (.ins _ _) _, e => by simp [CH.vals] at e
theorem Own.view {K : PySem.W.Frag} {F H : Hp} {v : V} {o : O} {fp : List Addr} {d : D} (s : Same F H) (h : Own K cl F H v o fp) (e : o.view = .ok d) : RepB K cl F H v d := by
  cases h with
  | val h => cases e; exact h.toB s
  | lst h r =>
    simp only [O.view] at e
    split at e
    · rename_i ds q
      cases e
      exact ⟨_, _, rfl, .inl (.inl h), OwnL.vals r q⟩
    · cases e
  | tup h r => simp [O.view] at e
  | dct h r => cases e; exact ⟨_, _, rfl, .inl h, r⟩
  | ins h r => simp [O.view] at e
theorem ve_var {i : Nat} {x : Str} {pos : Pos} (hN : X.N[i]? = some x) (hv : Vis X.env.scope x) (hd : (x == ("__debug__" : Str)) = false := by decide) (hcd : (x == ("__classdict__" : Str)) = false := by decide) : PE X (.Name x pos) (tE X.K cl W (mVar i)) := by
  refine PEi (pe_var hN hv hd hcd) fun σ H Q ⟨B, F, ρ, R, q⟩ => ?_
  unfold mVar at q
  split at q
  · rename_i d e
    obtain ⟨v, fp, e1, w⟩ := R.get e
    cases w with
    | val r => exact ⟨v, e1, q F H v (Grow.refl R.sub R.tups) r⟩
  · exact False.elim q
theorem ve_varB {i : Nat} {x : Str} {pos : Pos} (hN : X.N[i]? = some x) (hv : Vis X.env.scope x) (hd : (x == ("__debug__" : Str)) = false := by decide) (hcd : (x == ("__classdict__" : Str)) = false := by decide) : PE X (.Name x pos) (tB X.K cl W (mVarB i)) := by
  refine PEi (pe_var hN hv hd hcd) fun σ H Q ⟨B, F, ρ, R, q⟩ => ?_
  unfold mVarB at q
  split at q
  · rename_i o e
    obtain ⟨v, fp, e1, w⟩ := R.get e
    refine ⟨v, e1, ?_⟩
    cases e2 : o.view with
    | ok d => rw [e2] at q; exact q F H v (Grow.refl R.sub R.tups) (w.view R.sub e2)
    | err c => cases o <;> simp [O.view] at e2; split at e2 <;> cases e2
    | stuck => rw [e2] at q; exact False.elim q
  · exact False.elim q
theorem out_c {K : PySem.W.Frag} {F H : Hp} {d : D} {v : V} {Q : VK} (s : Same F H) (t : TupC F H) (r : Rep K cl F v d) (q : out K cl W (.ok d) F H Q) : Q v H := q F H v (Grow.refl s t) r
theorem ve_int {i j pos} : PE X (.Constant (.int i) j pos) (tE X.K cl W (mC (.int i))) := PEi pe_int fun σ H Q ⟨B, F, ρ, R, q⟩ => out_c R.sub R.tups (.int i) q
theorem ve_bl {b j pos} : PE X (.Constant (.bool b) j pos) (tE X.K cl W (mC (.bl b))) := PEi pe_bl fun σ H Q ⟨B, F, ρ, R, q⟩ => out_c R.sub R.tups (.bl b) q
theorem ve_non {j pos} : PE X (.Constant .none j pos) (tE X.K cl W (mC .non)) := PEi pe_non fun σ H Q ⟨B, F, ρ, R, q⟩ => out_c R.sub R.tups .non q
theorem ve_str {x j pos} : PE X (.Constant (.str x) j pos) (tE X.K cl W (mC (.str x))) := PEi pe_str fun σ H Q ⟨B, F, ρ, R, q⟩ => out_c R.sub R.tups (.str x) q
/-- a module's constant -/
theorem ve_glob {x : Str} {v : V} {u : Value} {d : D} {pos : Pos} (hg : Gl X x) (hm : X.mg x = some u) (r : RelV v u) (hr : ∀ F, Rep X.K cl F v d) (hd : (x == ("__debug__" : Str)) = false := by decide) : PE X (.Name x pos) (tE X.K cl W (mC d)) :=
  PEi (pe_glob hg hm r hd) fun σ H Q ⟨B, F, ρ, R, q⟩ => out_c R.sub R.tups (hr F) q
end

/-! ## one and two operands -/
def m1 (f : D → Res D) (a : ME) : ME := fun ρ => (a ρ).bind f
def m2 (f : D → D → Res D) (a b : ME) : ME := fun ρ => (a ρ).bind fun x => (b ρ).bind fun y => f x y
def Op1 (K : PySem.W.Frag) (cl : Nat → Addr) (f : D → Res D) (r : V → Hp → VK → Prop) : Prop := ∀ (W : Wish) (F H : Hp) (Q : VK) (v : V) (x : D), Same F H → TupC F H → RepB K cl F H v x → out K cl W (f x) F H Q → r v H Q
def Op2 (K : PySem.W.Frag) (cl : Nat → Addr) (f : D → D → Res D) (r : R2) : Prop := ∀ (W : Wish) (F H : Hp) (Q : VK) (v w : V) (x y : D), Same F H → TupC F H → RepB K cl F H v x → RepB K cl F H w y → out K cl W (f x y) F H Q → r v w H Q
section
variable {X : Cx} {cl : Nat → Addr} {W : Wish} {a b : Expr} {ma mb : ME} {pos : Pos}
theorem t_1 {f : D → Res D} {r : V → Hp → VK → Prop} (h : Op1 X.K cl f r) : ∀ σ H Q, tE X.K cl W (m1 f ma) σ H Q → tB X.K cl W ma σ H fun x H1 => r x H1 Q :=
  fun σ H Q ⟨B, F, ρ, R, q⟩ => thenB R q fun x F1 H1 v _ g1 r1 q1 => h W F1 H1 Q v x g1.sub g1.tups r1 q1
theorem t_2 {f : D → D → Res D} {r : R2} (h : Op2 X.K cl f r) : ∀ σ H Q, tE X.K cl W (m2 f ma mb) σ H Q → tOp r (tB X.K cl W ma) (tB X.K cl W mb) σ H Q :=
  fun σ H Q ⟨B, F, ρ, R, q⟩ => thenB R q fun x F1 H1 v _ g1 r1 q1 => thenB (R.grow g1) q1 fun y F2 H2 w _ g2 r2 q2 =>
    h W F2 H2 Q v w x y g2.sub g2.tups (r1.mono (g2.ff g1.sub) g2.hh) r2 q2
theorem ve_op {op : Operator} {f : D → D → Res D} {r : R2} (ho : OpR X (binaryOp op) r) (h : Op2 X.K cl f r) (ha : PE X a (tB X.K cl W ma)) (hb : PE X b (tB X.K cl W mb)) : PE X (.BinOp a op b pos) (tE X.K cl W (m2 f ma mb)) :=
  PEi (pe_op ho ha hb) (t_2 h)
theorem ve_un {op : UnaryOp} {f : D → Res D} {r : V → Hp → VK → Prop} (ho : UnR X (unaryOp op) r) (h : Op1 X.K cl f r) (ha : PE X a (tB X.K cl W ma)) : PE X (.UnaryOp op a pos) (tE X.K cl W (m1 f ma)) :=
  PEi (pe_un ho ha) (t_1 h)
theorem ve_cmp {op : CmpOp} {f : D → D → Res D} {r : R2} (ho : OpR X (compareOp op) r) (h : Op2 X.K cl f r) (ha : PE X a (tB X.K cl W ma)) (hb : PE X b (tB X.K cl W mb)) (hm : behindInMarks op b = false) : PE X (.Compare a [op] [b] pos) (tE X.K cl W (m2 f ma mb)) :=
  PEi (pe_cmpR ho ha hb hm) (t_2 h)
theorem ve_ix {f : D → D → Res D} {r : R2} (ho : IxR X r) (h : Op2 X.K cl f r) (ha : PE X a (tB X.K cl W ma)) (hb : PE X b (tB X.K cl W mb)) (hs : PlainIx b) : PE X (.Subscript a b pos) (tE X.K cl W (m2 f ma mb)) :=
  PEi (pe_ix ho ha hb hs) (t_2 h)
/-- f(a), f a built-in -/
theorem ve_callB {x : Str} {id : String} {p : Pos} {f : D → Res D} {r : List V → Hp → VK → Prop} (hc : CallR X (.builtin id) r) (h : Op1 X.K cl f fun v H Q => r [v] H Q) (hg : Gl X x) (hm : X.mg x = none) (hv : bootBuiltins x = some (.builtin id)) (ha : PE X a (tB X.K cl W ma)) (hn : x ≠ "__name__" := by decide) (hdb : (x == ("__debug__" : Str)) = false := by decide)
    (hs : starEach [a] X.env = (false, eval a X.env) :: starEach [] X.env := by rfl) : PE X (.Call (.Name x p) [a] [] pos) (tE X.K cl W (m1 f ma)) :=
  PEi (pe_callB hc hg hm hv (pa_cons ha pa_nil hs) hn hdb hs rfl) fun σ H Q q => t_1 h σ H Q q
theorem ve_callTy {x : Str} {T : String} {p : Pos} {f : D → Res D} {r : List V → Hp → VK → Prop} (hc : CallR X (.type T) r) (h : Op1 X.K cl f fun v H Q => r [v] H Q) (hg : Gl X x) (hm : X.mg x = none) (hv : bootBuiltins x = some (.type T)) (ha : PE X a (tB X.K cl W ma)) (hn : x ≠ "__name__" := by decide) (hdb : (x == ("__debug__" : Str)) = false := by decide)
    (hs : starEach [a] X.env = (false, eval a X.env) :: starEach [] X.env := by rfl) : PE X (.Call (.Name x p) [a] [] pos) (tE X.K cl W (m1 f ma)) :=
  PEi (pe_callTy hc hg hm hv (pa_cons ha pa_nil hs) hn hdb hs rfl) fun σ H Q q => t_1 h σ H Q q
end

/-! ## tests -/
def mTest (a : ME) : Env → Res Bool := fun ρ => (a ρ).bind fun d => match d with
  | .bl b => .ok b
  | _ => .stuck
def mNot (a : Env → Res Bool) : Env → Res Bool := fun ρ => (a ρ).bind fun b => .ok (!b)
def mAnd (a b : Env → Res Bool) : Env → Res Bool := fun ρ => (a ρ).bind fun x => if x then b ρ else .ok false
def mOr (a b : Env → Res Bool) : Env → Res Bool := fun ρ => (a ρ).bind fun x => if x then .ok true else b ρ
def mNotV (a : ME) : ME := fun ρ => (mTest a ρ).bind fun b => .ok (.bl (!b))
def mAndV (a b : ME) : ME := fun ρ => (mTest a ρ).bind fun x => if x then b ρ else .ok (.bl false)
def mOrV (a b : ME) : ME := fun ρ => (mTest a ρ).bind fun x => if x then .ok (.bl true) else b ρ
def mIfE (c : Env → Res Bool) (a b : ME) : ME := fun ρ => (c ρ).bind fun x => if x then a ρ else b ρ
section
variable {X : Cx} {cl : Nat → Addr} {W : Wish} {a b c : Expr} {ma mb : ME} {na nb nc : Env → Res Bool} {pos : Pos} {rest : List Expr}
theorem rep_bl {K : PySem.W.Frag} {F : Hp} {v : V} {d : D} {b : Bool} (r : Rep K cl F v d) (e : d = .bl b) : v = .bl b := by subst e; cases r; rfl
/-- run a test, go on -/
theorem thenT {K : PySem.W.Frag} {B F H : Hp} {σ : St} {ρ : Env} {m : Env → Res Bool} {α : Type} {f : Bool → Res α} {P : Res α → Hp → Hp → Prop} {Q' : Bool → Hp → Prop} (R : Rel K cl B F H σ ρ) (q : P ((m ρ).bind f) F H)
    (he : ∀ c, P (.err c) F H → ∀ H', Same H H' → W c H') (hk : P .stuck F H → False)
    (k : ∀ b F1 H1, m ρ = .ok b → Grow F H F1 H1 → P (f b) F H → Q' b H1) : tT K cl W m σ H Q' := by
  refine ⟨B, F, ρ, R, ?_⟩
  cases e : m ρ with
  | ok b => rw [e] at q; exact fun F1 H1 g => k b F1 H1 e g q
  | err c => rw [e] at q; exact he c q
  | stuck => rw [e] at q; exact hk q
theorem outT_grow {F H F1 H1 : Hp} {r : Res Bool} {Q : Bool → Hp → Prop} (g : Grow F H F1 H1) (q : outT W r F H Q) : outT W r F1 H1 Q := by
  cases r with
  | ok b => exact fun F2 H2 g2 => q F2 H2 (g.trans g2)
  | err c => exact fun H2 s2 => q H2 (g.hh.trans s2)
  | stuck => exact q
theorem out_grow {K : PySem.W.Frag} {F H F1 H1 : Hp} {r : Res D} {Q : VK} (g : Grow F H F1 H1) (q : out K cl W r F H Q) : out K cl W r F1 H1 Q := by
  cases r with
  | ok b => exact fun F2 H2 v g2 => q F2 H2 v (g.trans g2)
  | err c => exact fun H2 s2 => q H2 (g.hh.trans s2)
  | stuck => exact q
theorem thenTT {K : PySem.W.Frag} {B F H : Hp} {σ : St} {ρ : Env} {m : Env → Res Bool} {f : Bool → Res Bool} {Q Q' : Bool → Hp → Prop} (R : Rel K cl B F H σ ρ) (q : outT W ((m ρ).bind f) F H Q)
    (k : ∀ b F1 H1, Grow F H F1 H1 → outT W (f b) F1 H1 Q → Q' b H1) : tT K cl W m σ H Q' :=
  thenT (P := fun r F H => outT W r F H Q) R q (fun c h => h) (fun h => h) fun b F1 H1 _ g q1 => k b F1 H1 g (outT_grow g q1)
theorem thenTE {K : PySem.W.Frag} {B F H : Hp} {σ : St} {ρ : Env} {m : Env → Res Bool} {f : Bool → Res D} {Q : VK} {Q' : Bool → Hp → Prop} (R : Rel K cl B F H σ ρ) (q : out K cl W ((m ρ).bind f) F H Q)
    (k : ∀ b F1 H1, Grow F H F1 H1 → out K cl W (f b) F1 H1 Q → Q' b H1) : tT K cl W m σ H Q' :=
  thenT (P := fun r F H => out K cl W r F H Q) R q (fun c h => h) (fun h => h) fun b F1 H1 _ g q1 => k b F1 H1 g (out_grow g q1)
/-- a value as a test's -/
theorem t_test {K : PySem.W.Frag} : ∀ σ H (Q : Bool → Hp → Prop), tT K cl W (mTest ma) σ H Q → tE K cl W ma σ H fun x H1 => ∃ c, x = .bl c ∧ Q c H1 := by
  rintro σ H Q ⟨B, F, ρ, R, q⟩
  refine ⟨B, F, ρ, R, ?_⟩
  unfold mTest at q
  cases e : ma ρ with
  | ok d =>
    rw [e] at q
    intro F1 H1 v g r
    cases d with
    | bl b => exact ⟨b, by cases r; rfl, q F1 H1 g⟩
    | _ => exact False.elim q
  | err c => rw [e] at q; exact q
  | stuck => rw [e] at q; exact q
theorem vt_val {e : Expr} (h : PE X e (tE X.K cl W ma)) (he : ∀ whole, isTrue e X.env whole = (do let v ← whole; standAt e.pos; holding [v] (truthy v)) := by intro _; rfl) : PT X e (tT X.K cl W (mTest ma)) :=
  PTi (pt_val h he) fun σ H Q q => t_test σ H Q q
theorem vt_cmp {op : CmpOp} {f : D → D → Res D} {r : R2} (ho : OpR X (compareOp op) r) (h : Op2 X.K cl f r) (ha : PE X a (tB X.K cl W ma)) (hb : PE X b (tB X.K cl W mb)) (hm : behindInMarks op b = false) : PT X (.Compare a [op] [b] pos) (tT X.K cl W (mTest (m2 f ma mb))) :=
  PTi (pt_cmpR ho ha hb hm) fun σ H Q q => t_2 h σ H _ (t_test σ H Q q)
theorem vt_not (h : PT X a (tT X.K cl W na)) : PT X (.UnaryOp .Not a pos) (tT X.K cl W (mNot na)) :=
  PTi (pt_not h) fun σ H Q ⟨B, F, ρ, R, q⟩ => thenTT R q fun b F1 H1 g q1 => q1 F1 H1 (Grow.refl g.sub g.tups)
theorem vw_and1 (ha : PT X a (tT X.K cl W na)) : PW X (.BoolOp .And [a] pos) (tT X.K cl W na) := pw_and1 ha
theorem vw_or1 (ha : PT X a (tT X.K cl W na)) : PW X (.BoolOp .Or [a] pos) (tT X.K cl W na) := pw_or1 ha
theorem vw_and (ha : PT X a (tT X.K cl W na)) (hb : PW X (.BoolOp .And (b :: rest) pos) (tT X.K cl W nb)) : PW X (.BoolOp .And (a :: b :: rest) pos) (tT X.K cl W (mAnd na nb)) :=
  PWi (pw_and ha hb) fun σ H Q ⟨B, F, ρ, R, q⟩ => thenTT R q fun b F1 H1 g q1 => by
    cases b with
    | true => exact ⟨B, F1, ρ, R.grow g, q1⟩
    | false => exact q1 F1 H1 (Grow.refl g.sub g.tups)
theorem vw_or (ha : PT X a (tT X.K cl W na)) (hb : PW X (.BoolOp .Or (b :: rest) pos) (tT X.K cl W nb)) : PW X (.BoolOp .Or (a :: b :: rest) pos) (tT X.K cl W (mOr na nb)) :=
  PWi (pw_or ha hb) fun σ H Q ⟨B, F, ρ, R, q⟩ => thenTT R q fun b F1 H1 g q1 => by
    cases b with
    | false => exact ⟨B, F1, ρ, R.grow g, q1⟩
    | true => exact q1 F1 H1 (Grow.refl g.sub g.tups)
/-- .. as values -/
theorem ve_not (h : PE X a (tE X.K cl W ma)) : PE X (.UnaryOp .Not a pos) (tE X.K cl W (mNotV ma)) :=
  PEi (pe_not h) fun σ H Q ⟨B, F, ρ, R, q⟩ => t_test σ H _ (thenTE R q fun b F1 H1 g q1 => q1 F1 H1 _ (Grow.refl g.sub g.tups) (.bl _))
theorem ve_one {op} (h : PE X a (tE X.K cl W ma)) : PE X (.BoolOp op [a] pos) (tE X.K cl W ma) := pe_one h
theorem ve_and (ha : PE X a (tE X.K cl W ma)) (hb : PE X (.BoolOp .And (b :: rest) pos) (tE X.K cl W mb)) : PE X (.BoolOp .And (a :: b :: rest) pos) (tE X.K cl W (mAndV ma mb)) :=
  PEi (pe_and ha hb) fun σ H Q ⟨B, F, ρ, R, q⟩ => t_test σ H _ (thenTE R q fun b F1 H1 g q1 => by
    cases b with
    | true => exact ⟨B, F1, ρ, R.grow g, q1⟩
    | false => exact q1 F1 H1 _ (Grow.refl g.sub g.tups) (.bl _))
theorem ve_or (ha : PE X a (tE X.K cl W ma)) (hb : PE X (.BoolOp .Or (b :: rest) pos) (tE X.K cl W mb)) : PE X (.BoolOp .Or (a :: b :: rest) pos) (tE X.K cl W (mOrV ma mb)) :=
  PEi (pe_or ha hb) fun σ H Q ⟨B, F, ρ, R, q⟩ => t_test σ H _ (thenTE R q fun b F1 H1 g q1 => by
    cases b with
    | false => exact ⟨B, F1, ρ, R.grow g, q1⟩
    | true => exact q1 F1 H1 _ (Grow.refl g.sub g.tups) (.bl _))
theorem ve_ifE (hc : PT X c (tT X.K cl W nc)) (ha : PE X a (tE X.K cl W ma)) (hb : PE X b (tE X.K cl W mb)) : PE X (.IfExp c a b pos) (tE X.K cl W (mIfE nc ma mb)) :=
  PEi (pe_ifExp hc ha hb) fun σ H Q ⟨B, F, ρ, R, q⟩ => thenTE R q fun b F1 H1 g q1 => by
    cases b with
    | true => exact ⟨B, F1, ρ, R.grow g, q1⟩
    | false => exact ⟨B, F1, ρ, R.grow g, q1⟩
end

/-! ## argument lists, displays, calls -/
def evL : List ME → Env → Res (List D)
  | [], _ => .ok []
  | m :: ms, ρ => (m ρ).bind fun d => (evL ms ρ).bind fun ds => .ok (d :: ds)
theorem evL_len : ∀ {ms : List ME} {ρ : Env} {ds : List D}, evL ms ρ = .ok ds → ds.length = ms.length
  | [], _, _, e => by cases e; rfl
  | m :: ms, ρ, ds, e => by
    unfold evL at e
    cases e1 : m ρ with
    | ok d =>
      rw [e1] at e
      simp only [Res.bind_ok] at e
      cases e2 : evL ms ρ with
      | ok es => rw [e2] at e; cases e; rw [List.length_cons, List.length_cons, evL_len e2]
      | err c => rw [e2] at e; cases e
      | stuck => rw [e2] at e; cases e
    | err c => rw [e1] at e; cases e
    | stuck => rw [e1] at e; cases e
def mTup (ms : List ME) : ME := fun ρ => (evL ms ρ).bind fun ds => .ok (.tup ds)
def mLst (ms : List ME) : ME := fun ρ => (evL ms ρ).bind fun ds => .ok (.lst ds)
def mCall (f : List D → Res D) (ms : List ME) : ME := fun ρ => (evL ms ρ).bind f
section
variable {X : Cx} {cl : Nat → Addr} {W : Wish} {e : Expr} {es : List Expr} {m : ME} {ms : List ME} {pos : Pos}
theorem thenA {K : PySem.W.Frag} {B F H : Hp} {σ : St} {ρ : Env} {m : Env → Res (List D)} {f : List D → Res D} {Q : VK} {Q' : List V → Hp → Prop} (R : Rel K cl B F H σ ρ) (q : out K cl W ((m ρ).bind f) F H Q) (k : ∀ d F1 H1 v, m ρ = .ok d → Grow F H F1 H1 → RepL K cl F1 v d → out K cl W (f d) F1 H1 Q → Q' v H1) : tA K cl W m σ H Q' := by
  refine ⟨B, F, ρ, R, ?_⟩
  cases e : m ρ with
  | ok d => rw [e] at q; exact fun F1 H1 v g r => k d F1 H1 v e g r (out_grow g q)
  | err c => rw [e] at q; exact q
  | stuck => rw [e] at q; exact q
theorem va_nil : PA X [] (tA X.K cl W (evL [])) := PAi pa_nil fun σ H Q ⟨B, F, ρ, R, q⟩ => q F H [] (Grow.refl R.sub R.tups) .nil
theorem va_cons (he : PE X e (tE X.K cl W m)) (hr : PA X es (tA X.K cl W (evL ms))) (hs : starEach (e :: es) X.env = (false, eval e X.env) :: starEach es X.env := by rfl) : PA X (e :: es) (tA X.K cl W (evL (m :: ms))) := by
  refine PAi (pa_cons he hr hs) fun σ H Q ⟨B, F, ρ, R, q⟩ => ⟨B, F, ρ, R, ?_⟩
  unfold evL at q
  cases e1 : m ρ with
  | ok d =>
    rw [e1] at q
    intro F1 H1 v g1 r1
    refine ⟨B, F1, ρ, R.grow g1, ?_⟩
    simp only [Res.bind_ok] at q
    cases e2 : evL ms ρ with
    | ok ds => rw [e2] at q; exact fun F2 H2 vs g2 r2 => q F2 H2 (v :: vs) (g1.trans g2) (.cons (r1.mono (g2.ff g1.sub)) r2)
    | err c => rw [e2] at q; exact fun H2 s2 => q H2 (g1.hh.trans s2)
    | stuck => rw [e2] at q; exact q
  | err c => rw [e1] at q; exact q
  | stuck => rw [e1] at q; exact q
end
/-- a new tuple at a new place -/
def NewT (H : Hp) (xs : List V) (Q : VK) : Prop := ∀ p (o : Obj), H p = none → o.dict = none → Q (.ref p) (upd H p (.frz o (.tup xs)))
section
variable {X : Cx} {pins : List (Addr × Obj)} {σ : St} {H : Hp} {s : Shared} {cl : Nat → Addr} {W : Wish}
theorem Inv.newT {xs : List V} {its : List Value} {t' : Nat} (I : Inv X pins σ H s) (hv : Vals xs its) (hz : xs.length ≤ sizeLine) :
    Inv X pins σ (upd H s.heap.objs.size (.frz { cls := .type "tuple", data := .seq its.toArray } (.tup xs))) { s with heap := s.heap.push { cls := .type "tuple", data := .seq its.toArray }, toks := t' } :=
  I.laid (fun _ _ q => Heap.get?_push_of_some _ q) (Nat.le_refl _) ⟨Heap.get?_push_size _ rfl, hz, its, hv, ⟨_, Heap.get?_push_size _ rfl, rfl, _, rfl⟩⟩
theorem newT_out {K : PySem.W.Frag} {F : Hp} {xs : List V} {ds : List D} {Q : VK} (s : Same F H) (t : TupC F H) (r : RepL K cl F xs ds) (q : out K cl W (.ok (.tup ds)) F H Q) : NewT H xs Q := fun p o n z =>
  q _ _ _ (Grow.new s t n) (.tup (.inl ⟨o, upd_same, z⟩) (r.mono fun a u e => by rw [upd_ne (ne_of_none (s a u e) n)]; exact e))
theorem newL_out {K : PySem.W.Frag} {F : Hp} {xs : List V} {ds : List D} {Q : VK} {p : Addr} (s : Same F H) (t : TupC F H) (r : RepL K cl F xs ds) (q : out K cl W (.ok (.lst ds)) F H Q) (n : H p = none) : Q (.ref p) (upd H p (.lst xs)) :=
  q _ _ _ (Grow.new s t n) (.lst (.inl (.inl upd_same)) (r.mono fun a u e => by rw [upd_ne (ne_of_none (s a u e) n)]; exact e))
end
section
variable {X : Cx} {cl : Nat → Addr} {W : Wish} {e : Expr} {es : List Expr} {t : TA} {ms : List ME} {pos : Pos}
def tTupF (t : TA) : TE := fun σ H Q => t σ H fun xs H1 => xs.length ≤ sizeLine ∧ NewT H1 xs Q
theorem pe_tupF {x1} (h : PA X es t) : PE X (.Tuple es x1 pos) (tTupF t) := by
  refine ⟨fun pins s σ H Q I hq => ?_⟩
  refine wpAny_Tuple_spliced (thn (h.run pos pins s σ H _ I hq) fun us s1 ⟨xs, H1, I1, r, z, q⟩ => ⟨by rw [← r.length]; exact z, ?_⟩)
  exact ⟨.ref s1.heap.objs.size, _, Inv.newT (t' := s1.toks) I1 r z, rfl, q _ _ (I1.hok.fresh (Nat.le_refl _)) rfl⟩
theorem ve_tup {x1} (h : PA X es (tA X.K cl W (evL ms))) (hl : ms.length ≤ sizeLine := by exact Nat.le_of_ble_eq_true rfl) : PE X (.Tuple es x1 pos) (tE X.K cl W (mTup ms)) :=
  PEi (pe_tupF h) fun σ H Q ⟨B, F, ρ, R, q⟩ => thenA R q fun ds F1 H1 vs e g r q1 => ⟨by rw [r.length, evL_len e]; exact hl, newT_out g.sub g.tups r q1⟩
theorem ve_lst (h : PA X es (tA X.K cl W (evL ms))) (hl : ms.length ≤ sizeLine := by exact Nat.le_of_ble_eq_true rfl) : PE X (.List es pos) (tE X.K cl W (mLst ms)) :=
  PEi (pe_lst h) fun σ H Q ⟨B, F, ρ, R, q⟩ => thenA R q fun ds F1 H1 vs e g r q1 => ⟨by rw [r.length, evL_len e]; exact hl, fun p n => newL_out g.sub g.tups r q1 n⟩
end

/-! ## a def's promise -/
/-- of a def that raises nothing -/
def spF (K : PySem.W.Frag) (cl : Nat → Addr) (n : Nat) (f : List D → Res D) : Sp := fun vs H Q _ => vs.length = n ∧ ∃ F ds, Same F H ∧ TupC F H ∧ RepL K cl F vs ds ∧ out K cl noW (f ds) F H Q
section
variable {X : Cx} {cl : Nat → Addr} {W : Wish} {k : Nat} {f : Addr} {fd : FuncData} {ps : List Str} {g : List D → Res D} {x : Str} {p pos : Pos} {e : Expr} {es : List Expr} {ms : List ME}
theorem out_noW {K : PySem.W.Frag} {r : Res D} {F H : Hp} {Q : VK} (q : out K cl W r.calm F H Q) : out K cl noW r F H Q := by
  cases r with
  | ok d => exact q
  | err c => exact False.elim q
  | stuck => exact q
/-- a call of a def that raises nothing -/
theorem ve_call (G : FnOk X.prog X.w X.K X.mg X.base CX0 k f fd ps (spF X.K cl ps.length g)) (hr : Room k X.A) (hg : Gl X x) (hm : X.mg x = some (.ref f)) (hk : PySem.W.keepIn X.K (.ref f) = true) (hb : Binds X.K fd ps [])
    (ha : PA X (e :: es) (tA X.K cl W (evL ms))) (hl : ms.length = ps.length := by rfl) (hdb : (x == ("__debug__" : Str)) = false := by decide) (he : starEach (e :: es) X.env = (false, eval e X.env) :: starEach es X.env := by rfl) (hpl : (backTo pos (starEach es X.env)).any (·.1) = false := by rfl) :
    PE X (.Call (.Name x p) (e :: es) [] pos) (tE X.K cl W (mCall (fun ds => (g ds).calm) ms)) := by
  refine PEi (pe_call (E := E0) G hr hg hm hk hb .nil pass0 ha hdb he hpl) fun σ H Q ⟨B, F, ρ, R, q⟩ => thenA R q fun ds F1 H1 vs e g r q1 => ?_
  show spF X.K cl ps.length _ (vs ++ []) H1 Q E0
  rw [List.append_nil]
  exact ⟨by rw [r.length, evL_len e, hl], F1, ds, g.sub, g.tups, r, out_noW q1⟩
end
end CH
namespace CH
open PySem PySem.Spec L2

inductive Flw where
  | nx (ρ : Env) | rt (d : D) | bk (ρ : Env) | ct (ρ : Env)
abbrev MS := Env → Res Flw

structure RelS (K : PySem.W.Frag) (cl : Nat → Addr) (H0 F0 F H : Hp) (σ : St) (ρ : Env) : Prop where
  rel : Rel K cl H0 F H σ ρ
  gr : Grow F0 H0 F H
theorem RelS.grow {K : PySem.W.Frag} {cl : Nat → Addr} {H0 F0 F H F1 H1 : Hp} {σ : St} {ρ : Env} (R : RelS K cl H0 F0 F H σ ρ) (g : Grow F H F1 H1) : RelS K cl H0 F0 F1 H1 σ ρ := ⟨R.rel.grow g, R.gr.trans g⟩

def outS (K : PySem.W.Frag) (cl : Nat → Addr) (H0 F0 : Hp) (W : Wish) (Fs : Hp) (r : Res Flw) (D : Ends) : Prop := match r with
  | .ok (.nx ρ) => ∀ F H σ, Same Fs F → RelS K cl H0 F0 F H σ ρ → D.nx σ H
  | .ok (.rt d) => ∀ F H v, Grow F0 H0 F H → Rep K cl F v d → D.rt v H
  | .ok (.bk ρ) => ∀ F H σ, Same Fs F → RelS K cl H0 F0 F H σ ρ → D.bk σ H
  | .ok (.ct ρ) => ∀ F H σ, Same Fs F → RelS K cl H0 F0 F H σ ρ → D.ct σ H
  | .err c => ∀ H, Same H0 H → W c H
  | .stuck => False
def tS (K : PySem.W.Frag) (cl : Nat → Addr) (H0 F0 : Hp) (W : Wish) (m : MS) : TS := fun D σ H => ∃ F ρ, RelS K cl H0 F0 F H σ ρ ∧ outS K cl H0 F0 W F (m ρ) D
theorem outS_mono {K : PySem.W.Frag} {cl : Nat → Addr} {H0 F0 : Hp} {W : Wish} {F F1 : Hp} {r : Res Flw} {D : Ends} (s : Same F F1) (q : outS K cl H0 F0 W F r D) : outS K cl H0 F0 W F1 r D := by
  cases r with
  | ok f => cases f with
    | nx ρ => exact fun F2 H2 σ2 s2 => q F2 H2 σ2 (s.trans s2)
    | rt d => exact q
    | bk ρ => exact fun F2 H2 σ2 s2 => q F2 H2 σ2 (s.trans s2)
    | ct ρ => exact fun F2 H2 σ2 s2 => q F2 H2 σ2 (s.trans s2)
  | err c => exact q
  | stuck => exact q

def sNil : MS := fun ρ => .ok (.nx ρ)
def sBreak : MS := fun ρ => .ok (.bk ρ)
def sCont : MS := fun ρ => .ok (.ct ρ)
def sSeq (a b : MS) : MS := fun ρ => match a ρ with
  | .ok (.nx ρ') => b ρ'
  | r => r
def sRet (a : ME) : MS := fun ρ => (a ρ).bind fun d => .ok (.rt d)
def sRetN : MS := fun _ => .ok (.rt .non)
def sIf (c : Env → Res Bool) (a b : MS) : MS := fun ρ => (c ρ).bind fun x => if x then a ρ else b ρ
def sSet (i : Nat) (a : ME) : MS := fun ρ => (a ρ).bind fun d => .ok (.nx (ρ.set i (some (.val d))))
def sDrop (a : ME) : MS := fun ρ => (a ρ).bind fun _ => .ok (.nx ρ)

section
variable {X : Cx} {cl : Nat → Addr} {H0 F0 : Hp} {W : Wish} {st : Stmt} {rest : List Stmt} {m n : MS} {e : Expr} {me : ME} {pos : Pos}
/-- an expression, then the statement goes on -/
theorem thenS {K : PySem.W.Frag} {F H : Hp} {σ : St} {ρ : Env} {f : D → Res Flw} {D : Ends} {Q' : VK} (R : RelS K cl H0 F0 F H σ ρ) (q : outS K cl H0 F0 W F ((me ρ).bind f) D) (k : ∀ d F1 H1 v, Same F F1 → RelS K cl H0 F0 F1 H1 σ ρ → Rep K cl F1 v d → outS K cl H0 F0 W F1 (f d) D → Q' v H1) : tE K cl W me σ H Q' := by
  refine ⟨H0, F, ρ, R.rel, ?_⟩
  cases e : me ρ with
  | ok d => rw [e] at q; exact fun F1 H1 v g r => k d F1 H1 v (g.ff R.rel.sub) (R.grow g) r (outS_mono (g.ff R.rel.sub) q)
  | err c => rw [e] at q; exact fun H' s' => q H' (R.gr.hh.trans s')
  | stuck => rw [e] at q; exact q
theorem thenSB {K : PySem.W.Frag} {F H : Hp} {σ : St} {ρ : Env} {f : D → Res Flw} {D : Ends} {Q' : VK} (R : RelS K cl H0 F0 F H σ ρ) (q : outS K cl H0 F0 W F ((me ρ).bind f) D) (k : ∀ d F1 H1 v, Same F F1 → RelS K cl H0 F0 F1 H1 σ ρ → RepB K cl F1 H1 v d → outS K cl H0 F0 W F1 (f d) D → Q' v H1) : tB K cl W me σ H Q' := by
  refine ⟨H0, F, ρ, R.rel, ?_⟩
  cases e : me ρ with
  | ok d => rw [e] at q; exact fun F1 H1 v g r => k d F1 H1 v (g.ff R.rel.sub) (R.grow g) r (outS_mono (g.ff R.rel.sub) q)
  | err c => rw [e] at q; exact fun H' s' => q H' (R.gr.hh.trans s')
  | stuck => rw [e] at q; exact q
theorem thenST {K : PySem.W.Frag} {F H : Hp} {σ : St} {ρ : Env} {c : Env → Res Bool} {f : Bool → Res Flw} {D : Ends} {Q' : Bool → Hp → Prop} (R : RelS K cl H0 F0 F H σ ρ) (q : outS K cl H0 F0 W F ((c ρ).bind f) D) (k : ∀ b F1 H1, Same F F1 → RelS K cl H0 F0 F1 H1 σ ρ → outS K cl H0 F0 W F1 (f b) D → Q' b H1) : tT K cl W c σ H Q' := by
  refine ⟨H0, F, ρ, R.rel, ?_⟩
  cases e : c ρ with
  | ok d => rw [e] at q; exact fun F1 H1 g => k d F1 H1 (g.ff R.rel.sub) (R.grow g) (outS_mono (g.ff R.rel.sub) q)
  | err c => rw [e] at q; exact fun H' s' => q H' (R.gr.hh.trans s')
  | stuck => rw [e] at q; exact q
theorem vs_nil : PSs X [] (tS X.K cl H0 F0 W sNil) := PSsi pss_nil fun D σ H ⟨F, ρ, R, q⟩ => q F H σ (Same.refl F) R
theorem vs_cons (h1 : PS X st (tS X.K cl H0 F0 W m)) (h2 : PSs X rest (tS X.K cl H0 F0 W n)) : PSs X (st :: rest) (tS X.K cl H0 F0 W (sSeq m n)) := by
  refine PSsi (pss_cons h1 h2) fun D σ H ⟨F, ρ, R, q⟩ => ⟨F, ρ, R, ?_⟩
  unfold sSeq at q
  split at q
  · rename_i ρ' e
    rw [e]
    exact fun F1 H1 σ1 s1 R1 => ⟨F1, ρ', R1, outS_mono s1 q⟩
  · rename_i r hr
    cases e : m ρ with
    | ok f =>
      rw [e] at q
      cases f with
      | nx ρ' => exact absurd e (hr ρ')
      | _ => exact q
    | err c => rw [e] at q; exact q
    | stuck => rw [e] at q; exact q
theorem vs_one (h1 : PS X st (tS X.K cl H0 F0 W m)) : PSs X [st] (tS X.K cl H0 F0 W m) := pss_one h1
theorem vs_pass : PS X (.Pass pos) (tS X.K cl H0 F0 W sNil) := PSi ps_pass fun D σ H ⟨F, ρ, R, q⟩ => q F H σ (Same.refl F) R
theorem vs_break : PS X (.Break pos) (tS X.K cl H0 F0 W sBreak) := PSi ps_break fun D σ H ⟨F, ρ, R, q⟩ => q F H σ (Same.refl F) R
theorem vs_cont : PS X (.Continue pos) (tS X.K cl H0 F0 W sCont) := PSi ps_continue fun D σ H ⟨F, ρ, R, q⟩ => q F H σ (Same.refl F) R
theorem vs_ret (he : PE X e (tE X.K cl W me)) : PS X (.Return (some e) pos) (tS X.K cl H0 F0 W (sRet me)) :=
  PSi (ps_ret he) fun D σ H ⟨F, ρ, R, q⟩ => thenS R q fun d F1 H1 v _ R1 r q1 => q1 F1 H1 v R1.gr r
theorem vs_retN : PS X (.Return none pos) (tS X.K cl H0 F0 W sRetN) := PSi ps_retN fun D σ H ⟨F, ρ, R, q⟩ => q F H .non R.gr .non
theorem vs_if {c : Expr} {a b : List Stmt} {mc : Env → Res Bool} (hc : PT X c (tT X.K cl W mc)) (ha : PSs X a (tS X.K cl H0 F0 W m)) (hb : PSs X b (tS X.K cl H0 F0 W n)) : PS X (.If c a b pos) (tS X.K cl H0 F0 W (sIf mc m n)) :=
  PSi (ps_if hc ha hb) fun D σ H ⟨F, ρ, R, q⟩ => thenST R q fun b F1 H1 _ R1 q1 => by
    cases b with
    | true => exact ⟨F1, ρ, R1, q1⟩
    | false => exact ⟨F1, ρ, R1, q1⟩
theorem vs_set {i : Nat} {x : Str} {pos' : Pos} (hN : X.N.Nodup) (hi : X.N[i]? = some x) (hx : Loc X.env.scope x) (he : PE X e (tE X.K cl W me)) (hs : swapsWith e (some (.Name x pos')) pos.line X.env = pure false := by rfl) (hf : X.fn x = true ∨ X.env.scope.names.lookup x = some .local := by first | exact .inl rfl | exact .inr rfl | assumption) :
    PS X (.Assign [.Name x pos'] e pos) (tS X.K cl H0 F0 W (sSet i me)) :=
  PSi (ps_set hN hi hx he hs hf) fun D σ H ⟨F, ρ, R, q⟩ => thenS R q fun d F1 H1 v _ R1 r q1 => q1 F1 H1 _ (Same.refl _) ⟨R1.rel.set i r, R1.gr⟩
theorem vs_expr (he : PE X e (tE X.K cl W me)) (hs : swapsWith e none pos.line X.env = pure false := by rfl) : PS X (.Expr e pos) (tS X.K cl H0 F0 W (sDrop me)) :=
  PSi (ps_expr he hs) fun D σ H ⟨F, ρ, R, q⟩ => thenS R q fun d F1 H1 v _ R1 r q1 => q1 F1 H1 σ (Same.refl _) R1
theorem vs_doc {x j pos pos'} : PS X (.Expr (.Constant (.str x) j pos) pos') (tS X.K cl H0 F0 W sNil) := PSi ps_doc fun D σ H ⟨F, ρ, R, q⟩ => q F H σ (Same.refl F) R
end

/-! ## targets -/
abbrev BD := D → Env → Res Env
def RepW (K : PySem.W.Frag) (cl : Nat → Addr) (F : Hp) (v : V) (d : D) : Prop := match d with
  | .tup ds => ∃ a vs, v = .ref a ∧ SqT K F a vs ∧ RepL K cl F vs ds
  | d => Rep K cl F v d
def RepX (w : Bool) (K : PySem.W.Frag) (cl : Nat → Addr) (F : Hp) (v : V) (d : D) : Prop := if w = true then RepW K cl F v d else Rep K cl F v d
theorem Rep.toW {K : PySem.W.Frag} {cl : Nat → Addr} {F : Hp} {v : V} {d : D} (h : Rep K cl F v d) : RepW K cl F v d := by
  cases d with
  | tup ds => cases h with | tup h r => exact ⟨_, _, rfl, h.sq, r⟩
  | _ => exact h
theorem Rep.toX {K : PySem.W.Frag} {cl : Nat → Addr} {F : Hp} {v : V} {d : D} (w : Bool) (h : Rep K cl F v d) : RepX w K cl F v d := by
  cases w with
  | true => exact h.toW
  | false => exact h
def tG (w : Bool) (K : PySem.W.Frag) (cl : Nat → Addr) (is : List Nat) (b : BD) : TG := fun v σ H Q => ∃ B F ρ d ρ', Rel K cl B F H σ ρ ∧ RepX w K cl F v d ∧ b d ρ = .ok ρ' ∧
  ∀ σ', Rel K cl B F H σ' ρ' → σ'.length = σ.length → (∀ j, j ∉ is → σ'[j]? = σ[j]?) → Q σ' H
theorem PGi {X : Cx} {e : Expr} {t t' : TG} (h : PG X e t) (i : ∀ v σ H Q, t' v σ H Q → t v σ H Q) : PG X e t' := ⟨fun pins s σ H v u Q I r q => h.run pins s σ H v u Q I r (i v σ H Q q)⟩
def bName (i : Nat) : BD := fun d ρ => .ok (ρ.set i (some (.val d)))
def setAll : List Nat → List D → Env → Env
  | i :: is, d :: ds, ρ => setAll is ds (ρ.set i (some (.val d)))
  | _, _, ρ => ρ
def bTup (is : List Nat) : BD := fun d ρ => match d with
  | .tup ds => if ds.length = is.length then .ok (setAll is ds ρ) else .stuck
  | _ => .stuck
/-- names one after another -/
inductive PNames (X : Cx) : List Expr → List Nat → TGs → Prop
  | nil : PNames X [] [] gNil
  | cons {e : Expr} {es : List Expr} {i : Nat} {is : List Nat} {u : TGs} : PG X e (gName i) → PNames X es is u → (assignEach (e :: es) X.env).map (·.2) = assign e X.env :: (assignEach es X.env).map (·.2) → PNames X (e :: es) (i :: is) (gCons (gName i) u)
theorem PNames.pgs {X : Cx} : ∀ {es : List Expr} {is : List Nat} {u : TGs}, PNames X es is u → PGs X es u
  | _, _, _, .nil => pgs_nil
  | _, _, _, .cons h r e => pgs_cons h (PNames.pgs r) e
section
variable {X : Cx} {cl : Nat → Addr} {pos : Pos}
theorem vg_name {i : Nat} {x : Str} (hN : X.N.Nodup) (hi : X.N[i]? = some x) (hx : Loc X.env.scope x) (hf : X.fn x = true ∨ X.env.scope.names.lookup x = some .local := by first | exact .inl rfl | exact .inr rfl | assumption) : PG X (.Name x pos) (tG false X.K cl [i] (bName i)) :=
  PGi (pg_name hN hi hx hf) fun v σ H Q ⟨B, F, ρ, d, ρ', R, r, e, k⟩ => by
    cases e
    exact k _ (R.set i r) (by simp) fun j hj => by rw [List.getElem?_set_ne (fun z => hj (by simp [z]))]
theorem names_run {K : PySem.W.Frag} {B F H : Hp} {X : Cx} : ∀ {es : List Expr} {is : List Nat} {u : TGs}, PNames X es is u → ∀ {vs : List V} {ds : List D} {σ : St} {ρ : Env} {Q : St → Hp → Prop}, Rel K cl B F H σ ρ → RepL K cl F vs ds → ds.length = is.length →
    (∀ σ', Rel K cl B F H σ' (setAll is ds ρ) → σ'.length = σ.length → (∀ j, j ∉ is → σ'[j]? = σ[j]?) → Q σ' H) → u vs σ H Q
  | _, _, _, .nil, _, _, σ, ρ, Q, R, .nil, _, k => ⟨rfl, k σ R rfl fun _ _ => rfl⟩
  | _, _, _, .cons h r e, _, _, σ, ρ, Q, R, .cons (v := v) (vs := vs) rv rl, hl, k => by
    refine ⟨v, vs, rfl, ?_⟩
    show _
    refine names_run r (R.set _ rv) rl (by simpa using hl) fun σ' R' l' k' => ?_
    refine k σ' R' (by rw [l']; simp) fun j hj => ?_
    rw [k' j (fun z => hj (by simp [z])), List.getElem?_set_ne (fun z => hj (by simp [z]))]
  | _, _, _, .cons _ _ _, _, _, _, _, _, _, .nil, hl, _ => by simp at hl
  | _, _, _, .nil, _, _, _, _, _, _, .cons _ _, hl, _ => by simp at hl
theorem vg_tup {es : List Expr} {k : Nat} {is : List Nat} {t : TGs} (hc : X.calm = true) (h : PNames X es is t) (hn : (assignEach es X.env).length = is.length := by rfl) (hst : (assignEach es X.env).findIdx? (·.1) = none := by rfl) : PG X (.Tuple es k pos) (tG true X.K cl is (bTup is)) :=
  PGi (pg_tup hc h.pgs hn hst) fun v σ H Q ⟨B, F, ρ, d, ρ', R, r, e, q⟩ => by
    cases d with
    | tup ds =>
      obtain ⟨a, vs, rfl, hs, rl⟩ := r
      unfold bTup at e
      dsimp only at e
      split at e
      · rename_i hl
        cases e
        exact ⟨a, vs, rfl, Same.sqt R.sub hs, by rw [rl.length, hl], names_run h R rl hl q⟩
      · cases e
    | _ => cases e
/-- target = value -/
def sAsg (b : BD) (a : ME) : MS := fun ρ => (a ρ).bind fun d => (b d ρ).bind fun ρ' => .ok (.nx ρ')
theorem vs_asg {H0 F0 : Hp} {W : Wish} {w : Bool} {is : List Nat} {b : BD} {tg e : Expr} {me : ME} (he : PE X e (tE X.K cl W me)) (hg : PG X tg (tG w X.K cl is b)) (hs : swapsWithSole [tg] e pos.line X.env = pure false := by rfl) (hw : swappedStores [tg] e X.env = pure none := by rfl)
    (h1 : (assignEach [tg] X.env).map (·.2) = [assign tg X.env] := by rfl) (hbe : ∀ d ρ c, b d ρ ≠ .err c := by intro d ρ c; first | (intro z; cases z; done) | (cases d <;> simp only [bTup] <;> first | (intro z; cases z; done) | (split <;> (intro z; cases z)))) : PS X (.Assign [tg] e pos) (tS X.K cl H0 F0 W (sAsg b me)) :=
  PSi (ps_asg he hg hs hw h1) fun D σ H ⟨F, ρ, R, q⟩ => thenS R q fun d F1 H1 v _ R1 r q1 => by
    cases e2 : b d ρ with
    | ok ρ' =>
      rw [e2] at q1
      exact ⟨H0, F1, ρ, d, ρ', R1.rel, r.toX w, e2, fun σ' R' _ _ => q1 F1 H1 σ' (Same.refl _) ⟨R', R1.gr⟩⟩
    | err c => exact absurd e2 (hbe d ρ c)
    | stuck => rw [e2] at q1; exact False.elim q1
/-- a, b = x, y: two local names, both sides written -/
def sPar (i j : Nat) (a b : ME) : MS := fun ρ => (a ρ).bind fun x => (b ρ).bind fun y => .ok (.nx ((ρ.set i (some (.val x))).set j (some (.val y))))
theorem vs_par {H0 F0 : Hp} {W : Wish} {i j : Nat} {x y : Str} {a b : Expr} {ma mb : ME} {px py pt : Pos} {kt k2 pt2} (hc : X.calm = true) (hN : X.N.Nodup) (hi : X.N[i]? = some x) (hj : X.N[j]? = some y) (hij : i ≠ j)
    (hx : X.env.scope.names.lookup x = some .local) (hy : X.env.scope.names.lookup y = some .local) (ha : PA X [a, b] (tA X.K cl W (evL [ma, mb])))
    (hw : swappedStores [.Tuple [.Name x px, .Name y py] kt pt] (.Tuple [a, b] k2 pt2) X.env = pure (some [x, y]))
    (hs : swapsWithSole [.Tuple [.Name x px, .Name y py] kt pt] (.Tuple [a, b] k2 pt2) pos.line X.env = pure false := by rfl) :
    PS X (.Assign [.Tuple [.Name x px, .Name y py] kt pt] (.Tuple [a, b] k2 pt2) pos) (tS X.K cl H0 F0 W (sPar i j ma mb)) :=
  PSi (ps_par hc hN hi hj hij hx hy ha hw hs) fun D σ H ⟨F, ρ, R, q⟩ => by
    refine ⟨H0, F, ρ, R.rel, ?_⟩
    unfold sPar at q
    simp only [evL]
    cases e1 : ma ρ with
    | ok d1 =>
      rw [e1] at q
      simp only [Res.bind_ok] at q ⊢
      cases e2 : mb ρ with
      | ok d2 =>
        rw [e2] at q
        intro F1 H1 vs g r
        cases r with
        | cons r1 r =>
          cases r with
          | cons r2 r =>
            cases r
            exact ⟨_, _, rfl, q F1 H1 _ (g.ff R.rel.sub) ⟨((R.grow g).rel.set i r1).set j r2, (R.grow g).gr⟩⟩
      | err c => rw [e2] at q; exact fun H' s' => q H' (R.gr.hh.trans s')
      | stuck => rw [e2] at q; exact q
    | err c => rw [e1] at q; exact fun H' s' => q H' (R.gr.hh.trans s')
    | stuck => rw [e1] at q; exact q
end

/-! ## what is walked -/
structure IterOf (w : Bool) (K : PySem.W.Frag) (cl : Nat → Addr) (J : It) (F : Hp) (ds : List D) : Prop where
  go : ∀ (i : Nat) (d : D) (F1 H : Hp), ds[i]? = some d → Same F F1 → Same F1 H → TupC F1 H → J.go i H ∧ ∀ x H', J.yld i H x H' → ∃ F2, Grow F1 H F2 H' ∧ RepX w K cl F2 x d
  stop : ∀ (i : Nat) (F1 H : Hp), ds.length ≤ i → Same F F1 → Same F1 H → J.stop i H
def outI (w : Bool) (K : PySem.W.Frag) (cl : Nat → Addr) (W : Wish) (r : Res (List D)) (F H : Hp) (R : It → Hp → Prop) : Prop := match r with
  | .ok ds => ∀ F' H' J, Grow F H F' H' → IterOf w K cl J F' ds → R J H'
  | .err c => ∀ H', Same H H' → W c H'
  | .stuck => False
def tI (w : Bool) (K : PySem.W.Frag) (cl : Nat → Addr) (W : Wish) (mi : Env → Res (List D)) : TI := fun σ H R => ∃ B F ρ, Rel K cl B F H σ ρ ∧ outI w K cl W (mi ρ) F H R
theorem PIi {X : Cx} {tg e : Expr} {t t' : TI} (h : PI X tg e t) (i : ∀ σ H R, t' σ H R → t σ H R) : PI X tg e t' := ⟨fun pins s σ H R I q => h.run pins s σ H R I (i σ H R q)⟩

def forM (b : BD) (mb : MS) : List D → Env → Res Flw
  | [], ρ => .ok (.nx ρ)
  | d :: ds, ρ => match b d ρ with
    | .ok ρ1 => match mb ρ1 with
      | .ok (.nx ρ2) => forM b mb ds ρ2
      | .ok (.ct ρ2) => forM b mb ds ρ2
      | .ok (.bk ρ2) => .ok (.nx ρ2)
      | .ok (.rt d) => .ok (.rt d)
      | .err c => .err c
      | .stuck => .stuck
    | _ => .stuck
def sFor (mi : Env → Res (List D)) (b : BD) (mb : MS) : MS := fun ρ => (mi ρ).bind fun ds => forM b mb ds ρ
section
variable {X : Cx} {cl : Nat → Addr} {H0 F0 : Hp} {W : Wish} {tg iter : Expr} {body : List Stmt} {w : Bool} {mi : Env → Res (List D)} {is : List Nat} {b : BD} {mb : MS} {pos : Pos}
theorem vs_for (hp : PassesOwn (model X.prog X.w) X.A X.env X.xe) (hc : X.calm = true) (hi : PI X tg iter (tI w X.K cl W mi)) (hg : PG X tg (tG w X.K cl is b)) (hb : PSs X body (tS X.K cl H0 F0 W mb))
    (hs : ∀ x, foldedSetIterable iter X.env x = pure x := by intro _; rfl) : PS X (.For tg iter body [] pos) (tS X.K cl H0 F0 W (sFor mi b mb)) := by
  refine PSi (ps_for hp hc hi hg hb hs) fun D σ H ⟨F, ρ, R, q⟩ => ?_
  refine ⟨H0, F, ρ, R.rel, ?_⟩
  unfold sFor at q
  cases e : mi ρ with
  | err c => rw [e] at q; exact fun H' s' => q H' (R.gr.hh.trans s')
  | stuck => rw [e] at q; exact q
  | ok ds =>
    rw [e] at q
    intro F1 H1 J g J1
    have R1 := R.grow g
    refine ⟨fun i m σ H => m = ds.length - i ∧ ∃ F2 ρ2, Same F1 F2 ∧ RelS X.K cl H0 F0 F2 H σ ρ2 ∧ outS X.K cl H0 F0 W F2 (forM b mb (ds.drop i) ρ2) D, ⟨ds.length, by omega, F1, ρ, Same.refl _, R1, outS_mono (g.ff R.rel.sub) q⟩, ?_⟩
    rintro i m σ2 H2 ⟨rfl, F2, ρ2, sf, R2, q2⟩
    by_cases hi : i < ds.length
    · have hd : ds.drop i = ds[i] :: ds.drop (i + 1) := List.drop_eq_getElem_cons hi
      rw [hd] at q2
      unfold forM at q2
      obtain ⟨go, yl⟩ := J1.go i ds[i] F2 H2 (List.getElem?_eq_getElem hi) sf R2.rel.sub R2.rel.tups
      refine .inr ⟨go, fun σ' H' => ∃ F3 ρ3, Same F1 F3 ∧ RelS X.K cl H0 F0 F3 H' σ' ρ3 ∧ outS X.K cl H0 F0 W F3 (forM b mb (ds.drop (i + 1)) ρ3) D, fun σ' H' h => ⟨ds.length - (i + 1), by omega, rfl, h⟩, fun x H' y => ?_⟩
      obtain ⟨F3, g3, rx⟩ := yl x H' y
      have R3 := R2.grow g3
      have sf3 : Same F2 F3 := g3.ff R2.rel.sub
      cases e3 : b ds[i] ρ2 with
      | err c => rw [e3] at q2; exact False.elim q2
      | stuck => rw [e3] at q2; exact False.elim q2
      | ok ρ3 =>
        rw [e3] at q2
        dsimp only at q2
        refine ⟨H0, F3, ρ2, ds[i], ρ3, R3.rel, rx, e3, fun σ' R' _ _ => ⟨F3, ρ3, ⟨R', R3.gr⟩, ?_⟩⟩
        cases e4 : mb ρ3 with
        | err c => rw [e4] at q2; exact q2
        | stuck => rw [e4] at q2; exact q2
        | ok f =>
          rw [e4] at q2
          cases f with
          | rt d => exact q2
          | bk ρ4 => exact fun F4 H4 σ4 s4 R4 => q2 F4 H4 σ4 (sf3.trans s4) R4
          | nx ρ4 => exact fun F4 H4 σ4 s4 R4 => ⟨F4, ρ4, (sf.trans sf3).trans s4, R4, outS_mono (sf3.trans s4) q2⟩
          | ct ρ4 => exact fun F4 H4 σ4 s4 R4 => ⟨F4, ρ4, (sf.trans sf3).trans s4, R4, outS_mono (sf3.trans s4) q2⟩
    · refine .inl ⟨J1.stop i F2 H2 (by omega) sf R2.rel.sub, ?_⟩
      have hd : ds.drop i = [] := List.drop_eq_nil_of_le (by omega)
      rw [hd] at q2
      exact q2 F2 H2 σ2 (Same.refl _) R2
end

/-! ## while -/
def whileN (c : Env → Res Bool) (b : MS) : Nat → Env → Option (Res Flw)
  | 0, _ => none
  | n + 1, ρ => match c ρ with
    | .ok true => match b ρ with
      | .ok (.nx ρ') => whileN c b n ρ'
      | .ok (.ct ρ') => whileN c b n ρ'
      | .ok (.bk ρ') => some (.ok (.nx ρ'))
      | .ok (.rt d) => some (.ok (.rt d))
      | .err x => some (.err x)
      | .stuck => some .stuck
    | .ok false => some (.ok (.nx ρ))
    | .err x => some (.err x)
    | .stuck => some .stuck
theorem whileN_succ {c : Env → Res Bool} {b : MS} : ∀ {n : Nat} {ρ : Env} {r : Res Flw}, whileN c b n ρ = some r → whileN c b (n + 1) ρ = some r
  | 0, _, _, h => by cases h
  | n + 1, ρ, r, h => by
    unfold whileN at h ⊢
    split at h
    · split at h
      · exact whileN_succ h
      · exact whileN_succ h
      · exact h
      · exact h
      · exact h
      · exact h
    · exact h
    · exact h
    · exact h
theorem whileN_le {c : Env → Res Bool} {b : MS} {n k : Nat} {ρ : Env} {r : Res Flw} (h : whileN c b n ρ = some r) (hk : n ≤ k) : whileN c b k ρ = some r := by
  induction hk with
  | refl => exact h
  | step _ ih => exact whileN_succ ih
open Classical in
noncomputable def sWhile (c : Env → Res Bool) (b : MS) : MS := fun ρ => if h : ∃ n r, whileN c b n ρ = some r then Classical.choose (Classical.choose_spec h) else .stuck
theorem sWhile_of {c : Env → Res Bool} {b : MS} {n : Nat} {ρ : Env} {r : Res Flw} (h : whileN c b n ρ = some r) : sWhile c b ρ = r := by
  have hx : ∃ n r, whileN c b n ρ = some r := ⟨n, r, h⟩
  unfold sWhile
  rw [dif_pos hx]
  have h2 := Classical.choose_spec (Classical.choose_spec hx)
  have h3 := whileN_le h (Nat.le_max_left n (Classical.choose hx))
  have h4 := whileN_le h2 (Nat.le_max_right n (Classical.choose hx))
  rw [h3] at h4
  exact (Option.some.inj h4).symm
theorem sWhile_ex {c : Env → Res Bool} {b : MS} {ρ : Env} : sWhile c b ρ = .stuck ∨ ∃ n, whileN c b n ρ = some (sWhile c b ρ) := by
  by_cases hx : ∃ n r, whileN c b n ρ = some r
  · obtain ⟨n, r, h⟩ := hx
    exact .inr ⟨n, by rw [sWhile_of h]; exact h⟩
  · left
    unfold sWhile
    rw [dif_neg hx]
/-- one turn -/
theorem sWhile_eq (c : Env → Res Bool) (b : MS) (ρ : Env) : sWhile c b ρ = match c ρ with
    | .ok true => match b ρ with
      | .ok (.nx ρ') => sWhile c b ρ'
      | .ok (.ct ρ') => sWhile c b ρ'
      | .ok (.bk ρ') => .ok (.nx ρ')
      | .ok (.rt d) => .ok (.rt d)
      | .err x => .err x
      | .stuck => .stuck
    | .ok false => .ok (.nx ρ)
    | .err x => .err x
    | .stuck => .stuck := by
  cases e1 : c ρ with
  | err x => exact sWhile_of (n := 1) (by unfold whileN; rw [e1])
  | stuck => exact sWhile_of (n := 1) (by unfold whileN; rw [e1])
  | ok x =>
    cases x with
    | false => exact sWhile_of (n := 1) (by unfold whileN; rw [e1])
    | true =>
      have go : ∀ ρ', (∀ n, whileN c b (n + 1) ρ = whileN c b n ρ') → sWhile c b ρ = sWhile c b ρ' := fun ρ' h => by
        rcases sWhile_ex (c := c) (b := b) (ρ := ρ') with z | ⟨n, z⟩
        · rcases sWhile_ex (c := c) (b := b) (ρ := ρ) with y | ⟨n, y⟩
          · rw [y, z]
          · cases n with
            | zero => cases y
            | succ n => rw [h n] at y; rw [sWhile_of y]
        · exact sWhile_of (by rw [h n]; exact z)
      dsimp only
      cases e2 : b ρ with
      | err x => exact sWhile_of (n := 1) (by unfold whileN; rw [e1, e2])
      | stuck => exact sWhile_of (n := 1) (by unfold whileN; rw [e1, e2])
      | ok f =>
        cases f with
        | nx ρ' => exact go ρ' fun n => by rw [whileN, e1, e2]
        | ct ρ' => exact go ρ' fun n => by rw [whileN, e1, e2]
        | bk ρ' => exact sWhile_of (n := 1) (by unfold whileN; rw [e1, e2])
        | rt d => exact sWhile_of (n := 1) (by unfold whileN; rw [e1, e2])
section
variable {X : Cx} {cl : Nat → Addr} {H0 F0 : Hp} {W : Wish} {c : Expr} {body : List Stmt} {mc : Env → Res Bool} {mb : MS} {pos : Pos}
theorem vs_while (hp : PassesOwn (model X.prog X.w) X.A X.env X.xe) (hc : PT X c (tT X.K cl W mc)) (hb : PSs X body (tS X.K cl H0 F0 W mb)) : PS X (.While c body [] pos) (tS X.K cl H0 F0 W (sWhile mc mb)) := by
  refine PSi (ps_while hp hc hb) fun D σ H ⟨F, ρ, R, q⟩ => ?_
  rcases sWhile_ex (c := mc) (b := mb) (ρ := ρ) with z | ⟨n, z⟩
  · rw [z] at q; exact False.elim q
  · refine ⟨fun m σ H => ∃ F2 ρ2 r, RelS X.K cl H0 F0 F2 H σ ρ2 ∧ whileN mc mb m ρ2 = some r ∧ outS X.K cl H0 F0 W F2 r D, ⟨n, F, ρ, _, R, z, q⟩, ?_⟩
    rintro m σ2 H2 ⟨F2, ρ2, r, R2, w2, q2⟩
    refine ⟨H0, F2, ρ2, R2.rel, ?_⟩
    cases m with
    | zero => cases w2
    | succ m =>
      unfold whileN at w2
      cases e1 : mc ρ2 with
      | err x => rw [e1] at w2; cases w2; exact fun H' s' => q2 H' (R2.gr.hh.trans s')
      | stuck => rw [e1] at w2; cases w2; exact q2
      | ok x =>
        rw [e1] at w2
        intro F3 H3 g3
        have R3 := R2.grow g3
        have s3 := g3.ff R2.rel.sub
        cases x with
        | false => cases w2; exact q2 F3 H3 σ2 s3 R3
        | true =>
          dsimp only at w2
          refine ⟨fun σ' H' => ∃ F4 ρ4 r, RelS X.K cl H0 F0 F4 H' σ' ρ4 ∧ whileN mc mb m ρ4 = some r ∧ outS X.K cl H0 F0 W F4 r D, fun σ' H' ⟨F4, ρ4, r, a, b, c⟩ => ⟨m, Nat.lt_succ_self m, F4, ρ4, r, a, b, c⟩, F3, ρ2, R3, ?_⟩
          cases e4 : mb ρ2 with
          | err x => rw [e4] at w2; cases w2; exact q2
          | stuck => rw [e4] at w2; cases w2; exact q2
          | ok f =>
            rw [e4] at w2
            cases f with
            | rt d => cases w2; exact q2
            | bk ρ4 => cases w2; exact fun F4 H4 σ4 s4 R4 => q2 F4 H4 σ4 (s3.trans s4) R4
            | nx ρ4 => exact fun F4 H4 σ4 s4 R4 => ⟨F4, ρ4, r, R4, w2, outS_mono (s3.trans s4) q2⟩
            | ct ρ4 => exact fun F4 H4 σ4 s4 R4 => ⟨F4, ρ4, r, R4, w2, outS_mono (s3.trans s4) q2⟩
end

/-! ## comprehensions -/
def wipeE (ρ : Env) : List Nat → Env
  | [] => ρ
  | v :: vs => (wipeE ρ vs).set v none
theorem wipeE_length (ρ : Env) : ∀ vs : List Nat, (wipeE ρ vs).length = ρ.length
  | [] => rfl
  | v :: vs => by unfold wipeE; rw [List.length_set, wipeE_length ρ vs]
theorem wipeE_some {ρ : Env} {i : Nat} {x : O} : ∀ {vs : List Nat}, (wipeE ρ vs)[i]? = some (some x) → ρ[i]? = some (some x) ∧ i ∉ vs
  | [], h => ⟨h, by simp⟩
  | v :: vs, h => by
    unfold wipeE at h
    by_cases hi : v = i
    · subst hi
      by_cases hv : v < (wipeE ρ vs).length
      · rw [List.getElem?_set_self hv] at h; cases h
      · rw [List.getElem?_eq_none (by simpa using hv)] at h; cases h
    · rw [List.getElem?_set_ne hi] at h
      obtain ⟨h1, h2⟩ := wipeE_some h
      exact ⟨h1, by simp only [List.mem_cons, not_or]; exact ⟨fun e => hi e.symm, h2⟩⟩
theorem wipe_in {σ : St} {i : Nat} : ∀ {vs : List Nat}, i ∈ vs → i < σ.length → (wipe σ vs)[i]? = some none
  | v :: vs, h, hl => by
    unfold wipe
    by_cases hi : v = i
    · subst hi; rw [List.getElem?_set_self (by rw [wipe_length]; exact hl)]
    · rw [List.getElem?_set_ne hi]
      exact wipe_in ((List.mem_cons.mp h).resolve_left fun z => hi z.symm) hl
theorem wipe_again {σ σ' : St} {vs : List Nat} (hl : σ'.length = σ.length) (h : ∀ j, j ∉ vs → σ'[j]? = (wipe σ vs)[j]?) : wipe σ' vs = wipe σ vs := by
  refine List.ext_getElem? fun i => ?_
  by_cases hi : i ∈ vs
  · by_cases hb : i < σ.length
    · rw [wipe_in hi hb, wipe_in hi (by rw [hl]; exact hb)]
    · rw [List.getElem?_eq_none (by rw [wipe_length, hl]; omega), List.getElem?_eq_none (by rw [wipe_length]; omega)]
  · rw [wipe_out hi, h i hi]
theorem Rel.wipe {K : PySem.W.Frag} {cl : Nat → Addr} {B F H : Hp} {σ : St} {ρ : Env} (R : Rel K cl B F H σ ρ) (vs : List Nat) : Rel K cl B F H (L2.wipe σ vs) (wipeE ρ vs) :=
  R.weak (by rw [wipe_length, wipeE_length]; exact R.len) fun i o e => by
    obtain ⟨h1, h2⟩ := wipeE_some e
    exact ⟨h1, wipe_out h2⟩
def lcM (b : BD) (mt : Env → Res Bool) (me : ME) : List D → Env → Res (List D)
  | [], _ => .ok []
  | d :: ds, ρ => (b d ρ).bind fun ρ1 => (mt ρ1).bind fun t => if t then (me ρ1).bind fun x => (lcM b mt me ds ρ).bind fun xs => .ok (x :: xs) else lcM b mt me ds ρ
/-- the list of a comprehension -/
def mLcL (mi : Env → Res (List D)) (b : BD) (mt : Env → Res Bool) (me : ME) (vs : List Nat) : Env → Res (List D) := fun ρ => (mi ρ).bind fun ds =>
  if ds.length ≤ sizeLine then (lcM b mt me ds (wipeE ρ vs)).calm else .stuck
def mLc (mi : Env → Res (List D)) (b : BD) (mt : Env → Res Bool) (me : ME) (vs : List Nat) : ME := fun ρ => (mLcL mi b mt me vs ρ).bind fun xs => .ok (.lst xs)
def mYes : Env → Res Bool := fun _ => .ok true
/-- a new list, not yet frozen -/
def outN (K : PySem.W.Frag) (cl : Nat → Addr) (W : Wish) (r : Res (List D)) (F H : Hp) (Q : VK) : Prop := match r with
  | .ok ds => ∀ F' H' p vs, Grow F H F' H' → H p = none → H' p = some (.lst vs) → F' p = none → RepL K cl F' vs ds → Q (.ref p) H'
  | .err c => ∀ H', Same H H' → W c H'
  | .stuck => False
def tN (K : PySem.W.Frag) (cl : Nat → Addr) (W : Wish) (m : Env → Res (List D)) : TE := fun σ H Q => ∃ B F ρ, Rel K cl B F H σ ρ ∧ outN K cl W (m ρ) F H Q
theorem Grow.poke {F H F' H' : Hp} {p : Addr} {o : HO} (g : Grow F H F' H') (n : H p = none) (nf : F' p = none) (nt : isT o = false) : Grow F H F' (upd H' p o) := by
  refine ⟨fun a u e => ?_, fun a u e z => ?_, fun a u e => ?_, g.old⟩
  · by_cases h : a = p
    · subst h; rw [nf] at e; cases e
    · rw [upd_ne h]; exact g.sub a u e
  · by_cases h : a = p
    · subst h; rw [upd_same] at e; cases e; rw [nt] at z; cases z
    · rw [upd_ne h] at e; exact g.tups a u e z
  · rw [upd_ne (ne_of_none e n)]; exact g.hh a u e
/-- an own thing is frozen -/
theorem Grow.freeze {F H F' H' : Hp} {p : Addr} {o : HO} (g : Grow F H F' H') (n : H p = none) (e : H' p = some o) : Grow F H (upd F' p o) H' := by
  refine ⟨fun a u q => ?_, fun a u q z => ?_, g.hh, fun a u q => ?_⟩
  · by_cases h : a = p
    · subst h; rw [upd_same] at q; rw [e]; exact q
    · rw [upd_ne h] at q; exact g.sub a u q
  · by_cases h : a = p
    · subst h; rw [upd_same, ← e]; exact q
    · rw [upd_ne h]; exact g.tups a u q z
  · rw [upd_ne (ne_of_none q n)]; exact g.old a u q
theorem same_upd {F : Hp} {p : Addr} {o : HO} (n : F p = none) : Same F (upd F p o) := fun a u e => by rw [upd_ne (ne_of_none e n)]; exact e
section
variable {X : Cx} {cl : Nat → Addr} {W : Wish}
theorem outN_E {K : PySem.W.Frag} {r : Res (List D)} {F H : Hp} {Q : VK} (q : out K cl W (r.bind fun xs => .ok (.lst xs)) F H Q) : outN K cl W r F H Q := by
  cases r with
  | ok ds => exact fun F' H' p vs g n e nf rl => q (upd F' p (.lst vs)) H' (.ref p) (g.freeze n e) (.lst (.inl (.inl upd_same)) (rl.mono (same_upd nf)))
  | err c => exact q
  | stuck => exact q
theorem pe_N {e : Expr} {m : Env → Res (List D)} (h : PE X e (tN X.K cl W m)) : PE X e (tE X.K cl W fun ρ => (m ρ).bind fun xs => .ok (.lst xs)) :=
  PEi h fun σ H Q ⟨B, F, ρ, R, q⟩ => ⟨B, F, ρ, R, outN_E q⟩
variable {elt tg iter : Expr} {ifs : List Expr} {scope : Scope} {own : List (Str × Nat)} {pos : Pos} {w : Bool} {mi : Env → Res (List D)} {is : List Nat} {b : BD} {mt : Env → Res Bool} {me : ME}
theorem lc_read (his : ∀ i ∈ is, i ∈ own.map (·.2)) : ∀ σ H Q, tN X.K cl W (mLcL mi b mt me (own.map (·.2))) σ H Q → tLc (tI w X.K cl W mi) (tG w X.K cl is b) (tT X.K cl noW mt) (tE X.K cl noW me) (own.map (·.2)) σ H Q := by
  rintro σ H Q ⟨B, F, ρ, R, q⟩
  refine ⟨B, F, ρ, R, ?_⟩
  unfold mLcL at q
  cases e : mi ρ with
  | err c => rw [e] at q; exact q
  | stuck => rw [e] at q; exact q
  | ok ds =>
    rw [e] at q
    intro F1 H1 J g J1 Da nD
    simp only [Res.bind_ok] at q
    have R1 := (R.grow g).wipe (own.map (·.2))
    have hz : ds.length ≤ sizeLine := by
      by_cases h : ds.length ≤ sizeLine
      · exact h
      · rw [if_neg h] at q; exact False.elim q
    rw [if_pos hz] at q
    cases ez : lcM b mt me ds (wipeE ρ (own.map (·.2))) with
    | err c => rw [ez] at q; exact False.elim q
    | stuck => rw [ez] at q; exact False.elim q
    | ok zs =>
      rw [ez] at q
      refine ⟨fun i m H2 => m = ds.length - i ∧ ∃ F2 acc xs ys, Grow F1 H1 F2 H2 ∧ H2 Da = some (.lst acc) ∧ F2 Da = none ∧ RepL X.K cl F2 acc xs ∧ acc.length ≤ i ∧ lcM b mt me (ds.drop i) (wipeE ρ (own.map (·.2))) = .ok ys ∧ zs = xs ++ ys,
        ⟨ds.length, by omega, F1, [], [], zs, Grow.own g.sub g.tups nD rfl, upd_same, g.sub.free nD, .nil, by simp, ez, rfl⟩, ?_⟩
      rintro i m H2 ⟨rfl, F2, acc, xs, ys, g2, hD, nF, rl, ha, el, rfl⟩
      by_cases hi : i < ds.length
      · have hd : ds.drop i = ds[i] :: ds.drop (i + 1) := List.drop_eq_getElem_cons hi
        rw [hd] at el
        unfold lcM at el
        obtain ⟨go, yl⟩ := J1.go i ds[i] F2 H2 (List.getElem?_eq_getElem hi) (g2.ff g.sub) g2.sub g2.tups
        refine .inr ⟨go, fun H' => ∃ F2 acc xs' ys, Grow F1 H1 F2 H' ∧ H' Da = some (.lst acc) ∧ F2 Da = none ∧ RepL X.K cl F2 acc xs' ∧ acc.length ≤ i + 1 ∧ lcM b mt me (ds.drop (i + 1)) (wipeE ρ (own.map (·.2))) = .ok ys ∧ xs ++ _ = xs' ++ ys, fun H' h => ⟨ds.length - (i + 1), by omega, rfl, h⟩, fun x H' y => ?_⟩
        obtain ⟨F3, g3, rx⟩ := yl x H' y
        have g13 := g2.trans g3
        cases e3 : b ds[i] (wipeE ρ (own.map (·.2))) with
        | err c => rw [e3] at el; cases el
        | stuck => rw [e3] at el; cases el
        | ok ρ3 =>
          rw [e3] at el
          simp only [Res.bind_ok] at el
          refine ⟨B, F3, _, ds[i], ρ3, R1.grow g13, rx, e3, fun σ' R' hl hk => ⟨?_, ?_⟩⟩
          · exact wipe_again (by rw [hl, wipe_length]) fun j hj => hk j fun z => hj (his j z)
          · refine ⟨B, F3, ρ3, R', ?_⟩
            cases e4 : mt ρ3 with
            | err c => rw [e4] at el; cases el
            | stuck => rw [e4] at el; cases el
            | ok t =>
              rw [e4] at el
              simp only [Res.bind_ok] at el
              intro F4 H4 g4
              have g14 := g13.trans g4
              have hD4 : H4 Da = some (.lst acc) := g4.hh _ _ (g3.hh _ _ hD)
              have nF4 : F4 Da = none := by rw [g4.old _ _ (g3.hh _ _ hD), g3.old _ _ hD]; exact nF
              have s24 : Same F2 F4 := (g3.ff g2.sub).trans (g4.ff g3.sub)
              cases t with
              | false =>
                simp only [Bool.false_eq_true, if_false] at el ⊢
                exact ⟨F4, acc, xs, ys, g14, hD4, nF4, rl.mono s24, Nat.le_succ_of_le ha, el, rfl⟩
              | true =>
                simp only [if_true] at el ⊢
                refine ⟨B, F4, ρ3, R'.grow g4, ?_⟩
                cases e5 : me ρ3 with
                | err c => rw [e5] at el; cases el
                | stuck => rw [e5] at el; cases el
                | ok dx =>
                  rw [e5] at el
                  simp only [Res.bind_ok] at el
                  intro F5 H5 v g5 r5
                  cases e6 : lcM b mt me (ds.drop (i + 1)) (wipeE ρ (own.map (·.2))) with
                  | err c => rw [e6] at el; cases el
                  | stuck => rw [e6] at el; cases el
                  | ok us =>
                    rw [e6] at el
                    cases el
                    have nF5 : F5 Da = none := by rw [g5.old _ _ hD4]; exact nF4
                    refine ⟨acc, g5.hh _ _ hD4, by omega, F5, acc ++ [v], xs ++ [dx], us, Grow.poke (g14.trans g5) nD nF5 rfl, upd_same, nF5, (rl.mono (s24.trans (g5.ff g4.sub))).append (.cons r5 .nil), by simp; omega, rfl, by simp⟩
      · refine .inl ⟨J1.stop i F2 H2 (by omega) (g2.ff g.sub) g2.sub, ?_⟩
        have hd : ds.drop i = [] := List.drop_eq_nil_of_le (by omega)
        rw [hd] at el
        cases el
        rw [List.append_nil] at q
        have nH : H Da = none := g.hh.free nD
        exact q F2 H2 Da acc (g.trans g2) nH hD nF rl
theorem PTsi {X : Cx} {e : List Expr} {t t' : TT} (h : PTs X e t) (i : ∀ σ H Q, t' σ H Q → t σ H Q) : PTs X e t' := ⟨fun pins s σ H Q I q => h.run pins s σ H Q I (i σ H Q q)⟩
theorem vts_nil : PTs X [] (tT X.K cl W mYes) := PTsi pts_nil fun σ H Q ⟨B, F, ρ, R, q⟩ => q F H (Grow.refl R.sub R.tups)
theorem vts_one {c : Expr} {m : Env → Res Bool} (h : PT X c (tT X.K cl W m)) : PTs X [c] (tT X.K cl W m) := pts_one h
theorem ve_lcN (hc : X.calm = true) (hN : X.N.Nodup) (hi : PI X tg iter (tI w X.K cl W mi)) (ok : BlkOk X.N X.env.scope scope own)
    (hg : ∀ (s : Shared) (H : Hp) (C : Addr) (c : List (Str × Addr)) (fp : List Addr), PG (X.blk s H scope (compEnvC scope c C X.env) fp) tg (tG w X.K cl is b)) (his : ∀ i ∈ is, i ∈ own.map (·.2))
    (ht : ∀ (s : Shared) (H : Hp) (C : Addr) (c : List (Str × Addr)) (fp : List Addr), PTs (X.blk s H scope (compEnvC scope c C X.env) fp) ifs (tT X.K cl noW mt))
    (he : ∀ (s : Shared) (H : Hp) (C : Addr) (c : List (Str × Addr)) (fp : List Addr), PE (X.blk s H scope (compEnvC scope c C X.env) fp) elt (tE X.K cl noW me)) (hs : ∀ x, foldedSetIterable iter X.env x = pure x := by intro _; rfl) :
    PE X (.ListComp elt [⟨tg, iter, ifs, 0⟩] scope pos) (tN X.K cl W (mLcL mi b mt me (own.map (·.2)))) :=
  PEi (pe_lc hc hN hi ok hg ht he hs) (lc_read his)
theorem ve_lc (hc : X.calm = true) (hN : X.N.Nodup) (hi : PI X tg iter (tI w X.K cl W mi)) (ok : BlkOk X.N X.env.scope scope own)
    (hg : ∀ (s : Shared) (H : Hp) (C : Addr) (c : List (Str × Addr)) (fp : List Addr), PG (X.blk s H scope (compEnvC scope c C X.env) fp) tg (tG w X.K cl is b)) (his : ∀ i ∈ is, i ∈ own.map (·.2))
    (ht : ∀ (s : Shared) (H : Hp) (C : Addr) (c : List (Str × Addr)) (fp : List Addr), PTs (X.blk s H scope (compEnvC scope c C X.env) fp) ifs (tT X.K cl noW mt))
    (he : ∀ (s : Shared) (H : Hp) (C : Addr) (c : List (Str × Addr)) (fp : List Addr), PE (X.blk s H scope (compEnvC scope c C X.env) fp) elt (tE X.K cl noW me)) (hs : ∀ x, foldedSetIterable iter X.env x = pure x := by intro _; rfl) :
    PE X (.ListComp elt [⟨tg, iter, ifs, 0⟩] scope pos) (tE X.K cl W (mLc mi b mt me (own.map (·.2)))) := pe_N (ve_lcN hc hN hi ok hg his ht he hs)
/-- y = [..] on one line -/
theorem vs_setLc {H0 F0 : Hp} {i : Nat} {y : Str} {py spos : Pos} (hc : X.calm = true) (hN : X.N.Nodup) (hy : X.N[i]? = some y) (hyl : X.env.scope.names.lookup y = some .local)
    (hsw : swapsWith (.ListComp elt [⟨tg, iter, ifs, 0⟩] scope pos) (some (.Name y py)) spos.line X.env = pure true) (hi : PI X tg iter (tI w X.K cl W mi)) (ok : BlkOk X.N X.env.scope scope own)
    (hg : ∀ (s : Shared) (H : Hp) (C : Addr) (c : List (Str × Addr)) (fp : List Addr), PG (X.blk s H scope (compEnvC scope c C X.env) fp) tg (tG w X.K cl is b)) (his : ∀ i ∈ is, i ∈ own.map (·.2))
    (ht : ∀ (s : Shared) (H : Hp) (C : Addr) (c : List (Str × Addr)) (fp : List Addr), PTs (X.blk s H scope (compEnvC scope c C X.env) fp) ifs (tT X.K cl noW mt))
    (he : ∀ (s : Shared) (H : Hp) (C : Addr) (c : List (Str × Addr)) (fp : List Addr), PE (X.blk s H scope (compEnvC scope c C X.env) fp) elt (tE X.K cl noW me)) (hs : ∀ x, foldedSetIterable iter X.env x = pure x := by intro _; rfl) :
    PS X (.Assign [.Name y py] (.ListComp elt [⟨tg, iter, ifs, 0⟩] scope pos) spos) (tS X.K cl H0 F0 W (sSet i (mLc mi b mt me (own.map (·.2))))) :=
  PSi (ps_setLc hc hN hy hyl hsw hi ok hg ht he hs) fun D σ H ⟨F, ρ, R, q⟩ => by
    have z : tE X.K cl W (mLc mi b mt me (own.map (·.2))) σ H (fun v H1 => gName i v σ H1 D.nx) := thenS R q fun d F1 H1 v _ R1 r q1 => q1 F1 H1 _ (Same.refl _) ⟨R1.rel.set i r, R1.gr⟩
    obtain ⟨B, F', ρ', R', q'⟩ := z
    exact lc_read his σ H _ ⟨B, F', ρ', R', outN_E q'⟩
end
end CH
namespace CH
open PySem PySem.Spec L2

/-! ## numbers -/
def dAdd : D → D → Res D
  | .int i, .int j => .ok (.int (i + j))
  | .str x, .str y => if x.length + y.length ≤ sizeLine then .ok (.str (x ++ y)) else .stuck
  | .tup xs, .tup ys => if xs.length + ys.length ≤ sizeLine then .ok (.tup (xs ++ ys)) else .stuck
  | .lst xs, .lst ys => if xs.length + ys.length ≤ sizeLine then .ok (.lst (xs ++ ys)) else .stuck
  | _, _ => .stuck
def dSub : D → D → Res D
  | .int i, .int j => .ok (.int (i - j))
  | _, _ => .stuck
def mulOk (i j : Int) : Bool := !(decide (Builtin.Int.intBits i > shortFactorBits) && decide (Builtin.Int.intBits j > shortFactorBits) && Builtin.Int.intTooBig (Builtin.Int.intBits i + Builtin.Int.intBits j))
theorem mulOk_ok {i j : Int} (h : mulOk i j = true) : IntMulOk i j := by
  unfold mulOk at h
  unfold IntMulOk
  intro z
  rw [z] at h
  cases h
/-- * of numbers; a tuple or a list times a number -/
def dMul : D → D → Res D
  | .int i, .int j => if mulOk i j then .ok (.int (i * j)) else .stuck
  | .tup xs, .int k => if xs ≠ [] ∧ 2 ≤ k ∧ k ≤ 1000 ∧ xs.length ≤ 1000 then .ok (.tup (List.replicate k.toNat xs).flatten) else if xs ≠ [] ∧ k = 1 then .ok (.tup xs) else .stuck
  | .lst xs, .int k => if 0 ≤ k ∧ k < 1000 ∧ xs.length ≤ 1000 then .ok (.lst (List.replicate k.toNat xs).flatten) else .stuck
  | _, _ => .stuck
def dMod : D → D → Res D
  | .int i, .int j => if 0 < j then .ok (.int (i % j)) else .stuck
  | _, _ => .stuck
def dDiv : D → D → Res D
  | .int i, .int j => if 0 < j ∧ Builtin.divisionGoesByPylong i j = false then .ok (.int (i / j)) else .stuck
  | _, _ => .stuck
def dNeg : D → Res D
  | .int i => .ok (.int (-i))
  | _ => .stuck
def dLt : D → D → Res D
  | .int i, .int j => .ok (.bl (decide (i < j)))
  | _, _ => .stuck
def dLe : D → D → Res D
  | .int i, .int j => .ok (.bl (decide (i ≤ j)))
  | _, _ => .stuck
def dGt : D → D → Res D
  | .int i, .int j => .ok (.bl (decide (j < i)))
  | _, _ => .stuck
def dGe : D → D → Res D
  | .int i, .int j => .ok (.bl (decide (j ≤ i)))
  | _, _ => .stuck
section
variable {K : PySem.W.Frag} {cl : Nat → Addr} {F H : Hp} {v : V}
theorem RepB.int {i : Int} (r : RepB K cl F H v (.int i)) : v = .int i := by cases r; rfl
theorem RepB.str {x : Str} (r : RepB K cl F H v (.str x)) : v = .str x := by cases r; rfl
theorem RepB.bl {b : Bool} (r : RepB K cl F H v (.bl b)) : v = .bl b := by cases r; rfl
theorem RepB.non (r : RepB K cl F H v .non) : v = .non := by cases r; rfl
theorem RepB.tup {ds : List D} (r : RepB K cl F H v (.tup ds)) : ∃ a vs, v = .ref a ∧ Tp K F a vs ∧ RepL K cl F vs ds := by
  cases r with | tup h r => exact ⟨_, _, rfl, h, r⟩
theorem sqH {a : Addr} {vs : List V} (s : Same F H) (h : Tp K F a vs) : SqT K H a vs := Same.sqt s h.sq
/-- the answer of an operation is a plain thing -/
theorem out_v {W : Wish} {d : D} {Q : VK} {v : V} (s : Same F H) (t : TupC F H) (q : out K cl W (.ok d) F H Q) (r : Rep K cl F v d) : Q v H := q F H v (Grow.refl s t) r
end
section
variable {X : Cx} {cl : Nat → Addr}
def rCatF (K : PySem.W.Frag) : R2 := fun x y H Q => ∃ a b xs ys, x = .ref a ∧ y = .ref b ∧ SqT K H a xs ∧ SqT K H b ys ∧ xs.length + ys.length ≤ sizeLine ∧
  (xs = [] → Q (.ref b) H) ∧ (xs ≠ [] → ys = [] → Q (.ref a) H) ∧ (xs ≠ [] → ys ≠ [] → NewT H (xs ++ ys) Q)
theorem op_catF : OpR X (binaryOp .Add) (rCatF X.K) := by
  intro pins s σ H x y v u Q I rx ry h
  obtain ⟨a, b, xs, ys, rfl, rfl, ha, hb, hz, q0, q1, q2⟩ := h
  cases rx
  cases ry
  obtain ⟨its, r1, p1, _⟩ := I.tuple ha
  obtain ⟨its2, r2, p2, _⟩ := I.tuple hb
  by_cases hx : xs = []
  · subst hx
    cases r1
    exact cat_tup0 p1 p2 ⟨.ref b, H, I, rfl, q0 rfl⟩
  · refine HT.cat_tup p1 p2 (fun z => hx (r1.nil_iff.mp z)) (fun z => ⟨.ref a, H, I, rfl, q1 hx (r2.nil_iff.mp z)⟩) (fun z => ?_) (by rw [← r1.length, ← r2.length]; exact hz)
    exact ⟨.ref s.heap.objs.size, _, Inv.newT (t' := s.toks) I (r1.append r2) (by rw [List.length_append]; exact hz), rfl, q2 hx (fun w => z (r2.nil_iff.mpr w)) _ _ (I.hok.fresh (Nat.le_refl _)) rfl⟩
def rCatL (K : PySem.W.Frag) : R2 := fun x y H Q => ∃ l b xs zs, x = .ref l ∧ y = .ref b ∧ SqL K H l xs ∧ SqL K H b zs ∧ xs.length + zs.length ≤ sizeLine ∧ ∀ p, H p = none → Q (.ref p) (upd H p (.lst (xs ++ zs)))
theorem op_catL : OpR X (binaryOp .Add) (rCatL X.K) := by
  intro pins s σ H x y v u Q I rx ry h
  obtain ⟨l, b, xs, zs, rfl, rfl, hH, hB, hz, q⟩ := h
  cases rx
  cases ry
  obtain ⟨its, r, pl, z⟩ := I.list hH
  obtain ⟨its2, r2, pl2, z2⟩ := I.list hB
  have hl := r.length
  have hl2 := r2.length
  obtain ⟨⟨cls, dd, data, sl⟩, ho, hc, n, hd⟩ := id pl.isList
  obtain ⟨⟨cls2, dd2, data2, sl2⟩, ho2, hc2, n2, hd2⟩ := id pl2.isList
  simp only at hc hd hc2 hd2
  subst hc hd hc2 hd2
  have ea : its.toArray ++ its2.toArray = (its ++ its2).toArray := by simp
  refine concat_meets ⟨_, ho, rfl⟩ ⟨_, ho2, rfl⟩ noFill_list_add seq_list_add PySem.F.slot_list_add PySem.F.entry_list_add (PySem.F.args_list_add_2 _ _) (PyProof.Rows.list_addW l b its.toArray its2.toArray n n2 dd dd2 sl sl2 (by simp; omega)) ⟨ho, ho2, ?_⟩
  rw [ea]
  exact ⟨.ref _, _, I.lnew (t' := s.toks) (r.append r2) (by rw [List.length_append]; omega), rfl, q _ I.fresh⟩
abbrev rAddA (K : PySem.W.Frag) : R2 := fun x y H Q => (rI0 fun i j => V.int (i + j)) x y H Q ∨ (∃ i j, x = .str i ∧ y = .str j ∧ i.length + j.length ≤ sizeLine ∧ Q (.str (i ++ j)) H) ∨ rCatF K x y H Q ∨ rCatL K x y H Q
theorem o_add : OpR X (binaryOp .Add) (rAddA X.K) := op_add.or (op_add_str.or (op_catF.or op_catL))
theorem f_add : Op2 X.K cl dAdd (rAddA X.K) := by
  intro W F H Q v w x y s t rx ry q
  unfold dAdd at q
  split at q
  · exact .inl ⟨_, _, rx.int, ry.int, out_v s t q (.int _)⟩
  · split at q
    · rename_i h; exact .inr (.inl ⟨_, _, rx.str, ry.str, h, out_v s t q (.str _)⟩)
    · exact False.elim q
  · split at q
    · rename_i xs ys h
      obtain ⟨a, vs, rfl, ha, ra⟩ := rx.tup
      obtain ⟨b, ws, rfl, hb, rb⟩ := ry.tup
      refine .inr (.inr (.inl ⟨a, b, vs, ws, rfl, rfl, sqH s ha, sqH s hb, by rw [ra.length, rb.length]; exact h, fun z => ?_, fun _ z => ?_, fun _ _ => newT_out s t (ra.append rb) q⟩))
      · subst z; cases ra; exact out_v s t q (.tup hb rb)
      · subst z; cases rb; rw [List.append_nil] at q; exact out_v s t q (.tup ha ra)
    · exact False.elim q
  · split at q
    · rename_i xs ys h
      obtain ⟨a, vs, rfl, ha, ra⟩ := rx
      obtain ⟨b, ws, rfl, hb, rb⟩ := ry
      exact .inr (.inr (.inr ⟨a, b, vs, ws, rfl, rfl, ha, hb, by rw [ra.length, rb.length]; exact h, fun p n => newL_out s t (ra.append rb) q n⟩))
    · exact False.elim q
  · exact False.elim q
theorem f_sub : Op2 X.K cl dSub (rI0 fun i j => V.int (i - j)) := by
  intro W F H Q v w x y s t rx ry q
  unfold dSub at q
  split at q
  · exact ⟨_, _, rx.int, ry.int, out_v s t q (.int _)⟩
  · exact False.elim q
theorem f_mod : Op2 X.K cl dMod (rI (fun _ j => 0 < j) fun i j => V.int (i % j)) := by
  intro W F H Q v w x y s t rx ry q
  unfold dMod at q
  split at q
  · split at q
    · rename_i h; exact ⟨_, _, rx.int, ry.int, h, out_v s t q (.int _)⟩
    · exact False.elim q
  · exact False.elim q
theorem o_div : OpR X (binaryOp .FloorDiv) (rI (fun i j => 0 < j ∧ Builtin.divisionGoesByPylong i j = false) fun i j => V.int (i / j)) := opI fun i j _ _ _ _ _ hc q => by
  refine PyProof.Rows.floordiv_int (by omega) ?_ (.inl hc.2)
  rw [Int.fdiv_eq_ediv_of_nonneg _ (by omega)]
  exact q
theorem f_div : Op2 X.K cl dDiv (rI (fun i j => 0 < j ∧ Builtin.divisionGoesByPylong i j = false) fun i j => V.int (i / j)) := by
  intro W F H Q v w x y s t rx ry q
  unfold dDiv at q
  split at q
  · split at q
    · rename_i h; exact ⟨_, _, rx.int, ry.int, h, out_v s t q (.int _)⟩
    · exact False.elim q
  · exact False.elim q
theorem o_mulI : OpR X (binaryOp .Mult) (rI (fun i j => mulOk i j = true) fun i j => V.int (i * j)) := opI fun _ _ _ _ _ _ _ hc q => PyProof.Rows.mul_int q (mulOk_ok hc)
theorem f_neg : Op1 X.K cl dNeg (rU fun i => V.int (-i)) := by
  intro W F H Q v x s t rx q
  unfold dNeg at q
  split at q
  · exact ⟨_, rx.int, out_v s t q (.int _)⟩
  · exact False.elim q
theorem f_lt : Op2 X.K cl dLt (rI0 fun i j => V.bl (decide (i < j))) := by
  intro W F H Q v w x y s t rx ry q
  unfold dLt at q
  split at q
  · exact ⟨_, _, rx.int, ry.int, out_v s t q (.bl _)⟩
  · exact False.elim q
theorem f_le : Op2 X.K cl dLe (rI0 fun i j => V.bl (decide (i ≤ j))) := by
  intro W F H Q v w x y s t rx ry q
  unfold dLe at q
  split at q
  · exact ⟨_, _, rx.int, ry.int, out_v s t q (.bl _)⟩
  · exact False.elim q
theorem f_gt : Op2 X.K cl dGt (rI0 fun i j => V.bl (decide (j < i))) := by
  intro W F H Q v w x y s t rx ry q
  unfold dGt at q
  split at q
  · exact ⟨_, _, rx.int, ry.int, out_v s t q (.bl _)⟩
  · exact False.elim q
theorem f_ge : Op2 X.K cl dGe (rI0 fun i j => V.bl (decide (j ≤ i))) := by
  intro W F H Q v w x y s t rx ry q
  unfold dGe at q
  split at q
  · exact ⟨_, _, rx.int, ry.int, out_v s t q (.bl _)⟩
  · exact False.elim q
/-- * -/
def rRepF (K : PySem.W.Frag) : R2 := fun x y H Q => ∃ l k xs, x = .ref l ∧ y = .int k ∧ SqT K H l xs ∧ xs ≠ [] ∧ 2 ≤ k ∧ k ≤ 1000 ∧ xs.length ≤ 1000 ∧ NewT H (List.replicate k.toNat xs).flatten Q
end

/-! ## == -/
mutual
def D.py : D → Option PyData
  | .non => some .none
  | .bl b => some (.bool b)
  | .int i => some (.int i)
  | .str x => some (.str x)
  | .tup xs => (pyL xs).map .tuple
  | .lst xs => (pyL xs).map .list
  | .dct _ => none
  | .ins _ _ => none
def pyL : List D → Option (List PyData)
  | [] => some []
  | x :: xs => (D.py x).bind fun a => (pyL xs).map (a :: ·)
end
def dEqB (x y : D) : Res Bool := match x.py, y.py with
  | some p, some q => if SeqAt.shaped p && SeqAt.shaped q then .ok (PyData.eqv p q) else .stuck
  | _, _ => .stuck
def dEq (x y : D) : Res D := (dEqB x y).bind fun b => .ok (.bl b)
def dNe (x y : D) : Res D := (dEqB x y).bind fun b => .ok (.bl (!b))
section
variable {K : PySem.W.Frag} {cl : Nat → Addr} {F H : Hp}
mutual
theorem Rep.dp (s : Same F H) : ∀ {v : V} {d : D} {p : PyData}, Rep K cl F v d → d.py = some p → Dp K H v p
  | _, _, _, .non, e => by simp only [D.py] at e; cases e; exact .non
  | _, _, _, .bl b, e => by simp only [D.py] at e; cases e; exact .bl b
  | _, _, _, .int i, e => by simp only [D.py] at e; cases e; exact .int i
  | _, _, _, .str x, e => by simp only [D.py] at e; cases e; exact .str x
  | _, _, _, .tup h r, e => by
    simp only [D.py, Option.map_eq_some_iff] at e
    obtain ⟨ps, e1, rfl⟩ := e
    exact .tup (Same.sqt s h.sq) (RepL.dp s r e1)
  | _, _, _, .lst h r, e => by
    simp only [D.py, Option.map_eq_some_iff] at e
    obtain ⟨ps, e1, rfl⟩ := e
    exact .lst (Same.sql s h) (RepL.dp s r e1)
  | _, _, _, .dct h r, e => by simp [D.py] at e
  | _, _, _, .ins h r, e => by simp [D.py] at e
theorem RepL.dp (s : Same F H) : ∀ {vs : List V} {ds : List D} {ps : List PyData}, RepL K cl F vs ds → pyL ds = some ps → DpAll K H vs ps
  | _, _, _, .nil, e => by simp only [pyL] at e; cases e; exact .nil
  | _, _, _, .cons h r, e => by
    simp only [pyL, Option.bind_eq_some_iff, Option.map_eq_some_iff] at e
    obtain ⟨a, e1, b, e2, rfl⟩ := e
    exact .cons (Rep.dp s h e1) (RepL.dp s r e2)
end
theorem RepB.dp {v : V} {d : D} {p : PyData} (s : Same F H) (r : RepB K cl F H v d) (e : d.py = some p) : Dp K H v p := by
  cases d with
  | lst ds =>
    obtain ⟨a, vs, rfl, h, r⟩ := r
    simp only [D.py, Option.map_eq_some_iff] at e
    obtain ⟨ps, e1, rfl⟩ := e
    exact .lst h (RepL.dp s r e1)
  | dct ds => simp [D.py] at e
  | non => exact Rep.dp s r e
  | bl _ => exact Rep.dp s r e
  | int _ => exact Rep.dp s r e
  | str _ => exact Rep.dp s r e
  | tup _ => exact Rep.dp s r e
  | ins _ _ => exact Rep.dp s r e
end
section
variable {X : Cx} {cl : Nat → Addr}
theorem f_eq : Op2 X.K cl dEq (rEqD X.K) := by
  intro W F H Q v w x y s t rx ry q
  unfold dEq dEqB at q
  split at q
  · rename_i p p' e1 e2
    split at q
    · rename_i h
      obtain ⟨h1, h2⟩ := Bool.and_eq_true_iff.mp h
      exact ⟨p, p', rx.dp s e1, ry.dp s e2, h1, h2, out_v s t q (.bl _)⟩
    · exact False.elim q
  · exact False.elim q
theorem f_ne : Op2 X.K cl dNe (rNeD X.K) := by
  intro W F H Q v w x y s t rx ry q
  unfold dNe dEqB at q
  split at q
  · rename_i p p' e1 e2
    split at q
    · rename_i h
      obtain ⟨h1, h2⟩ := Bool.and_eq_true_iff.mp h
      exact ⟨p, p', rx.dp s e1, ry.dp s e2, h1, h2, out_v s t q (.bl _)⟩
    · exact False.elim q
  · exact False.elim q
end

/-! ## o[i] -/
def keyEq (j k : D) : Bool := match j, k with
  | .int a, .int b => decide (a = b)
  | .str a, .str b => decide (a = b)
  | _, _ => false
theorem keyEq_key (j k : Key) : keyEq (dKey j) (dKey k) = decide (j = k) := by
  cases j with
  | inl a => cases k with
    | inl b => simp [dKey, keyEq]
    | inr b => simp [dKey, keyEq]
  | inr a => cases k with
    | inl b => simp [dKey, keyEq]
    | inr b => simp [dKey, keyEq]
def lookD (k : D) : List (D × D) → Option D
  | [] => none
  | (j, v) :: r => if keyEq j k then some v else lookD k r
def dIx : D → D → Res D
  | .lst ds, .int i => match atI ds i with | some d => .ok d | none => .stuck
  | .tup ds, .int i => match atI ds i with | some d => .ok d | none => .stuck
  | .str z, .int i => if z.length ≤ sizeLine then match atI z.cps.toList i with | some c => .ok (.str ⟨#[c]⟩) | none => .stuck else .stuck
  | .dct kvs, .int i => match lookD (.int i) kvs with | some d => .ok d | none => .stuck
  | .dct kvs, .str i => match lookD (.str i) kvs with | some d => .ok d | none => .stuck
  | _, _ => .stuck
section
variable {K : PySem.W.Frag} {cl : Nat → Addr} {F H : Hp}
theorem atI_rep {vs : List V} {ds : List D} {i : Int} {d : D} (r : RepL K cl F vs ds) (e : atI ds i = some d) : ∃ v, atI vs i = some v ∧ Rep K cl F v d := by
  unfold atI at e ⊢
  rw [r.length]
  cases h : ixN ds.length i with
  | none => rw [h] at e; cases e
  | some j =>
    rw [h] at e
    obtain ⟨v, h1, h2⟩ := r.get (i := j) e
    exact ⟨v, h1, h2⟩
theorem lookD_rep (k : Key) : ∀ {kvs : List (Key × V)} {ds : List (D × D)}, RepD K cl F kvs ds → (lookD (dKey k) ds = none → valV kvs k = none) ∧ ∀ d, lookD (dKey k) ds = some d → ∃ v, valV kvs k = some v ∧ Rep K cl F v d
  | _, _, .nil => ⟨fun _ => rfl, fun d e => by cases e⟩
  | _, _, .cons (k := j) (v := v) h r => by
    obtain ⟨ih1, ih2⟩ := lookD_rep k r
    unfold lookD
    rw [keyEq_key]
    by_cases e : j = k
    · rw [if_pos (by simpa using e)]
      refine ⟨fun z => by (cases z), fun d z => ?_⟩
      cases z
      exact ⟨v, valV_pos e, h⟩
    · rw [if_neg (by simpa using e)]
      rw [valV_neg e]
      exact ⟨ih1, ih2⟩
end
section
variable {X : Cx} {cl : Nat → Addr}
def rIxD : R2 := fun x y H Q => ∃ a v, x = .ref a ∧ DGet H a y (some v) ∧ Q v H
theorem ix_dict (hu : X.A.units + 1 < cLine) : IxR X rIxD := by
  intro value slice pins s σ H x y v u Q I rx ry q hs
  obtain ⟨a, z, rfl, g, q⟩ := q
  cases rx
  exact PyProof.Rows.tail_any (dict_typeIs I g) PySem.F.slot_dict_getitem.lookup (d_getItem hu I g ry fun w' s3 I3 rw' => ⟨z, H, I3, rw', q⟩) hs
theorem o_ix (hu : X.A.units + 1 < cLine) : IxR X (fun x y H Q => rIx X.K x y H Q ∨ rIxD x y H Q) := ix_seq.or (ix_dict hu)
theorem f_ix : Op2 X.K cl dIx (fun x y H Q => rIx X.K x y H Q ∨ rIxD x y H Q) := by
  intro W F H Q v w x y s t rx ry q
  unfold dIx at q
  split at q
  · split at q
    · rename_i e
      obtain ⟨a, vs, rfl, h, r⟩ := rx
      obtain ⟨z, e1, r1⟩ := atI_rep r e
      exact .inl (.inl ⟨a, vs, _, z, rfl, ry.int, h, e1, out_v s t q r1⟩)
    · exact False.elim q
  · split at q
    · rename_i e
      obtain ⟨a, vs, rfl, h, r⟩ := rx.tup
      obtain ⟨z, e1, r1⟩ := atI_rep r e
      exact .inl (.inr (.inl ⟨a, vs, _, z, rfl, ry.int, sqH s h, e1, out_v s t q r1⟩))
    · exact False.elim q
  · split at q
    · rename_i hz
      split at q
      · rename_i e
        exact .inl (.inr (.inr ⟨_, _, _, rx.str, ry.int, hz, e, out_v s t q (.str _)⟩))
      · exact False.elim q
    · exact False.elim q
  · split at q
    · rename_i kvs i _ d e
      obtain ⟨a, vs, rfl, h, r⟩ := rx
      obtain ⟨z, e1, r1⟩ := (lookD_rep (.inl i) r).2 d e
      exact .inr ⟨a, z, rfl, .inl ⟨vs, .inl i, h, ry.int, e1.symm⟩, out_v s t q r1⟩
    · exact False.elim q
  · split at q
    · rename_i kvs i _ d e
      obtain ⟨a, vs, rfl, h, r⟩ := rx
      obtain ⟨z, e1, r1⟩ := (lookD_rep (.inr i) r).2 d e
      exact .inr ⟨a, z, rfl, .inl ⟨vs, .inr i, h, ry.str, e1.symm⟩, out_v s t q r1⟩
    · exact False.elim q
  · exact False.elim q
end
end CH
namespace CH
open PySem PySem.Spec L2

/-! ## * -/
section
variable {X : Cx} {cl : Nat → Addr}
theorem op_repF : OpR X (binaryOp .Mult) (rRepF X.K) := by
  intro pins s σ H x y v u Q I rx ry h
  obtain ⟨l, k, xs, rfl, rfl, hT, hne, h1, h2, hz, q⟩ := h
  cases rx
  obtain ⟨t, rfl⟩ := ry
  obtain ⟨its, r, ⟨⟨cls, dd, data, sl⟩, ho, hc, n, hd⟩, hs⟩ := I.tuple hT
  simp only at hc hd
  subst hc hd
  have hle : its.length = xs.length := r.length.symm
  have hn : its ≠ [] := fun e => hne (by
    rw [e] at hle
    exact List.eq_nil_of_length_eq_zero hle.symm)
  have hi : its.toArray.isEmpty = false := by
    cases its with
    | nil => exact absurd rfl hn
    | cons a b => rfl
  have hsz0 : its.toArray.size = xs.length := by rw [List.size_toArray, hle]
  have hm : ((its.toArray.size : Nat) : Int) * k ≤ 1000000 := by
    rw [hsz0]
    have a1 : ((xs.length : Nat) : Int) * k ≤ 1000 * k := Int.mul_le_mul_of_nonneg_right (by omega) (by omega)
    omega
  have flen : (List.replicate k.toNat its).flatten.length ≤ sizeLine := by
    rw [PyProof.Rows.lm_len_rep_flat, hle, sizeLine_eq]
    have a1 : k.toNat * xs.length ≤ 1000 * 1000 := Nat.mul_le_mul (by omega) hz
    omega
  have c0 : (decide (k < -(2 ^ 63)) || decide (k ≥ 2 ^ 63)) = false := by
    rw [decide_eq_false (by omega), decide_eq_false (by omega)] <;> rfl
  have c1 : (its.toArray.isEmpty || k == 1) = false := by
    rw [hi, Bool.false_or]
    exact beq_eq_false_iff_ne.mpr (by omega)
  have c2 : (decide (k ≤ 0) || its.toArray.isEmpty) = false := by
    rw [hi, Bool.or_false]
    exact decide_eq_false (by omega)
  have c4 : Builtin.Tuple.tupleTooMany (((its.toArray.size : Nat) : Int) * k) = false := by
    unfold Builtin.Tuple.tupleTooMany
    rw [sizeLine_eq]
    exact decide_eq_false (by omega)
  refine wpAny_binaryOp_repeat_ref (T := "tuple") (U := "int") (by decide) ⟨_, ho, rfl⟩ (fun s' => typeIs_int s' k t) noFill_tuple_mul F.fills_int_mul F.slot_int_rmul repeat_tuple F.slot_int_index.lookup
    (call_meets F.slot_int_rmul (typeIs_int s k t) F.entry_int_rmul (F.args_int_rmul_2 _ _) (int_rmul_tuple k t l its.toArray n dd sl)
      ⟨ho, rfl, ⟨_, ho, rfl⟩, call_meets F.slot_tuple_mul ⟨_, ho, rfl⟩ F.entry_tuple_mul (F.args_tuple_mul_2 _ _) (tuple_mulW l its.toArray n dd sl k t c0 c1 c2 (by omega) c4 (by rw [size_rep, List.size_toArray]; exact flen)) ⟨ho, ?_⟩⟩)
  rw [size_rep]
  exact ⟨.ref s.heap.objs.size, _, Inv.newT (t' := s.toks) I (r.rep k.toNat) (by rw [PyProof.Rows.lm_len_rep_flat, sizeLine_eq]; have a1 : k.toNat * xs.length ≤ 1000 * 1000 := Nat.mul_le_mul (by omega) hz; omega), rfl, q _ _ (I.hok.fresh (Nat.le_refl _)) rfl⟩
theorem RepL.rep {K : PySem.W.Frag} {F : Hp} {vs : List V} {ds : List D} (r : RepL K cl F vs ds) : ∀ k : Nat, RepL K cl F (List.replicate k vs).flatten (List.replicate k ds).flatten
  | 0 => .nil
  | k + 1 => by
    rw [List.replicate_succ, List.replicate_succ, List.flatten_cons, List.flatten_cons]
    exact r.append (RepL.rep r k)
end

/-! ## len, int, abs, isinstance -/
def dLen : D → Res D
  | .lst ds => .ok (.int ds.length)
  | .tup ds => .ok (.int ds.length)
  | .str x => if x.length ≤ sizeLine then .ok (.int x.length) else .stuck
  | _ => .stuck
def dInt : D → Res D
  | .int i => .ok (.int i)
  | .bl b => .ok (.int (if b then 1 else 0))
  | _ => .stuck
def dAbs : D → Res D
  | .int i => .ok (.int (if i < 0 then -i else i))
  | _ => .stuck
def D.ty : D → Option String
  | .non => some "NoneType"
  | .bl _ => some "bool"
  | .int _ => some "int"
  | .str _ => some "str"
  | .tup _ => some "tuple"
  | .lst _ => some "list"
  | .dct _ => some "dict"
  | .ins _ _ => none
def isiB (t T : String) : Bool := (t == T) || (t == "bool" && T == "int")
def dIsi (T : String) (d : D) : Res D := match d.ty with
  | some t => .ok (.bl (isiB t T))
  | none => .stuck
section
variable {X : Cx} {cl : Nat → Addr} {W : Wish} {a : Expr} {ma : ME} {pos : Pos}
abbrev rLenA (K : PySem.W.Frag) : List V → Hp → VK → Prop := fun xs H Q => (∃ p ys, xs = [.ref p] ∧ (SqL K H p ys ∨ SqT K H p ys) ∧ Q (.int ys.length) H) ∨ ∃ z, xs = [.str z] ∧ z.length ≤ sizeLine ∧ Q (.int z.length) H
theorem o_len : CallR X (.builtin "len") (rLenA X.K) := call_len_seq.or call_len_str
theorem f_len : Op1 X.K cl dLen (fun v H Q => rLenA X.K [v] H Q) := by
  intro W F H Q v x s t rx q
  unfold dLen at q
  split at q
  · obtain ⟨a, vs, rfl, h, r⟩ := rx
    exact .inl ⟨a, vs, rfl, .inl h, by rw [r.length]; exact out_v s t q (.int _)⟩
  · obtain ⟨a, vs, rfl, h, r⟩ := rx.tup
    exact .inl ⟨a, vs, rfl, .inr (sqH s h), by rw [r.length]; exact out_v s t q (.int _)⟩
  · split at q
    · rename_i h
      exact .inr ⟨_, by rw [rx.str], h, out_v s t q (.int _)⟩
    · exact False.elim q
  · exact False.elim q
theorem f_int : Op1 X.K cl dInt (fun v H Q => (∃ i, [v] = [V.int i] ∧ Q (.int i) H) ∨ ∃ k, [v] = [V.bl k] ∧ Q (.int (if k then 1 else 0)) H) := by
  intro W F H Q v x s t rx q
  unfold dInt at q
  split at q
  · exact .inl ⟨_, by rw [rx.int], out_v s t q (.int _)⟩
  · exact .inr ⟨_, by rw [rx.bl], out_v s t q (.int _)⟩
  · exact False.elim q
theorem f_abs : Op1 X.K cl dAbs (fun v H Q => ∃ i, [v] = [V.int i] ∧ Q (.int (if i < 0 then -i else i)) H) := by
  intro W F H Q v x s t rx q
  unfold dAbs at q
  split at q
  · exact ⟨_, by rw [rx.int], out_v s t q (.int _)⟩
  · exact False.elim q
theorem RepB.ty {K : PySem.W.Frag} {F H : Hp} {v : V} {x : D} {T : String} (s : Same F H) (r : RepB K cl F H v x) (e : x.ty = some T) : TyX K H v (.type T) := by
  cases x with
  | non => cases e; cases r; exact .base .non
  | bl b => cases e; cases r; exact .base (.bl b)
  | int i => cases e; cases r; exact .base (.int i)
  | str z => cases e; cases r; exact .base (.str z)
  | tup ds =>
    cases e
    obtain ⟨a, vs, rfl, h, _⟩ := RepB.tup r
    rcases h with ⟨o, h, _⟩ | ⟨o, its, n, h1, h2, _⟩
    · exact .fTuple (s _ _ h)
    · exact .kTuple h1 h2
  | lst ds =>
    cases e
    obtain ⟨a, vs, rfl, h, _⟩ := r
    rcases h with (h | ⟨o, h⟩) | ⟨o, its, n, h1, h2, _⟩
    · exact .base (.lst h)
    · exact .base (.frz h)
    · exact .kList h1 h2
  | dct ds =>
    cases e
    obtain ⟨a, vs, rfl, h, _⟩ := r
    rcases h with h | ⟨o, h⟩
    · exact .base (.dK h)
    · exact .fDict h
  | ins c fs => cases e
/-- the answers for the built-in classes that are asked for -/
def askd : List String := ["int", "str", "bool", "tuple", "list"]
theorem kit_all : (["NoneType", "bool", "int", "str", "tuple", "list", "dict"].all fun t => askd.all fun T => decide (kitB t T = some (isiB t T))) = true := by decide +kernel
theorem kit_isi {x : D} {t T : String} (e : x.ty = some t) (h : T ∈ askd) : kitB t T = some (isiB t T) := by
  have k := kit_all
  rw [List.all_eq_true] at k
  have ht : t ∈ ["NoneType", "bool", "int", "str", "tuple", "list", "dict"] := by
    cases x <;> simp only [D.ty] at e <;> first | (cases e; simp) | cases e
  have k1 := k t ht
  rw [List.all_eq_true] at k1
  exact of_decide_eq_true (k1 T h)
theorem ve_isi {T : String} {x : Str} {p p2 : Pos} (hT : T ∈ askd) (hg : Gl X "isinstance") (hm : X.mg "isinstance" = none) (hgT : Gl X x) (hmT : X.mg x = none) (hv : bootBuiltins x = some (.type T)) (ha : PE X a (tB X.K cl W ma))
    (hn : x ≠ "__name__" := by decide) (hdb : (x == ("__debug__" : Str)) = false := by decide) (hs : starEach [a, .Name x p2] X.env = (false, eval a X.env) :: starEach [.Name x p2] X.env := by rfl) : PE X (.Call (.Name "isinstance" p) [a, .Name x p2] [] pos) (tE X.K cl W (m1 (dIsi T) ma)) := by
  refine PEi (pe_callB call_isi hg hm PyProof.Rows.boot_isinstance (pa_cons ha (pa_cons (pe_bltn (v := .ty T) hgT hmT hv rfl hn hdb) pa_nil rfl) hs) (by decide) (by decide) hs rfl) fun σ H Q ⟨B, F, ρ, R, q⟩ => thenB R q fun d F1 H1 v _ g r q1 => ?_
  unfold dIsi at q1
  cases e : d.ty with
  | none => rw [e] at q1; exact False.elim q1
  | some t =>
    rw [e] at q1
    exact ⟨v, .ty T, .type t, .type T, isiB t T, rfl, .ty T, r.ty g.sub e, kit_ty (kit_isi e hT), out_v g.sub g.tups q1 (.bl _)⟩
end

/-! ## dicts, read -/
def asKey : D → Option Key
  | .int i => some (.inl i)
  | .str x => some (.inr x)
  | _ => none
def putD (kvs : List (D × D)) (k v : D) : List (D × D) :=
  if (kvs.any fun kv => keyEq kv.1 k) = true then kvs.map (fun kv => if keyEq kv.1 k then (kv.1, v) else kv) else kvs ++ [(k, v)]
def pairsD : List D → Option (List (D × D))
  | [] => some []
  | .tup [k, v] :: r => match asKey k with
    | some _ => (pairsD r).map ((k, v) :: ·)
    | none => none
  | _ => none
def mergeD (kvs more : List (D × D)) : List (D × D) := more.foldl (fun acc kv => putD acc kv.1 kv.2) kvs
def dDict : D → Res D
  | .tup ds => match pairsD ds with
    | some kvs => .ok (.dct (mergeD [] kvs))
    | none => .stuck
  | .lst ds => match pairsD ds with
    | some kvs => .ok (.dct (mergeD [] kvs))
    | none => .stuck
  | _ => .stuck
/-- d.get(k, x) -/
def dGet2 (d k x : D) : Res D := match d, asKey k with
  | .dct kvs, some _ => .ok ((lookD k kvs).getD x)
  | _, _ => .stuck
theorem asKey_key {k : D} {j : Key} (e : asKey k = some j) : k = dKey j := by
  cases k <;> simp only [asKey] at e <;> first | (cases e; rfl) | cases e
section
variable {K : PySem.W.Frag} {cl : Nat → Addr} {F : Hp}
theorem RepD.any (k : Key) : ∀ {kvs : List (Key × V)} {ds : List (D × D)}, RepD K cl F kvs ds → (kvs.any fun kv => decide (kv.1 = k)) = ds.any fun kv => keyEq kv.1 (dKey k)
  | _, _, .nil => rfl
  | _, _, .cons h r => by rw [List.any_cons, List.any_cons, RepD.any k r, keyEq_key]
theorem RepD.repl (k : Key) {v : V} {d : D} (rv : Rep K cl F v d) : ∀ {kvs : List (Key × V)} {ds : List (D × D)}, RepD K cl F kvs ds → RepD K cl F (kvs.map fun kv => if kv.1 = k then (kv.1, v) else kv) (ds.map fun kv => if keyEq kv.1 (dKey k) then (kv.1, d) else kv)
  | _, _, .nil => .nil
  | _, _, .cons (k := j) h r => by
    rw [List.map_cons, List.map_cons]
    dsimp only
    rw [keyEq_key]
    by_cases e : j = k
    · rw [if_pos e, if_pos (by simpa using e)]
      exact .cons rv (RepD.repl k rv r)
    · rw [if_neg e, if_neg (by simpa using e)]
      exact .cons h (RepD.repl k rv r)
theorem RepD.snoc {k : Key} {v : V} {d : D} (rv : Rep K cl F v d) : ∀ {kvs : List (Key × V)} {ds : List (D × D)}, RepD K cl F kvs ds → RepD K cl F (kvs ++ [(k, v)]) (ds ++ [(dKey k, d)])
  | _, _, .nil => .cons rv .nil
  | _, _, .cons h r => .cons h (RepD.snoc rv r)
theorem RepD.put {kvs : List (Key × V)} {ds : List (D × D)} {k : Key} {v : V} {d : D} (r : RepD K cl F kvs ds) (rv : Rep K cl F v d) : RepD K cl F (putK kvs k v) (putD ds (dKey k) d) := by
  unfold putK putD
  rw [RepD.any k r]
  split
  · exact r.repl k rv
  · exact r.snoc rv
theorem RepD.merge : ∀ {more kvs : List (Key × V)} {ms ds : List (D × D)}, RepD K cl F more ms → RepD K cl F kvs ds → RepD K cl F (mergeK kvs more) (mergeD ds ms)
  | _, _, _, _, .nil, r => r
  | _, _, _, _, .cons h q, r => by
    unfold mergeK mergeD
    rw [List.foldl_cons, List.foldl_cons]
    exact RepD.merge q (r.put h)
theorem RepD.length : ∀ {kvs : List (Key × V)} {ds : List (D × D)}, RepD K cl F kvs ds → kvs.length = ds.length
  | _, _, .nil => rfl
  | _, _, .cons _ r => by rw [List.length_cons, List.length_cons, RepD.length r]
/-- pairs of a key and a value, at addresses -/
theorem pairs_rep : ∀ {vs : List V} {ds : List D} {kvs : List (D × D)}, RepL K cl F vs ds → pairsD ds = some kvs → ∃ (ps : List Addr) (qs : List (Key × V)), vs = ps.map V.ref ∧ Paired (fun p kv => Tp K F p [kV kv.1, kv.2]) ps qs ∧ RepD K cl F qs kvs
  | _, _, _, .nil, e => by cases e; exact ⟨[], [], rfl, .nil, .nil⟩
  | _, _, _, .cons (d := d) h r, e => by
    unfold pairsD at e
    split at e
    · rename_i e0; cases e0
    · rename_i k v r' e0
      cases e0
      split at e
      · rename_i j ej
        rw [Option.map_eq_some_iff] at e
        obtain ⟨more, e1, rfl⟩ := e
        obtain ⟨ps, qs, rfl, hp, rq⟩ := pairs_rep r e1
        have ek := asKey_key ej
        subst ek
        cases h with
        | tup ht hr =>
          cases hr with
          | cons h1 hr =>
            cases hr with
            | cons h2 hr =>
              cases hr
              rename_i a v1 v2
              have e1 : v1 = kV j := by
                cases j with
                | inl i => cases h1; rfl
                | inr x => cases h1; rfl
              subst e1
              exact ⟨a :: ps, (j, v2) :: qs, rfl, .cons ht hp, .cons h2 rq⟩
      · cases e
    · cases e
theorem tps_sq {H : Hp} (s : Same F H) : ∀ {ps : List Addr} {qs : List (Key × V)}, Paired (fun p kv => Tp K F p [kV kv.1, kv.2]) ps qs → Paired (fun p kv => SqT K H p [kV kv.1, kv.2]) ps qs
  | _, _, .nil => .nil
  | _, _, .cons h r => .cons (sqH s h) (tps_sq s r)
end
section
variable {X : Cx} {cl : Nat → Addr} {W : Wish} {a b c : Expr} {ma mb mc : ME} {pos : Pos}
/-- dict(t) of a tuple of pairs -/
def rDictT (K : PySem.W.Frag) : List V → Hp → VK → Prop := fun xs H Q => ∃ (a : Addr) (ps : List Addr) (kvs : List (Key × V)), xs = [.ref a] ∧ Tp K H a (ps.map V.ref) ∧ Paired (fun p kv => SqT K H p [kV kv.1, kv.2]) ps kvs ∧
    ∀ p, H p = none → Q (.ref p) (upd H p (.dK (mergeK [] kvs)))
theorem pairs_two {pins : List (Addr × Obj)} {σ : St} {H : Hp} {s : Shared} (I : Inv X pins σ H s) : ∀ {ps : List Addr} {kvs : List (Key × V)}, Paired (fun p kv => SqT X.K H p [kV kv.1, kv.2]) ps kvs →
    ∃ (prs : List (Key × Value)) (kws : List (Value × Value)), KV kvs prs ∧ prs.length = ps.length ∧ kws.length = ps.length ∧ ∀ (j : Nat) (u v : Value), kws[j]? = some (u, v) → ∃ (b : Addr) (k : Key), ps[j]? = some b ∧ PyProof.Rows.IsTup s.heap b #[u, v] ∧ prs[j]? = some (k, v) ∧ keyIs k u = true
  | _, _, .nil => ⟨[], [], .nil, rfl, rfl, fun j u v e => by simp at e⟩
  | _, _, .cons (a := p) (b := kv) h t => by
    obtain ⟨prs, kws, r, hl, hl2, hp⟩ := pairs_two I t
    obtain ⟨its, rv, ht, _⟩ := I.tuple h
    obtain ⟨u, y, ei, ru, ry⟩ := vals2 rv
    subst ei
    refine ⟨(kv.1, y) :: prs, (u, y) :: kws, .cons ⟨rfl, ry⟩ r, by rw [List.length_cons, List.length_cons, hl], by rw [List.length_cons, List.length_cons, hl2], fun j u' v' e => ?_⟩
    cases j with
    | zero =>
      have e' : (u, y) = (u', v') := Option.some.inj e
      cases e'
      exact ⟨p, kv.1, rfl, ht, rfl, kV_is (P := X.prog) (w := X.w) ru⟩
    | succ j =>
      obtain ⟨b, k, e1, e2, e3, e4⟩ := hp j u' v' (by simpa using e)
      exact ⟨b, k, by simpa using e1, e2, by simpa using e3, e4⟩
theorem call_dictT (hcalm : X.calm = true) : CallR X (.type "dict") (rDictT X.K) := by
  intro pins s σ H xs us Q I r q
  obtain ⟨a, ps, kvs, ex, hq, hp, q⟩ := q
  subst ex
  obtain ⟨u, eu, rx⟩ := vals1 r
  subst eu
  cases rx
  obtain ⟨its, rv, pl, hz⟩ := I.tuple hq.sq
  have ei := refs_at rv
  subst ei
  rw [List.length_map] at hz
  obtain ⟨prs, kws, rel, hl, hl2, hpr⟩ := pairs_two I hp
  have plain : PlainSeq "tuple" s.heap a (ps.map Value.ref).toArray := by
    rcases hq with ⟨o, h, hd⟩ | ⟨o, its', n, h1, h2, hd, h3, _⟩
    · obtain ⟨e, _⟩ := I.hok a _ h
      obtain ⟨o', e', c', n', d'⟩ := pl
      rw [e] at e'; cases e'
      exact ⟨o, n', e, c', hd, d'⟩
    · have e := I.kIn a o h1
      obtain ⟨o', e', c', n', d'⟩ := pl
      rw [e] at e'; cases e'
      exact ⟨o, n', e, c', hd, d'⟩
  refine PySem.call_dict_pairs (knd := mixKind X.prog X.w) (kvs := prs) (PairArg.tuple a (ps.map Value.ref).toArray (fun j => ps.getD j 0) kws) (I.ok.hd hcalm) ⟨plain, by simp [hl2], fun j k v e => ?_⟩ ⟨by rw [hl, hl2], fun i key v e => ?_⟩ (by rw [hl2]; exact hz) fun h' tk hd' k => ?_
  · obtain ⟨b, k', e1, e2, _⟩ := hpr j k v e
    have : ps.getD j 0 = b := by rw [List.getD_eq_getElem?_getD, e1]; rfl
    dsimp only
    rw [this]
    exact ⟨by simp [e1], .inl e2⟩
  · obtain ⟨b, k', _, _, e3, e4⟩ := hpr i key v e
    exact ⟨k', e3, e4⟩
  · have hm : (s.heap.objs.size == sysModules) = false := beq_eq_false_iff_ne.mpr (Nat.ne_of_gt I.big)
    have hlen : (mergeK [] kvs).length ≤ sizeLine := by
      refine Nat.le_trans (length_mergeK kvs []) ?_
      rw [List.length_nil, Nat.zero_add, rel.length, hl]
      exact hz
    exact ⟨.ref s.heap.objs.size, upd H s.heap.objs.size (.dK (mergeK [] kvs)), I.laid (t' := tk) (fun b o e => k b o (by simp) e) (Nat.le_refl _) (show ObjOk X.prog X.w _ _ _ (.dK (mergeK [] kvs)) from ⟨hlen, hm, merged [] prs, KV.merge rel .nil, hd'⟩), rfl, q _ (I.hok.fresh (Nat.le_refl _))⟩
abbrev rDictA (K : PySem.W.Frag) : List V → Hp → VK → Prop := fun xs H Q => rDictT K xs H Q ∨ ∃ (a : Addr) (ps : List Addr) (kvs : List (Key × V)), xs = [.ref a] ∧ SqL K H a (ps.map V.ref) ∧ Paired (fun p kv => SqT K H p [kV kv.1, kv.2]) ps kvs ∧
    ∀ p, H p = none → Q (.ref p) (upd H p (.dK (mergeK [] kvs)))
theorem o_dict (hcalm : X.calm = true) : CallR X (.type "dict") (rDictA X.K) := (call_dictT hcalm).or (call_dictP hcalm)
theorem newD_out {K : PySem.W.Frag} {F H : Hp} {kvs : List (Key × V)} {ds : List (D × D)} {Q : VK} {p : Addr} (s : Same F H) (t : TupC F H) (r : RepD K cl F kvs ds) (q : out K cl W (.ok (.dct ds)) F H Q) (n : H p = none) : Q (.ref p) (upd H p (.dK kvs)) :=
  q _ _ _ (Grow.new s t n) (.dct (.inl upd_same) (r.mono fun a u e => by rw [upd_ne (ne_of_none (s a u e) n)]; exact e))
theorem f_dict : Op1 X.K cl dDict (fun v H Q => rDictA X.K [v] H Q) := by
  intro W F H Q v x s t rx q
  unfold dDict at q
  split at q
  · split at q
    · rename_i kvs e
      obtain ⟨a, vs, rfl, h, r⟩ := rx.tup
      obtain ⟨ps, qs, rfl, hp, rq⟩ := pairs_rep r e
      exact .inl ⟨a, ps, qs, rfl, Same.tp s h, tps_sq s hp, fun p n => newD_out s t (RepD.merge rq .nil) q n⟩
    · exact False.elim q
  · split at q
    · rename_i kvs e
      obtain ⟨a, vs, rfl, h, r⟩ := rx
      obtain ⟨ps, qs, rfl, hp, rq⟩ := pairs_rep r e
      exact .inr ⟨a, ps, qs, rfl, h, tps_sq s hp, fun p n => newD_out s t (RepD.merge rq .nil) q n⟩
    · exact False.elim q
  · exact False.elim q
/-- d.get(k, x) -/
def mGet (a b c : ME) : ME := fun ρ => (a ρ).bind fun d => match d with
  | .dct kvs => (b ρ).bind fun k => (c ρ).bind fun x => match asKey k with
    | some _ => .ok ((lookD k kvs).getD x)
    | none => .stuck
  | _ => .stuck
theorem ve_get {apos : Pos} (hu : X.A.units + 1 < cLine) (ha : PE X a (tB X.K cl W ma)) (hb : PE X b (tE X.K cl W mb)) (hc : PE X c (tE X.K cl W mc)) (m : M2 X a "get" apos b c pos) : PE X (.Call (.Attribute a "get" apos) [b, c] [] pos) (tE X.K cl W (mGet ma mb mc)) := by
  refine PEi (pe_dget2 hu ha hb hc m) fun σ H Q ⟨B, F, ρ, R, q⟩ => thenB R q fun d F1 H1 v _ g1 r1 q1 => ?_
  cases d with
  | dct kvs =>
    obtain ⟨a, vs, rfl, h, r⟩ := r1
    refine ⟨a, rfl, .inl ⟨vs, h⟩, thenE (R.grow g1) q1 fun k F2 H2 w _ g2 r2 q2 => thenE ((R.grow g1).grow g2) q2 fun x F3 H3 z _ g3 r3 q3 => ?_⟩
    cases ek : asKey k with
    | none => rw [ek] at q3; exact False.elim q3
    | some j =>
      rw [ek] at q3
      have e := asKey_key ek
      subst e
      have ew : w = kV j := by
        cases j with
        | inl i => cases r2; rfl
        | inr x => cases r2; rfl
      subst ew
      have r' := (r.mono (g2.ff g1.sub)).mono (g3.ff g2.sub)
      obtain ⟨l1, l2⟩ := lookD_rep j r'
      refine ⟨valV vs j, .inl ⟨vs, j, Same.rd g3.hh (Same.rd g2.hh h), rfl, rfl⟩, out_v g3.sub g3.tups q3 ?_⟩
      cases el : lookD (dKey j) kvs with
      | none => rw [l1 el]; exact r3
      | some d =>
        obtain ⟨y, e1, r1⟩ := l2 d el
        rw [e1]
        exact r1
  | _ => exact False.elim q1
/-- xs[::-1] -/
def dRev : D → Res D
  | .lst ds => .ok (.lst ds.reverse)
  | _ => .stuck
theorem ve_rev {k : Nat} {p1 p2 p3 : Pos} (ha : PE X a (tB X.K cl W ma)) : PE X (.Subscript a (.Slice none none (some (.UnaryOp .USub (.Constant (.int 1) k p1) p2)) p3) pos) (tE X.K cl W (m1 dRev ma)) :=
  PEi (pe_revL ha) fun σ H Q ⟨B, F, ρ, R, q⟩ => thenB R q fun d F1 H1 v _ g r q1 => by
    cases d with
    | lst ds =>
      obtain ⟨a, vs, rfl, h, r⟩ := r
      exact ⟨a, vs, rfl, h, fun p n => newL_out g.sub g.tups r.reverse q1 n⟩
    | _ => exact False.elim q1
end

/-! ## what is walked -/
def dItems : D → Res (List D)
  | .lst ds => .ok ds
  | .tup ds => .ok ds
  | .str x => .ok (x.cps.toList.map fun c => .str ⟨#[c]⟩)
  | _ => .stuck
def mItems (a : ME) : Env → Res (List D) := fun ρ => (a ρ).bind dItems
def rangeD (lo : Int) (n : Nat) : List D := (List.range n).map fun (i : Nat) => .int (lo + (i : Int))
def mRange1 (a : ME) : Env → Res (List D) := fun ρ => (a ρ).bind fun d => match d with
  | .int j => if -(2 ^ 62) ≤ j ∧ j < 2 ^ 62 then .ok (rangeD 0 j.toNat) else .stuck
  | _ => .stuck
def mRange2 (a b : ME) : Env → Res (List D) := fun ρ => (a ρ).bind fun x => (b ρ).bind fun y => match x, y with
  | .int i, .int j => if -(2 ^ 62) ≤ i ∧ i < 2 ^ 62 ∧ -(2 ^ 62) ≤ j ∧ j < 2 ^ 62 then .ok (rangeD i (j - i).toNat) else .stuck
  | _, _ => .stuck
section
variable {K : PySem.W.Frag} {cl : Nat → Addr} {F : Hp}
theorem it_list {a : Addr} {vs : List V} {ds : List D} (w : Bool) (h : SqL K F a vs) (r : RepL K cl F vs ds) : IterOf w K cl (Itl K a) F ds where
  go := fun i d F1 H e s1 s2 t => by
    obtain ⟨v, e1, rv⟩ := r.get e
    have hq : SqL K H a vs := Same.sql (s1.trans s2) h
    refine ⟨⟨vs, v, hq, e1⟩, fun x H' y => ?_⟩
    obtain ⟨rfl, y⟩ := y
    have := y vs hq
    rw [e1] at this
    cases this
    exact ⟨F1, Grow.refl s2 t, (rv.mono s1).toX w⟩
  stop := fun i F1 H l s1 s2 => ⟨vs, Same.sql (s1.trans s2) h, by rw [r.length]; exact l⟩
theorem it_tup {a : Addr} {vs : List V} {ds : List D} (w : Bool) (h : SqT K F a vs) (r : RepL K cl F vs ds) : IterOf w K cl (Itt K a) F ds where
  go := fun i d F1 H e s1 s2 t => by
    obtain ⟨v, e1, rv⟩ := r.get e
    have hq : SqT K H a vs := Same.sqt (s1.trans s2) h
    refine ⟨⟨vs, v, hq, e1⟩, fun x H' y => ?_⟩
    obtain ⟨rfl, y⟩ := y
    have := y vs hq
    rw [e1] at this
    cases this
    exact ⟨F1, Grow.refl s2 t, (rv.mono s1).toX w⟩
  stop := fun i F1 H l s1 s2 => ⟨vs, Same.sqt (s1.trans s2) h, by rw [r.length]; exact l⟩
theorem it_range (w : Bool) (lo : Int) (n : Nat) : IterOf w K cl (Itr lo n) F (rangeD lo n) where
  go := fun i d F1 H e s1 s2 t => by
    have hi : i < n := by
      have := (List.getElem?_eq_some_iff.mp e).1
      simpa [rangeD] using this
    refine ⟨hi, fun x H' y => ?_⟩
    obtain ⟨rfl, rfl⟩ := y
    have e' : d = .int (lo + i) := by
      simp only [rangeD, List.getElem?_map, List.getElem?_range hi, Option.map_some, Option.some.injEq] at e
      exact e.symm
    subst e'
    exact ⟨F1, Grow.refl s2 t, (Rep.int _).toX w⟩
  stop := fun i F1 H l s1 s2 => by
    have : n ≤ i := by simpa [rangeD] using l
    exact this
theorem it_str (w : Bool) (x : Str) : IterOf w K cl (Its x) F (x.cps.toList.map fun c => .str ⟨#[c]⟩) where
  go := fun i d F1 H e s1 s2 t => by
    have hi : i < x.cps.size := by
      have := (List.getElem?_eq_some_iff.mp e).1
      simpa using this
    refine ⟨hi, fun v H' y => ?_⟩
    obtain ⟨rfl, c, ec, rfl⟩ := y
    simp only [List.getElem?_map, Array.getElem?_toList, ec, Option.map_some, Option.some.injEq] at e
    subst e
    exact ⟨F1, Grow.refl s2 t, (Rep.str _).toX w⟩
  stop := fun i F1 H l s1 s2 => by
    have : x.cps.size ≤ i := by simpa using l
    exact this
end
section
variable {X : Cx} {cl : Nat → Addr} {W : Wish} {tg e e2 : Expr} {te : TE} {ma mb : ME} {pos : Pos}
/-- anything that is walked item by item: a list, a tuple, a text -/
def iAny (K : PySem.W.Frag) (te : TE) : TI := fun σ H R => te σ H fun x H1 => (∃ a xs, x = .ref a ∧ SqL K H1 a xs ∧ R (Itl K a) H1) ∨ (∃ a xs, x = .ref a ∧ SqT K H1 a xs ∧ R (Itt K a) H1) ∨ ∃ z, x = .str z ∧ R (Its z) H1
theorem pi_any (he : PE X e te) : PI X tg e (iAny X.K te) := by
  refine ⟨fun pins s σ H R I h => ?_⟩
  refine thn (he.run pins s σ H _ I h) fun v s1 ⟨x, H1, I1, r1, q1⟩ => ?_
  rcases q1 with ⟨a, xs, e, hq, q⟩ | ⟨a, xs, e, hq, q⟩ | ⟨z, e, q⟩
  · subst e
    cases r1
    obtain ⟨its, rv, p, hz⟩ := I1.list hq
    refine wpAny_pyIter_list p.isList ?_
    refine ⟨s1.heap.objs.size, [s1.heap.objs.size], _, _, H1, rfl, I1.kept (t' := s1.toks) fun b o e => Heap.get?_push_of_some _ e, turn_list a _, ⟨_, Heap.get?_push_size _ rfl, rfl, rfl⟩, fun b hb => ?_, q⟩
    have e : b = s1.heap.objs.size := by simpa using hb
    subst e
    exact I1.fpOk (Nat.le_refl _) (I1.hok.fresh (Nat.le_refl _))
  · subst e
    cases r1
    obtain ⟨its, rv, p, hz⟩ := I1.tuple hq
    refine wpAny_pyIter_tuple (show s1.heap.IsTuple a its.toArray from p) ?_
    refine ⟨s1.heap.objs.size, [s1.heap.objs.size], _, _, H1, rfl, I1.kept (t' := s1.toks) fun b o e => Heap.get?_push_of_some _ e, turn_tuple a _, ⟨_, Heap.get?_push_size _ rfl, rfl, rfl⟩, fun b hb => ?_, q⟩
    have e : b = s1.heap.objs.size := by simpa using hb
    subst e
    exact I1.fpOk (Nat.le_refl _) (I1.hok.fresh (Nat.le_refl _))
  · subst e
    obtain ⟨t, rfl⟩ := r1
    cases ha : z.cps.all (· < 128)
    · exact wpAny_pyIter_wide ha (pi_one (tk := s1.toks) I1 _ (turn_str _ z t "str_iterator" (.inr rfl)) ⟨_, Heap.get?_push_size _ rfl, rfl, rfl⟩ q)
    · exact wpAny_pyIter_ascii ha (pi_one (tk := s1.toks) I1 _ (turn_str _ z t "str_ascii_iterator" (.inl rfl)) ⟨_, Heap.get?_push_size _ rfl, rfl, rfl⟩ q)
theorem vi_any {w : Bool} (he : PE X e (tE X.K cl W ma)) : PI X tg e (tI w X.K cl W (mItems ma)) := by
  refine PIi (pi_any he) fun σ H R0 ⟨B, F, ρ, R, q⟩ => ⟨B, F, ρ, R, ?_⟩
  unfold mItems at q
  cases e1 : ma ρ with
  | err c => rw [e1] at q; exact q
  | stuck => rw [e1] at q; exact q
  | ok d =>
    rw [e1] at q
    intro F1 H1 v g r
    cases d with
    | lst ds => cases r with | lst h r => exact .inl ⟨_, _, rfl, Same.sql g.sub h, q F1 H1 _ g (it_list w h r)⟩
    | tup ds => cases r with | tup h r => exact .inr (.inl ⟨_, _, rfl, sqH g.sub h, q F1 H1 _ g (it_tup w h.sq r)⟩)
    | str x => cases r; exact .inr (.inr ⟨_, rfl, q F1 H1 _ g (it_str w x)⟩)
    | _ => exact False.elim q
theorem vi_range1 {w : Bool} {p : Pos} (hg : Gl X "range") (hm : X.mg "range" = none) (he : PE X e (tE X.K cl W ma)) (hs : starEach [e] X.env = [(false, eval e X.env)] := by rfl) : PI X tg (.Call (.Name "range" p) [e] [] pos) (tI w X.K cl W (mRange1 ma)) := by
  refine PIi (pi_range1 hg hm (pa_cons he pa_nil hs) hs) fun σ H R0 ⟨B, F, ρ, R, q⟩ => ⟨B, F, ρ, R, ?_⟩
  unfold mRange1 at q
  cases e1 : ma ρ with
  | err c => rw [e1] at q; exact q
  | stuck => rw [e1] at q; exact q
  | ok d =>
    rw [e1] at q
    intro F1 H1 v g r
    cases d with
    | int j =>
      cases r
      simp only [Res.bind_ok] at q
      split at q
      · rename_i h
        exact ⟨j, rfl, h.1, h.2, q F1 H1 _ g (it_range w 0 _)⟩
      · exact False.elim q
    | _ => exact False.elim q
theorem vi_range2 {w : Bool} {p : Pos} (hg : Gl X "range") (hm : X.mg "range" = none) (he : PE X e (tE X.K cl W ma)) (he2 : PE X e2 (tE X.K cl W mb)) (hs : starEach [e, e2] X.env = [(false, eval e X.env), (false, eval e2 X.env)] := by rfl) (hs2 : starEach [e2] X.env = [(false, eval e2 X.env)] := by rfl) : PI X tg (.Call (.Name "range" p) [e, e2] [] pos) (tI w X.K cl W (mRange2 ma mb)) := by
  refine PIi (pi_range2 hg hm (pa_cons he (pa_cons he2 pa_nil hs2) (by rw [hs, hs2])) hs hs2) fun σ H R0 ⟨B, F, ρ, R, q⟩ => ⟨B, F, ρ, R, ?_⟩
  unfold mRange2 at q
  cases e1 : ma ρ with
  | err c => rw [e1] at q; exact q
  | stuck => rw [e1] at q; exact q
  | ok d =>
    rw [e1] at q
    intro F1 H1 v g r
    refine ⟨B, F1, ρ, R.grow g, ?_⟩
    simp only [Res.bind_ok] at q
    cases e3 : mb ρ with
    | err c => rw [e3] at q; exact fun H2 s2 => q H2 (g.hh.trans s2)
    | stuck => rw [e3] at q; exact q
    | ok d2 =>
      rw [e3] at q
      intro F2 H2 v2 g2 r2
      cases d with
      | int i =>
        cases d2 with
        | int j =>
          cases r
          cases r2
          simp only [Res.bind_ok] at q
          split at q
          · rename_i h
            exact ⟨i, j, rfl, h, q F2 H2 _ (g.trans g2) (it_range w i _)⟩
          · exact False.elim q
        | _ => exact False.elim q
      | _ => cases d2 <;> exact False.elim q
end

/-! ## a def's body -/
/-- what a def gives back -/
def runM (n : Nat) (m : MS) : List D → Res D := fun ds => match m (ds.map (fun d => some (.val d)) ++ List.replicate (n - ds.length) none) with
  | .ok (.rt d) => .ok d
  | .ok (.nx _) => .ok .non
  | .err c => .err c
  | _ => .stuck
section
variable {P : Program} {w : World} {K : PySem.W.Frag} {cl : Nat → Addr} {mg : Str → Option Value} {base : Heap} 
theorem rel_start {F H : Hp} {N : List Str} {vs : List V} {ds : List D} (s : Same F H) (t : TupC F H) (r : RepL K cl F vs ds) : Rel K cl H F H (L2.start N vs) (ds.map (fun d => some (O.val d)) ++ List.replicate (N.length - ds.length) none) := by
  refine ⟨s, t, ?_, fun _ => [], fun i o e => ?_, fun _ => List.nodup_nil, fun _ _ _ _ m => by simp at m, fun _ _ m => by simp at m⟩
  · unfold L2.start
    simp [r.length]
  · unfold L2.start
    by_cases hi : i < ds.length
    · rw [List.getElem?_append_left (by simpa using hi), List.getElem?_map] at e
      cases ed : ds[i]? with
      | none => rw [ed] at e; cases e
      | some d =>
        rw [ed] at e
        cases e
        obtain ⟨v, e1, rv⟩ := r.get ed
        refine ⟨v, ?_, .val rv⟩
        rw [List.getElem?_append_left (by simpa [r.length] using hi), List.getElem?_map, e1]
        rfl
    · rw [List.getElem?_append_right (by simpa using hi), List.getElem?_replicate] at e
      split at e <;> cases e
theorem ok_zero {f : Addr} {fd : FuncData} {ps : List Str} : FnOk P w K mg base CX0 0 f fd ps (spF K cl ps.length fun _ => .stuck) :=
  ⟨fun vs H Q E h => h.1, fun A outer s H args us vs Q E hr e0 hb hv hs => by obtain ⟨_, F, ds, _, _, _, q⟩ := hs; exact False.elim q⟩
theorem fn_ok {x qual : Str} {st : Stmt} {f : Addr} {fd : FuncData} {N ps : List Str} {k : Nat} {m : MS} (F : Fun K x qual st f fd) (S : FnScope N ps (defScope st))
    (hbody : ∀ (cdv : Value) (A : Around) (outer : List PySem.Env) (s : Shared) (H : Hp) (E : XK) (H0 F0 : Hp), Room k (A.deeper (PyProof.Rows.envOfC qual (defScope st) s.heap.objs.size f cdv)) →
      PSs (cxOf CX0 P w K mg base N qual (defScope st) f cdv A outer s H E).nox (defBody st) (tS K cl H0 F0 noW m)) : FnOk P w K mg base CX0 (k + 1) f fd ps (spF K cl ps.length (runM N.length m)) := by
  refine F.ok S (fun vs H Q E h => h.1) fun cdv A outer s H vs Q E hr h => ?_
  obtain ⟨hl, Fz, ds, sf, tf, r, q⟩ := h
  refine ⟨_, hbody cdv A outer s H E H Fz hr, Fz, _, ⟨rel_start sf tf r, Grow.refl sf tf⟩, ?_⟩
  unfold runM at q
  cases e : m (ds.map (fun d => some (O.val d)) ++ List.replicate (N.length - ds.length) none) with
  | err c => rw [e] at q; exact q
  | stuck => rw [e] at q; exact False.elim q
  | ok fl =>
    rw [e] at q
    cases fl with
    | nx ρ => exact fun F2 H2 σ2 _ R2 => q F2 H2 .non R2.gr .non
    | rt d => exact fun F2 H2 v g2 r2 => q F2 H2 v g2 r2
    | bk ρ => exact False.elim q
    | ct ρ => exact False.elim q
end
end CH
namespace CH
open PySem PySem.Spec L2

/-! ## * -/
section
variable {X : Cx} {cl : Nat → Addr}
def rRepL (K : PySem.W.Frag) : R2 := fun x y H Q => ∃ l k xs, x = .ref l ∧ y = .int k ∧ H l = some (.lst xs) ∧ 0 ≤ k ∧ k < 1000 ∧ xs.length ≤ 1000 ∧ ∀ p, H p = none → Q (.ref p) (upd H p (.lst (List.replicate k.toNat xs).flatten))
abbrev rMulA (K : PySem.W.Frag) : R2 := fun x y H Q => (rI (fun i j => mulOk i j = true) fun i j => V.int (i * j)) x y H Q ∨ rRepF K x y H Q
theorem o_mul : OpR X (binaryOp .Mult) (rMulA X.K) := o_mulI.or op_repF
end
def dMulA : D → D → Res D
  | .int i, .int j => if mulOk i j then .ok (.int (i * j)) else .stuck
  | .tup xs, .int k => if xs ≠ [] ∧ 2 ≤ k ∧ k ≤ 1000 ∧ xs.length ≤ 1000 then .ok (.tup (List.replicate k.toNat xs).flatten) else .stuck
  | _, _ => .stuck
section
variable {X : Cx} {cl : Nat → Addr}
theorem f_mul : Op2 X.K cl dMulA (rMulA X.K) := by
  intro W F H Q v w x y s t rx ry q
  unfold dMulA at q
  split at q
  · split at q
    · rename_i h; exact .inl ⟨_, _, rx.int, ry.int, h, out_v s t q (.int _)⟩
    · exact False.elim q
  · split at q
    · rename_i h
      obtain ⟨a, vs, rfl, ha, ra⟩ := rx.tup
      refine .inr ⟨a, _, vs, rfl, ry.int, sqH s ha, fun z => h.1 ?_, h.2.1, h.2.2.1, by rw [ra.length]; exact h.2.2.2, newT_out s t (ra.rep _) q⟩
      subst z
      cases ra
      rfl
    · exact False.elim q
  · exact False.elim q
end

/-! ## blocks -/
theorem blk_local {scope : Scope} {c : List (Str × Addr)} {C : Addr} {env : PySem.Env} {x : Str} (h : scope.names.lookup x = some .local) : (compEnvC scope c C env).scope.names.lookup x = some .local := lookup_relS_keep (sc := env.scope) (by decide) h
theorem blk_glob {scope : Scope} {c : List (Str × Addr)} {C : Addr} {env : PySem.Env} {x : Str} (h : scope.names.lookup x = some .globalImplicit) : (compEnvC scope c C env).scope.names.lookup x = some .globalImplicit := lookup_relS_keep (sc := env.scope) (by decide) h
theorem lookup_relS_free {sc : Scope} : ∀ {names : List (Str × NameKind)} {x : Str}, names.lookup x = some .free →
    (names.map fun (n, k) => if (k == NameKind.free && sc.kind == .function && sc.names.lookup n == some .cell) then (n, NameKind.cell) else (n, k)).lookup x = some .cell ∨
    (names.map fun (n, k) => if (k == NameKind.free && sc.kind == .function && sc.names.lookup n == some .cell) then (n, NameKind.cell) else (n, k)).lookup x = some .free
  | [], _, h => by simp at h
  | (n, k0) :: r, x, h => by
    have ih := @lookup_relS_free sc r x
    rw [List.map_cons]
    dsimp only
    cases hx : x == n with
    | true =>
      simp only [List.lookup_cons, hx] at h
      cases h
      by_cases hc : (NameKind.free == NameKind.free && sc.kind == .function && sc.names.lookup n == some .cell) = true
      · rw [if_pos hc]; left; simp only [List.lookup_cons, hx]
      · rw [if_neg hc]; right; simp only [List.lookup_cons, hx]
    | false =>
      simp only [List.lookup_cons, hx] at h
      by_cases hc : (k0 == NameKind.free && sc.kind == .function && sc.names.lookup n == some .cell) = true
      · rw [if_pos hc]; simp only [List.lookup_cons, hx]; exact ih h
      · rw [if_neg hc]; simp only [List.lookup_cons, hx]; exact ih h
theorem blk_free {scope : Scope} {c : List (Str × Addr)} {C : Addr} {env : PySem.Env} {x : Str} (h : scope.names.lookup x = some .free) : Vis (compEnvC scope c C env).scope x := by
  rcases lookup_relS_free (sc := env.scope) h with z | z
  · exact .inr (.inl z)
  · exact .inr (.inr z)

abbrev lk (st : Stmt) (x : Str) : Option NameKind := (defScope st).names.lookup x
/-! ## built-in names -/
theorem bt_len : bootBuiltins "len" = some (.builtin "len") := by decide +kernel
theorem bt_abs : bootBuiltins "abs" = some (.builtin "abs") := by decide +kernel
theorem bt_int : bootBuiltins "int" = some (.type "int") := by decide +kernel
theorem bt_str : bootBuiltins "str" = some (.type "str") := by decide +kernel
theorem bt_bool : bootBuiltins "bool" = some (.type "bool") := by decide +kernel
theorem bt_tuple : bootBuiltins "tuple" = some (.type "tuple") := by decide +kernel
theorem bt_list : bootBuiltins "list" = some (.type "list") := by decide +kernel
theorem bt_dict : bootBuiltins "dict" = some (.type "dict") := by decide +kernel
theorem reps_int {K : PySem.W.Frag} {cl : Nat → Addr} {F : Hp} : ∀ ns : List Int, RepL K cl F (ns.map V.int) (ns.map D.int)
  | [] => .nil
  | n :: ns => .cons (.int n) (reps_int ns)
end CH
namespace CH
open PySem PySem.Spec L2
/-! ## reckoning with meanings -/
def Res.seq (r : Res Flw) (b : MS) : Res Flw := match r with
  | .ok (.nx ρ) => b ρ
  | r => r
def Res.bif {α : Type} (r : Res Bool) (a b : Env → Res α) (ρ : Env) : Res α := r.bind fun x => if x then a ρ else b ρ
def Res.ret (r : Res D) : Res Flw := r.bind fun d => .ok (.rt d)
def Res.put (i : Nat) (r : Res D) (ρ : Env) : Res Flw := r.bind fun d => .ok (.nx (ρ.set i (some (.val d))))
def Res.outv (r : Res Flw) : Res D := match r with
  | .ok (.rt d) => .ok d
  | .ok (.nx _) => .ok .non
  | .err c => .err c
  | _ => .stuck
def Res.ap2 (f : D → D → Res D) (x y : Res D) : Res D := x.bind fun a => y.bind fun b => f a b
def Res.bol (r : Res D) : Res Bool := r.bind fun d => match d with
  | .bl b => .ok b
  | _ => .stuck
def Res.neg (r : Res Bool) : Res Bool := r.bind fun b => .ok (!b)
def Res.bl (r : Res Bool) : Res D := r.bind fun b => .ok (.bl b)
def Res.cons (r : Res D) (s : Res (List D)) : Res (List D) := r.bind fun d => s.bind fun ds => .ok (d :: ds)
def getv : Option (Option O) → Res D
  | some (some (.val d)) => .ok d
  | _ => .stuck
def getb : Option (Option O) → Res D
  | some (some o) => o.view
  | _ => .stuck
def Res.tupl (r : Res (List D)) : Res D := r.bind fun ds => .ok (.tup ds)
def Res.lstl (r : Res (List D)) : Res D := r.bind fun ds => .ok (.lst ds)
def Res.loop (r : Res (List D)) (b : BD) (mb : MS) (ρ : Env) : Res Flw := r.bind fun ds => forM b mb ds ρ
section
variable {ρ : Env} {a b c : ME} {x y z : D} {s t : MS} {n m : Env → Res Bool} {k : Bool} {i : Nat} {ms : List ME} {f : D → Res D} {g : D → D → Res D} {h : List D → Res D} {e : Nat} {α : Type} {u w : Env → Res α} {xs : List D}
theorem e_run {N : Nat} : runM N s xs = (s (xs.map (fun d => some (.val d)) ++ List.replicate (N - xs.length) none)).outv := rfl
theorem e_seq : sSeq s t ρ = (s ρ).seq t := rfl
theorem e_nil : sNil ρ = .ok (.nx ρ) := rfl
theorem e_brk : sBreak ρ = .ok (.bk ρ) := rfl
theorem e_cnt : sCont ρ = .ok (.ct ρ) := rfl
theorem e_if : sIf n s t ρ = Res.bif (n ρ) s t ρ := rfl
theorem e_ret : sRet a ρ = (a ρ).ret := rfl
theorem e_retN : sRetN ρ = .ok (.rt .non) := rfl
theorem e_set : sSet i a ρ = Res.put i (a ρ) ρ := rfl
theorem e_for {mi : Env → Res (List D)} {bd : BD} : sFor mi bd s ρ = Res.loop (mi ρ) bd s ρ := rfl
theorem e_test : mTest a ρ = (a ρ).bol := rfl
theorem e_not : mNot n ρ = (n ρ).neg := rfl
theorem e_and : mAnd n m ρ = Res.bif (n ρ) m (fun _ => .ok false) ρ := rfl
theorem e_or : mOr n m ρ = Res.bif (n ρ) (fun _ => .ok true) m ρ := rfl
theorem e_notV : mNotV a ρ = (a ρ).bol.neg.bl := by
  unfold mNotV mTest
  cases a ρ with
  | ok d => cases d <;> rfl
  | err c => rfl
  | stuck => rfl
theorem e_andV : mAndV a b ρ = Res.bif (a ρ).bol b (fun _ => .ok (.bl false)) ρ := rfl
theorem e_orV : mOrV a b ρ = Res.bif (a ρ).bol (fun _ => .ok (.bl true)) b ρ := rfl
theorem e_ifE : mIfE n a b ρ = Res.bif (n ρ) a b ρ := rfl
theorem e_m1 : m1 f a ρ = (a ρ).bind f := rfl
theorem e_m2 : m2 g a b ρ = Res.ap2 g (a ρ) (b ρ) := rfl
theorem e_c : mC x ρ = .ok x := rfl
theorem e_var : mVar i ρ = getv ρ[i]? := by
  unfold mVar getv
  split <;> simp_all
theorem e_varB : mVarB i ρ = getb ρ[i]? := by
  unfold mVarB getb
  split <;> simp_all
theorem e_evN : evL [] ρ = .ok [] := rfl
theorem e_evC : evL (a :: ms) ρ = Res.cons (a ρ) (evL ms ρ) := rfl
theorem e_tup : mTup ms ρ = (evL ms ρ).tupl := rfl
theorem e_lst : mLst ms ρ = (evL ms ρ).lstl := rfl
theorem e_call : mCall h ms ρ = (evL ms ρ).bind h := rfl
theorem e_items : mItems a ρ = (a ρ).bind dItems := rfl
theorem e_yes : mYes ρ = .ok true := rfl
theorem r_seqN : (Res.ok (.nx ρ)).seq s = s ρ := rfl
theorem r_seqR : (Res.ok (.rt x)).seq s = .ok (.rt x) := rfl
theorem r_seqB : (Res.ok (.bk ρ)).seq s = .ok (.bk ρ) := rfl
theorem r_seqC : (Res.ok (.ct ρ)).seq s = .ok (.ct ρ) := rfl
theorem r_seqE : (Res.err e).seq s = .err e := rfl
theorem r_seqS : Res.stuck.seq s = .stuck := rfl
theorem r_bifT : Res.bif (.ok true) u w ρ = u ρ := rfl
theorem r_bifF : Res.bif (.ok false) u w ρ = w ρ := rfl
theorem r_bifE : Res.bif (.err e) u w ρ = .err e := rfl
theorem r_ret : (Res.ok x).ret = .ok (.rt x) := rfl
theorem r_retE : (Res.err e).ret = .err e := rfl
theorem r_put : Res.put i (.ok x) ρ = .ok (.nx (ρ.set i (some (.val x)))) := rfl
theorem r_putE : Res.put i (.err e) ρ = .err e := rfl
theorem r_outR : (Res.ok (.rt x)).outv = .ok x := rfl
theorem r_outN : (Res.ok (.nx ρ)).outv = .ok .non := rfl
theorem r_outE : (Res.err e : Res Flw).outv = .err e := rfl
theorem r_ap2 : Res.ap2 g (.ok x) (.ok y) = g x y := rfl
theorem r_bol : (Res.ok (.bl k)).bol = .ok k := rfl
theorem r_neg : (Res.ok k).neg = .ok (!k) := rfl
theorem r_bl : (Res.ok k).bl = .ok (.bl k) := rfl
theorem r_cons : Res.cons (.ok x) (.ok xs) = .ok (x :: xs) := rfl
theorem r_getv : getv (some (some (.val x))) = .ok x := rfl
theorem r_getb {o : O} : getb (some (some o)) = o.view := rfl
theorem r_tupl : (Res.ok xs).tupl = .ok (.tup xs) := rfl
theorem r_lstl : (Res.ok xs).lstl = .ok (.lst xs) := rfl
theorem r_loop {bd : BD} : Res.loop (.ok xs) bd s ρ = forM bd s xs ρ := rfl
@[simp] theorem view_val : (O.val x).view = .ok x := rfl
end
theorem mulOk_of {i j : Int} (z : IntMulOk i j) : mulOk i j = true := by
  unfold mulOk
  unfold IntMulOk at z
  cases h : (decide (Builtin.Int.intBits i > shortFactorBits) && decide (Builtin.Int.intBits j > shortFactorBits) && Builtin.Int.intTooBig (Builtin.Int.intBits i + Builtin.Int.intBits j)) with
  | true => exact absurd h z
  | false => rfl
/-- products that are small enough -/
theorem mulOk_wide {i j : Int} {p q : Nat} (hi : i.natAbs < 2 ^ p) (hj : j.natAbs < 2 ^ q) (h : p + q ≤ 999998) : mulOk i j = true := by
  refine mulOk_of (wide_mul (a := p + 1) (b := q + 1) (Nat.lt_of_lt_of_le hi (Nat.pow_le_pow_right (by decide) (by omega))) (Nat.lt_of_lt_of_le hj (Nat.pow_le_pow_right (by decide) (by omega))) (by omega) (by omega) (by omega)).ok
/-- the right factor is small -/
theorem mulOk_right {i j : Int} (h1 : -(2 ^ 64) < j) (h2 : j < 2 ^ 64) : mulOk i j = true := mulOk_of (CMul.ok (.inr ⟨h1, h2⟩))
theorem mulOk_left {i j : Int} (h1 : -(2 ^ 64) < i) (h2 : i < 2 ^ 64) : mulOk i j = true := mulOk_of (CMul.ok (.inl ⟨h1, h2⟩))
theorem noPy {i j : Int} (h : j.natAbs < 1073741824) : Builtin.divisionGoesByPylong i j = false := PyProof.noPylong_small h
@[simp] theorem dAdd_int (i j : Int) : dAdd (.int i) (.int j) = .ok (.int (i + j)) := rfl
@[simp] theorem dSub_int (i j : Int) : dSub (.int i) (.int j) = .ok (.int (i - j)) := rfl
@[simp] theorem dLt_int (i j : Int) : dLt (.int i) (.int j) = .ok (.bl (decide (i < j))) := rfl
@[simp] theorem dLe_int (i j : Int) : dLe (.int i) (.int j) = .ok (.bl (decide (i ≤ j))) := rfl
@[simp] theorem dGt_int (i j : Int) : dGt (.int i) (.int j) = .ok (.bl (decide (j < i))) := rfl
@[simp] theorem dGe_int (i j : Int) : dGe (.int i) (.int j) = .ok (.bl (decide (j ≤ i))) := rfl
@[simp] theorem dNeg_int (i : Int) : dNeg (.int i) = .ok (.int (-i)) := rfl
theorem dMod_int {i j : Int} (h : 0 < j) : dMod (.int i) (.int j) = .ok (.int (i % j)) := by simp [dMod, h]
theorem dDiv_int {i j : Int} (h : 0 < j) (h2 : j < 1073741824) : dDiv (.int i) (.int j) = .ok (.int (i / j)) := by
  simp [dDiv, h, noPy (i := i) (j := j) (by omega)]
theorem dMul_int {i j : Int} (h : mulOk i j = true) : dMulA (.int i) (.int j) = .ok (.int (i * j)) := by simp [dMulA, h]
@[simp] theorem dInt_bl (b : Bool) : dInt (.bl b) = .ok (.int (if b then 1 else 0)) := rfl
@[simp] theorem dInt_int (i : Int) : dInt (.int i) = .ok (.int i) := rfl
theorem shaped_flat {p : PyData} (h : p.canLay0 = true) (hd : p.depth ≤ 64) : SeqAt.shaped p = true := by unfold SeqAt.shaped; rw [h]; simpa using hd
@[simp] theorem dEqB_int (i j : Int) : dEqB (.int i) (.int j) = .ok (decide (i = j)) := by
  have h : ∀ i : Int, SeqAt.shaped (.int i) = true := fun i => shaped_flat (by simp [PyData.canLay0]) (by simp [PyData.depth])
  simp only [dEqB, D.py, h, Bool.and_self, if_true, PyData.eqv]
  by_cases e : i = j <;> simp [e]
@[simp] theorem dEq_int (i j : Int) : dEq (.int i) (.int j) = .ok (.bl (decide (i = j))) := by simp [dEq]
@[simp] theorem dNe_int (i j : Int) : dNe (.int i) (.int j) = .ok (.bl (!decide (i = j))) := by simp [dNe]
/-- a text of signs that Python has -/
def okS (x : Str) : Bool := PyData.strOk x
theorem shaped_str {x : Str} (h : okS x = true) : SeqAt.shaped (.str x) = true := shaped_flat (by simpa [PyData.canLay0, okS] using h) (by simp [PyData.depth])
theorem dEqB_str {x y : Str} (h : okS x = true) (h2 : okS y = true) : dEqB (.str x) (.str y) = .ok (decide (x = y)) := by
  simp only [dEqB, D.py, shaped_str h, shaped_str h2, Bool.and_self, if_true, PyData.eqv]
  by_cases e : x = y <;> simp [e]
theorem dEq_str {x y : Str} (h : okS x = true) (h2 : okS y = true) : dEq (.str x) (.str y) = .ok (.bl (decide (x = y))) := by
  simp [dEq, dEqB_str h h2]
theorem map_toNat_inj : ∀ {a b : List Char}, a.map Char.toNat = b.map Char.toNat → a = b
  | [], [], _ => rfl
  | [], _ :: _, h => by simp at h
  | _ :: _, [], h => by simp at h
  | x :: xs, y :: ys, h => by
    simp only [List.map_cons, List.cons.injEq] at h
    rw [map_toNat_inj h.2, Char.toNat_inj.mp h.1]
theorem ofS_eq (a b : String) : (Str.ofString a = Str.ofString b) = (a = b) := by
  apply propext
  constructor
  · intro h
    rw [Str.ofString_eq_toList, Str.ofString_eq_toList] at h
    have h1 : (a.toList.map Char.toNat).toArray = (b.toList.map Char.toNat).toArray := by injection h
    have h2 : a.toList.map Char.toNat = b.toList.map Char.toNat := by simpa using h1
    exact String.toList_inj.mp (map_toNat_inj h2)
  · intro h; rw [h]
/-! ## loops, comprehensions -/
section
variable {ρ : Env} {s : MS} {bd : BD} {x : D} {xs : List D} {i : Nat}
theorem for_nil : forM bd s [] ρ = .ok (.nx ρ) := rfl
theorem for_name {ρ2 : Env} (h : s (ρ.set i (some (.val x))) = .ok (.nx ρ2)) : forM (bName i) s (x :: xs) ρ = forM (bName i) s xs ρ2 := by
  simp only [forM, bName, h]
theorem for_name_rt {d : D} (h : s (ρ.set i (some (.val x))) = .ok (.rt d)) : forM (bName i) s (x :: xs) ρ = .ok (.rt d) := by
  simp only [forM, bName, h]
/-- every turn goes on -/
theorem for_inv (P : List D → Env → Prop) : ∀ (xs : List D) (ρ : Env), P xs ρ → (∀ x xs ρ, P (x :: xs) ρ → ∃ ρ1 ρ2, bd x ρ = .ok ρ1 ∧ s ρ1 = .ok (.nx ρ2) ∧ P xs ρ2) → ∃ ρ', P [] ρ' ∧ forM bd s xs ρ = .ok (.nx ρ')
  | [], ρ, h, _ => ⟨ρ, h, rfl⟩
  | x :: xs, ρ, h, st => by
    obtain ⟨ρ1, ρ2, e1, e2, h2⟩ := st x xs ρ h
    obtain ⟨ρ', h3, e3⟩ := for_inv P xs ρ2 h2 st
    exact ⟨ρ', h3, by simp only [forM, e1, e2]; exact e3⟩
theorem lc_map {me : ME} {f : D → D} : ∀ (xs : List D), (∀ x ∈ xs, me (ρ.set i (some (.val x))) = .ok (f x)) → lcM (bName i) mYes me xs ρ = .ok (xs.map f)
  | [], _ => rfl
  | x :: xs, h => by
    simp only [lcM, bName, Res.bind_ok, mYes, if_true, h x List.mem_cons_self, lc_map xs fun y hy => h y (List.mem_cons_of_mem _ hy), List.map_cons]
theorem mLc_map {mi : Env → Res (List D)} {me : ME} {f : D → D} (h1 : mi ρ = .ok xs) (hl : xs.length ≤ sizeLine) (h : ∀ x ∈ xs, me ((wipeE ρ [i]).set i (some (.val x))) = .ok (f x)) : mLc mi (bName i) mYes me [i] ρ = .ok (.lst (xs.map f)) := by
  simp only [mLc, mLcL, h1, Res.bind_ok, if_pos hl, lc_map xs h, Res.calm_ok]
end
theorem e_rng1 {a : ME} {ρ : Env} {j : Int} (h : a ρ = .ok (.int j)) (h1 : -(2 ^ 62) ≤ j) (h2 : j < 2 ^ 62) : mRange1 a ρ = .ok (rangeD 0 j.toNat) := by
  simp only [mRange1, h, Res.bind_ok, if_pos (And.intro h1 h2)]
/-! ## dicts of numbers by texts -/
def SI (n : Nat) (kvs : List (D × D)) : Prop := ∀ kv ∈ kvs, ∃ (x : Str) (i : Int), kv = (.str x, .int i) ∧ i.natAbs ≤ n
theorem SI.put {n : Nat} {kvs : List (D × D)} {x : Str} {i : Int} (h : SI n kvs) (hi : i.natAbs ≤ n) : SI n (putD kvs (.str x) (.int i)) := by
  unfold putD
  intro kv hk
  split at hk
  · obtain ⟨kv0, h0, e⟩ := List.mem_map.mp hk
    obtain ⟨y, j, rfl, hj⟩ := h kv0 h0
    split at e
    · exact ⟨y, i, e.symm, hi⟩
    · exact ⟨y, j, e.symm, hj⟩
  · rcases List.mem_append.mp hk with hk | hk
    · exact h kv hk
    · simp only [List.mem_singleton] at hk
      exact ⟨x, i, hk, hi⟩
theorem SI.merge {n : Nat} : ∀ {more kvs : List (D × D)}, SI n more → SI n kvs → SI n (mergeD kvs more)
  | [], _, _, h => h
  | kv :: more, kvs, hm, h => by
    obtain ⟨x, i, rfl, hi⟩ := hm kv List.mem_cons_self
    unfold mergeD
    rw [List.foldl_cons]
    exact SI.merge (fun kv hk => hm kv (List.mem_cons_of_mem _ hk)) (h.put hi)
theorem SI.look {n : Nat} (x : D) : ∀ {kvs : List (D × D)}, SI n kvs → lookD x kvs = none ∨ ∃ i : Int, lookD x kvs = some (.int i) ∧ i.natAbs ≤ n
  | [], _ => .inl rfl
  | kv :: kvs, h => by
    obtain ⟨y, i, rfl, hi⟩ := h kv List.mem_cons_self
    unfold lookD
    split
    · exact .inr ⟨i, rfl, hi⟩
    · exact SI.look x fun kv hk => h kv (List.mem_cons_of_mem _ hk)
theorem pairsD_map : ∀ (hs : List (Str × Int)), pairsD (hs.map fun p => .tup [.str p.1, .int p.2]) = some (hs.map fun p => (.str p.1, .int p.2))
  | [] => rfl
  | p :: hs => by simp only [List.map_cons, pairsD, asKey, pairsD_map hs, Option.map_some]
theorem dIx_str {z x : Str} {i : Int} {c : Nat} (h : z.length ≤ sizeLine) (e : atI z.cps.toList i = some c) (ex : (⟨#[c]⟩ : Str) = x) : dIx (.str z) (.int i) = .ok (.str x) := by
  subst ex
  simp only [dIx, if_pos h, e]
end CH
namespace K02
open PySem PySem.Spec L2 CH
def topS (i : Nat) : Stmt := PySem.Challenge.pw_closedhand_k02_sums.main.body.getD i (.Pass ⟨0, 0, 0, 0⟩)
inductive Fn where
  | number_by | number_of | _law_cell_at | _law_mixed | _law_drawn | _law_sum | _law_number_by | _law_once | law
/-! ### number_by -/
abbrev st_number_by : Stmt := topS 1
abbrev N_number_by : List Str := ["here", "book", "one", "other"]
theorem sc_number_by : FnScope N_number_by ["here", "book"] (defScope st_number_by) := ⟨by decide +kernel, by decide +kernel, by decide +kernel, by decide +kernel, by decide +kernel, by decide +kernel, by decide +kernel⟩
theorem v0_number_by_book : lk st_number_by "book" = some .local := by decide +kernel
theorem v_number_by_book : Vis (defScope st_number_by) "book" := .inl v0_number_by_book
theorem l_number_by_book : Loc (defScope st_number_by) "book" := .inl v0_number_by_book
theorem v0_number_by_here : lk st_number_by "here" = some .local := by decide +kernel
theorem v_number_by_here : Vis (defScope st_number_by) "here" := .inl v0_number_by_here
theorem l_number_by_here : Loc (defScope st_number_by) "here" := .inl v0_number_by_here
theorem v0_number_by_one : lk st_number_by "one" = some .local := by decide +kernel
theorem v_number_by_one : Vis (defScope st_number_by) "one" := .inl v0_number_by_one
theorem l_number_by_one : Loc (defScope st_number_by) "one" := .inl v0_number_by_one
theorem v0_number_by_other : lk st_number_by "other" = some .local := by decide +kernel
theorem v_number_by_other : Vis (defScope st_number_by) "other" := .inl v0_number_by_other
theorem l_number_by_other : Loc (defScope st_number_by) "other" := .inl v0_number_by_other
theorem g_number_by_int : lk st_number_by "int" = some .globalImplicit := by decide +kernel
theorem g_number_by_isinstance : lk st_number_by "isinstance" = some .globalImplicit := by decide +kernel
theorem g_number_by_number_by : lk st_number_by "number_by" = some .globalImplicit := by decide +kernel
theorem g_number_by_str : lk st_number_by "str" = some .globalImplicit := by decide +kernel
noncomputable def m_number_by (C : Fn → List D → Res D) : MS :=
  (sSeq (sIf (mTest (m1 (dIsi "int") (mVarB 0))) (sRet (mVar 0)) sNil)
  (sSeq (sIf (mTest (m1 (dIsi "str") (mVarB 0))) (sRet (mGet (mVarB 1) (mVar 0) (mC (.int 0)))) sNil)
  (sSeq (sSet 2 (mCall (fun ds => (C .number_by ds).calm) [(m2 dIx (mVarB 0) (mC (.int 1))), (mVar 1)]))
  (sSeq (sSet 3 (mCall (fun ds => (C .number_by ds).calm) [(m2 dIx (mVarB 0) (mC (.int 2))), (mVar 1)]))
  (sSeq (sIf (mTest (m2 dEq (m2 dIx (mVarB 0) (mC (.int 0))) (mC (.str "plus")))) (sRet (m2 dAdd (mVarB 2) (mVarB 3))) sNil)
  (sSeq (sIf (mTest (m2 dEq (m2 dIx (mVarB 0) (mC (.int 0))) (mC (.str "less")))) (sRet (m2 dSub (mVarB 2) (mVarB 3))) sNil)
  (sSeq (sIf (mTest (m2 dEq (m2 dIx (mVarB 0) (mC (.int 0))) (mC (.str "times")))) (sRet (m2 dMulA (mVarB 2) (mVarB 3))) sNil)
  (sSeq (sIf (mTest (m2 dEq (m2 dIx (mVarB 0) (mC (.int 0))) (mC (.str "under")))) (sRet (m1 dInt (m2 dLt (mVarB 2) (mVarB 3)))) sNil)
  (sRet (m1 dInt (m2 dEq (mVarB 2) (mVarB 3))))))))))))
/-! ### number_of -/
abbrev st_number_of : Stmt := topS 2
abbrev N_number_of : List Str := ["here", "held"]
theorem sc_number_of : FnScope N_number_of ["here", "held"] (defScope st_number_of) := ⟨by decide +kernel, by decide +kernel, by decide +kernel, by decide +kernel, by decide +kernel, by decide +kernel, by decide +kernel⟩
theorem v0_number_of_held : lk st_number_of "held" = some .local := by decide +kernel
theorem v_number_of_held : Vis (defScope st_number_of) "held" := .inl v0_number_of_held
theorem l_number_of_held : Loc (defScope st_number_of) "held" := .inl v0_number_of_held
theorem v0_number_of_here : lk st_number_of "here" = some .local := by decide +kernel
theorem v_number_of_here : Vis (defScope st_number_of) "here" := .inl v0_number_of_here
theorem l_number_of_here : Loc (defScope st_number_of) "here" := .inl v0_number_of_here
theorem g_number_of_dict : lk st_number_of "dict" = some .globalImplicit := by decide +kernel
theorem g_number_of_number_by : lk st_number_of "number_by" = some .globalImplicit := by decide +kernel
noncomputable def m_number_of (C : Fn → List D → Res D) : MS :=
  (sRet (mCall (fun ds => (C .number_by ds).calm) [(mVar 0), (m1 dDict (mVarB 1))]))
/-! ### _law_cell_at -/
abbrev st__law_cell_at : Stmt := topS 4
abbrev N__law_cell_at : List Str := ["script", "k"]
theorem sc__law_cell_at : FnScope N__law_cell_at ["script", "k"] (defScope st__law_cell_at) := ⟨by decide +kernel, by decide +kernel, by decide +kernel, by decide +kernel, by decide +kernel, by decide +kernel, by decide +kernel⟩
theorem v0__law_cell_at_k : lk st__law_cell_at "k" = some .local := by decide +kernel
theorem v__law_cell_at_k : Vis (defScope st__law_cell_at) "k" := .inl v0__law_cell_at_k
theorem l__law_cell_at_k : Loc (defScope st__law_cell_at) "k" := .inl v0__law_cell_at_k
theorem v0__law_cell_at_script : lk st__law_cell_at "script" = some .local := by decide +kernel
theorem v__law_cell_at_script : Vis (defScope st__law_cell_at) "script" := .inl v0__law_cell_at_script
theorem l__law_cell_at_script : Loc (defScope st__law_cell_at) "script" := .inl v0__law_cell_at_script
theorem g__law_cell_at_len : lk st__law_cell_at "len" = some .globalImplicit := by decide +kernel
noncomputable def m__law_cell_at (C : Fn → List D → Res D) : MS :=
  (sSeq (sIf (mTest (m2 dLt (mVarB 1) (m1 dLen (mVarB 0)))) (sRet (m2 dIx (mVarB 0) (mVarB 1))) sNil)
  (sRet (mC (.int 0))))
/-! ### _law_mixed -/
abbrev st__law_mixed : Stmt := topS 5
abbrev N__law_mixed : List Str := ["script", "k", "drawn"]
theorem sc__law_mixed : FnScope N__law_mixed ["script", "k"] (defScope st__law_mixed) := ⟨by decide +kernel, by decide +kernel, by decide +kernel, by decide +kernel, by decide +kernel, by decide +kernel, by decide +kernel⟩
theorem v0__law_mixed_drawn : lk st__law_mixed "drawn" = some .local := by decide +kernel
theorem v__law_mixed_drawn : Vis (defScope st__law_mixed) "drawn" := .inl v0__law_mixed_drawn
theorem l__law_mixed_drawn : Loc (defScope st__law_mixed) "drawn" := .inl v0__law_mixed_drawn
theorem v0__law_mixed_k : lk st__law_mixed "k" = some .local := by decide +kernel
theorem v__law_mixed_k : Vis (defScope st__law_mixed) "k" := .inl v0__law_mixed_k
theorem l__law_mixed_k : Loc (defScope st__law_mixed) "k" := .inl v0__law_mixed_k
theorem v0__law_mixed_script : lk st__law_mixed "script" = some .local := by decide +kernel
theorem v__law_mixed_script : Vis (defScope st__law_mixed) "script" := .inl v0__law_mixed_script
theorem l__law_mixed_script : Loc (defScope st__law_mixed) "script" := .inl v0__law_mixed_script
theorem g__law_mixed__law_cell_at : lk st__law_mixed "_law_cell_at" = some .globalImplicit := by decide +kernel
noncomputable def m__law_mixed (C : Fn → List D → Res D) : MS :=
  (sSeq (sSet 2 (m2 dMod (m2 dMulA (m2 dAdd (m2 dAdd (mCall (fun ds => (C ._law_cell_at ds).calm) [(mVar 0), (mVar 1)]) (m2 dMulA (mC (.int 7919)) (mVarB 1))) (mC (.int 1))) (mC (.int 48271))) (mC (.int 2147483647))))
  (sRet (m2 dMod (m2 dAdd (m2 dAdd (m2 dMulA (mVarB 2) (mVarB 2)) (m2 dMulA (mC (.int 7)) (mVarB 2))) (mVarB 1)) (mC (.int 2147483629)))))
/-! ### _law_drawn -/
abbrev st__law_drawn : Stmt := topS 6
abbrev N__law_drawn : List Str := ["number", "k", "drawn"]
theorem sc__law_drawn : FnScope N__law_drawn ["number", "k"] (defScope st__law_drawn) := ⟨by decide +kernel, by decide +kernel, by decide +kernel, by decide +kernel, by decide +kernel, by decide +kernel, by decide +kernel⟩
theorem v0__law_drawn_drawn : lk st__law_drawn "drawn" = some .local := by decide +kernel
theorem v__law_drawn_drawn : Vis (defScope st__law_drawn) "drawn" := .inl v0__law_drawn_drawn
theorem l__law_drawn_drawn : Loc (defScope st__law_drawn) "drawn" := .inl v0__law_drawn_drawn
theorem v0__law_drawn_k : lk st__law_drawn "k" = some .local := by decide +kernel
theorem v__law_drawn_k : Vis (defScope st__law_drawn) "k" := .inl v0__law_drawn_k
theorem l__law_drawn_k : Loc (defScope st__law_drawn) "k" := .inl v0__law_drawn_k
theorem v0__law_drawn_number : lk st__law_drawn "number" = some .local := by decide +kernel
theorem v__law_drawn_number : Vis (defScope st__law_drawn) "number" := .inl v0__law_drawn_number
theorem l__law_drawn_number : Loc (defScope st__law_drawn) "number" := .inl v0__law_drawn_number
noncomputable def m__law_drawn (C : Fn → List D → Res D) : MS :=
  (sSeq (sSet 2 (m2 dMod (m2 dMulA (m2 dAdd (m2 dAdd (mVarB 0) (m2 dMulA (mC (.int 104729)) (mVarB 1))) (mC (.int 17))) (mC (.int 69621))) (mC (.int 2147483647))))
  (sRet (m2 dMod (m2 dAdd (m2 dAdd (m2 dMulA (mVarB 2) (mVarB 2)) (m2 dMulA (mC (.int 3)) (mVarB 2))) (mVarB 1)) (mC (.int 2147483629)))))
/-! ### _law_sum -/
abbrev st__law_sum : Stmt := topS 7
abbrev N__law_sum : List Str := ["number", "deep", "one", "word"]
theorem sc__law_sum : FnScope N__law_sum ["number", "deep"] (defScope st__law_sum) := ⟨by decide +kernel, by decide +kernel, by decide +kernel, by decide +kernel, by decide +kernel, by decide +kernel, by decide +kernel⟩
theorem v0__law_sum_deep : lk st__law_sum "deep" = some .local := by decide +kernel
theorem v__law_sum_deep : Vis (defScope st__law_sum) "deep" := .inl v0__law_sum_deep
theorem l__law_sum_deep : Loc (defScope st__law_sum) "deep" := .inl v0__law_sum_deep
theorem v0__law_sum_number : lk st__law_sum "number" = some .local := by decide +kernel
theorem v__law_sum_number : Vis (defScope st__law_sum) "number" := .inl v0__law_sum_number
theorem l__law_sum_number : Loc (defScope st__law_sum) "number" := .inl v0__law_sum_number
theorem v0__law_sum_one : lk st__law_sum "one" = some .local := by decide +kernel
theorem v__law_sum_one : Vis (defScope st__law_sum) "one" := .inl v0__law_sum_one
theorem l__law_sum_one : Loc (defScope st__law_sum) "one" := .inl v0__law_sum_one
theorem v0__law_sum_word : lk st__law_sum "word" = some .local := by decide +kernel
theorem v__law_sum_word : Vis (defScope st__law_sum) "word" := .inl v0__law_sum_word
theorem l__law_sum_word : Loc (defScope st__law_sum) "word" := .inl v0__law_sum_word
theorem g__law_sum__law_drawn : lk st__law_sum "_law_drawn" = some .globalImplicit := by decide +kernel
theorem g__law_sum__law_sum : lk st__law_sum "_law_sum" = some .globalImplicit := by decide +kernel
noncomputable def m__law_sum (C : Fn → List D → Res D) : MS :=
  (sSeq (sIf (mOr (mTest (m2 dEq (mVarB 1) (mC (.int 0)))) (mTest (m2 dEq (m2 dMod (mVarB 0) (mC (.int 3))) (mC (.int 0))))) (sRet (m2 dIx (mLst [(mC (.str "a")), (mC (.str "b")), (mC (.str "c")), (mC (.str "d")), (m2 dSub (m2 dMod (m2 dDiv (mVarB 0) (mC (.int 9))) (mC (.int 9))) (mC (.int 4))), (m2 dSub (m2 dMod (m2 dDiv (mVarB 0) (mC (.int 9))) (mC (.int 101))) (mC (.int 50)))]) (m2 dMod (m2 dDiv (mVarB 0) (mC (.int 3))) (mC (.int 6))))) sNil)
  (sSeq (sSet 2 (mCall (fun ds => (C ._law_sum ds).calm) [(mCall (fun ds => (C ._law_drawn ds).calm) [(mVar 0), (mC (.int 1))]), (m2 dSub (mVarB 1) (mC (.int 1)))]))
  (sSeq (sSet 3 (m2 dIx (mTup [(mC (.str "plus")), (mC (.str "less")), (mC (.str "times")), (mC (.str "under")), (mC (.str "alike"))]) (m2 dMod (m2 dDiv (mVarB 0) (mC (.int 3))) (mC (.int 5)))))
  (sRet (mTup [(mVar 3), (mVar 2), (mCall (fun ds => (C ._law_sum ds).calm) [(mCall (fun ds => (C ._law_drawn ds).calm) [(mVar 0), (mC (.int 2))]), (m2 dSub (mVarB 1) (mC (.int 1)))])])))))
/-! ### _law_number_by -/
abbrev st__law_number_by : Stmt := topS 13
abbrev N__law_number_by : List Str := ["here", "book", "one", "other"]
theorem sc__law_number_by : FnScope N__law_number_by ["here", "book"] (defScope st__law_number_by) := ⟨by decide +kernel, by decide +kernel, by decide +kernel, by decide +kernel, by decide +kernel, by decide +kernel, by decide +kernel⟩
theorem v0__law_number_by_book : lk st__law_number_by "book" = some .local := by decide +kernel
theorem v__law_number_by_book : Vis (defScope st__law_number_by) "book" := .inl v0__law_number_by_book
theorem l__law_number_by_book : Loc (defScope st__law_number_by) "book" := .inl v0__law_number_by_book
theorem v0__law_number_by_here : lk st__law_number_by "here" = some .local := by decide +kernel
theorem v__law_number_by_here : Vis (defScope st__law_number_by) "here" := .inl v0__law_number_by_here
theorem l__law_number_by_here : Loc (defScope st__law_number_by) "here" := .inl v0__law_number_by_here
theorem v0__law_number_by_one : lk st__law_number_by "one" = some .local := by decide +kernel
theorem v__law_number_by_one : Vis (defScope st__law_number_by) "one" := .inl v0__law_number_by_one
theorem l__law_number_by_one : Loc (defScope st__law_number_by) "one" := .inl v0__law_number_by_one
theorem v0__law_number_by_other : lk st__law_number_by "other" = some .local := by decide +kernel
theorem v__law_number_by_other : Vis (defScope st__law_number_by) "other" := .inl v0__law_number_by_other
theorem l__law_number_by_other : Loc (defScope st__law_number_by) "other" := .inl v0__law_number_by_other
theorem g__law_number_by__law_number_by : lk st__law_number_by "_law_number_by" = some .globalImplicit := by decide +kernel
theorem g__law_number_by_int : lk st__law_number_by "int" = some .globalImplicit := by decide +kernel
theorem g__law_number_by_isinstance : lk st__law_number_by "isinstance" = some .globalImplicit := by decide +kernel
theorem g__law_number_by_str : lk st__law_number_by "str" = some .globalImplicit := by decide +kernel
noncomputable def m__law_number_by (C : Fn → List D → Res D) : MS :=
  (sSeq (sIf (mTest (m1 (dIsi "int") (mVarB 0))) (sRet (mVar 0)) sNil)
  (sSeq (sIf (mTest (m1 (dIsi "str") (mVarB 0))) (sRet (mGet (mVarB 1) (mVar 0) (mC (.int 0)))) sNil)
  (sSeq (sSet 2 (mCall (fun ds => (C ._law_number_by ds).calm) [(m2 dIx (mVarB 0) (mC (.int 1))), (mVar 1)]))
  (sSeq (sSet 3 (mCall (fun ds => (C ._law_number_by ds).calm) [(m2 dIx (mVarB 0) (mC (.int 2))), (mVar 1)]))
  (sSeq (sIf (mTest (m2 dEq (m2 dIx (mVarB 0) (mC (.int 0))) (mC (.str "times")))) (sRet (m2 dMulA (mVarB 2) (mVarB 3))) sNil)
  (sSeq (sIf (mTest (m2 dEq (m2 dIx (mVarB 0) (mC (.int 0))) (mC (.str "under")))) (sRet (m1 dInt (m2 dLt (mVarB 2) (mVarB 3)))) sNil)
  (sSeq (sIf (mTest (m2 dEq (m2 dIx (mVarB 0) (mC (.int 0))) (mC (.str "alike")))) (sRet (m1 dInt (m2 dEq (mVarB 2) (mVarB 3)))) sNil)
  (sRet (m2 dAdd (mVarB 2) (m2 dIx (mLst [(mVar 3), (m1 dNeg (mVarB 3))]) (m1 dInt (m2 dEq (m2 dIx (mVarB 0) (mC (.int 0))) (mC (.str "less"))))))))))))))
/-! ### _law_once -/
abbrev st__law_once : Stmt := topS 14
abbrev N__law_once : List Str := ["script", "some", "held", "k", "found", "drawn"]
theorem sc__law_once : FnScope N__law_once ["script"] (defScope st__law_once) := ⟨by decide +kernel, by decide +kernel, by decide +kernel, by decide +kernel, by decide +kernel, by decide +kernel, by decide +kernel⟩
theorem v0__law_once_drawn : lk st__law_once "drawn" = some .local := by decide +kernel
theorem v__law_once_drawn : Vis (defScope st__law_once) "drawn" := .inl v0__law_once_drawn
theorem l__law_once_drawn : Loc (defScope st__law_once) "drawn" := .inl v0__law_once_drawn
theorem v0__law_once_found : lk st__law_once "found" = some .local := by decide +kernel
theorem v__law_once_found : Vis (defScope st__law_once) "found" := .inl v0__law_once_found
theorem l__law_once_found : Loc (defScope st__law_once) "found" := .inl v0__law_once_found
theorem v0__law_once_held : lk st__law_once "held" = some .local := by decide +kernel
theorem v__law_once_held : Vis (defScope st__law_once) "held" := .inl v0__law_once_held
theorem l__law_once_held : Loc (defScope st__law_once) "held" := .inl v0__law_once_held
theorem v0__law_once_k : lk st__law_once "k" = some .local := by decide +kernel
theorem v__law_once_k : Vis (defScope st__law_once) "k" := .inl v0__law_once_k
theorem l__law_once_k : Loc (defScope st__law_once) "k" := .inl v0__law_once_k
theorem v0__law_once_script : lk st__law_once "script" = some .local := by decide +kernel
theorem v__law_once_script : Vis (defScope st__law_once) "script" := .inl v0__law_once_script
theorem l__law_once_script : Loc (defScope st__law_once) "script" := .inl v0__law_once_script
theorem v0__law_once_some : lk st__law_once "some" = some .local := by decide +kernel
theorem v__law_once_some : Vis (defScope st__law_once) "some" := .inl v0__law_once_some
theorem l__law_once_some : Loc (defScope st__law_once) "some" := .inl v0__law_once_some
theorem g__law_once__law_mixed : lk st__law_once "_law_mixed" = some .globalImplicit := by decide +kernel
theorem g__law_once__law_number_by : lk st__law_once "_law_number_by" = some .globalImplicit := by decide +kernel
theorem g__law_once__law_sum : lk st__law_once "_law_sum" = some .globalImplicit := by decide +kernel
theorem g__law_once_bool : lk st__law_once "bool" = some .globalImplicit := by decide +kernel
theorem g__law_once_dict : lk st__law_once "dict" = some .globalImplicit := by decide +kernel
theorem g__law_once_isinstance : lk st__law_once "isinstance" = some .globalImplicit := by decide +kernel
theorem g__law_once_number_of : lk st__law_once "number_of" = some .globalImplicit := by decide +kernel
theorem g__law_once_range : lk st__law_once "range" = some .globalImplicit := by decide +kernel
noncomputable def m__law_once_b0 (C : Fn → List D → Res D) : MS :=
  (sSeq (sSet 5 (mCall (fun ds => (C ._law_mixed ds).calm) [(mVar 0), (m2 dAdd (mC (.int 1)) (mVarB 3))]))
  (sIf (mTest (m2 dGt (m2 dMod (mVarB 5) (mC (.int 3))) (mC (.int 0)))) (sSet 2 (m2 dAdd (mVarB 2) (mTup [(mTup [(m2 dIx (mC (.str "abcd")) (mVarB 3)), (m2 dSub (m2 dMod (m2 dDiv (mVarB 5) (mC (.int 3))) (m2 dIx (mTup [(mC (.int 9)), (mC (.int 1000))]) (m2 dMod (m2 dDiv (mVarB 5) (mC (.int 5))) (mC (.int 2))))) (mC (.int 4)))])]))) sNil))
noncomputable def m__law_once (C : Fn → List D → Res D) : MS :=
  (sSeq (sSet 1 (mCall (fun ds => (C ._law_sum ds).calm) [(mCall (fun ds => (C ._law_mixed ds).calm) [(mVar 0), (mC (.int 0))]), (mC (.int 6))]))
  (sSeq (sSet 2 (mTup []))
  (sSeq (sFor (mRange1 (mC (.int 4))) (bName 3) (m__law_once_b0 C))
  (sSeq (sSet 4 (mCall (fun ds => (C .number_of ds).calm) [(mVar 1), (mVar 2)]))
  (sRet (mAndV (mNotV (m1 (dIsi "bool") (mVarB 4))) (m2 dEq (mVarB 4) (mCall (fun ds => (C ._law_number_by ds).calm) [(mVar 1), (m1 dDict (mVarB 2))]))))))))
/-! ### law -/
abbrev st_law : Stmt := topS 15
abbrev N_law : List Str := ["script", "cell"]
theorem sc_law : FnScope N_law ["script"] (defScope st_law) := ⟨by decide +kernel, by decide +kernel, by decide +kernel, by decide +kernel, by decide +kernel, by decide +kernel, by decide +kernel⟩
theorem v0_law_script : lk st_law "script" = some .local := by decide +kernel
theorem v_law_script : Vis (defScope st_law) "script" := .inl v0_law_script
theorem l_law_script : Loc (defScope st_law) "script" := .inl v0_law_script
theorem g_law__law_once : lk st_law "_law_once" = some .globalImplicit := by decide +kernel
noncomputable def m_law (C : Fn → List D → Res D) : MS :=
  (sRet (mAndV (mCall (fun ds => (C ._law_once ds).calm) [(mVar 0)]) (mCall (fun ds => (C ._law_once ds).calm) [(mLc (mItems (m1 dRev (mVarB 0))) (bName 1) mYes (m2 dAdd (mVarB 1) (mC (.int 1))) [1])])))
noncomputable def callF : Nat → Fn → List D → Res D
  | 0, _ => fun _ => .stuck
  | k + 1, .number_by => runM 4 (m_number_by (callF k))
  | k + 1, .number_of => runM 2 (m_number_of (callF k))
  | k + 1, ._law_cell_at => runM 2 (m__law_cell_at (callF k))
  | k + 1, ._law_mixed => runM 3 (m__law_mixed (callF k))
  | k + 1, ._law_drawn => runM 3 (m__law_drawn (callF k))
  | k + 1, ._law_sum => runM 4 (m__law_sum (callF k))
  | k + 1, ._law_number_by => runM 4 (m__law_number_by (callF k))
  | k + 1, ._law_once => runM 6 (m__law_once (callF k))
  | k + 1, .law => runM 2 (m_law (callF k))
/-- what the top has left -/
structure Top (K : PySem.W.Frag) (mg : Str → Option Value) where
  a_number_by : Addr
  d_number_by : FuncData
  f_number_by : Fun K "number_by" "number_by" st_number_by a_number_by d_number_by
  b_number_by : Binds K d_number_by ["here", "book"] []
  g_number_by : mg "number_by" = some (.ref a_number_by)
  a_number_of : Addr
  d_number_of : FuncData
  f_number_of : Fun K "number_of" "number_of" st_number_of a_number_of d_number_of
  b_number_of : Binds K d_number_of ["here", "held"] []
  g_number_of : mg "number_of" = some (.ref a_number_of)
  a__law_cell_at : Addr
  d__law_cell_at : FuncData
  f__law_cell_at : Fun K "_law_cell_at" "_law_cell_at" st__law_cell_at a__law_cell_at d__law_cell_at
  b__law_cell_at : Binds K d__law_cell_at ["script", "k"] []
  g__law_cell_at : mg "_law_cell_at" = some (.ref a__law_cell_at)
  a__law_mixed : Addr
  d__law_mixed : FuncData
  f__law_mixed : Fun K "_law_mixed" "_law_mixed" st__law_mixed a__law_mixed d__law_mixed
  b__law_mixed : Binds K d__law_mixed ["script", "k"] []
  g__law_mixed : mg "_law_mixed" = some (.ref a__law_mixed)
  a__law_drawn : Addr
  d__law_drawn : FuncData
  f__law_drawn : Fun K "_law_drawn" "_law_drawn" st__law_drawn a__law_drawn d__law_drawn
  b__law_drawn : Binds K d__law_drawn ["number", "k"] []
  g__law_drawn : mg "_law_drawn" = some (.ref a__law_drawn)
  a__law_sum : Addr
  d__law_sum : FuncData
  f__law_sum : Fun K "_law_sum" "_law_sum" st__law_sum a__law_sum d__law_sum
  b__law_sum : Binds K d__law_sum ["number", "deep"] []
  g__law_sum : mg "_law_sum" = some (.ref a__law_sum)
  a__law_number_by : Addr
  d__law_number_by : FuncData
  f__law_number_by : Fun K "_law_number_by" "_law_number_by" st__law_number_by a__law_number_by d__law_number_by
  b__law_number_by : Binds K d__law_number_by ["here", "book"] []
  g__law_number_by : mg "_law_number_by" = some (.ref a__law_number_by)
  a__law_once : Addr
  d__law_once : FuncData
  f__law_once : Fun K "_law_once" "_law_once" st__law_once a__law_once d__law_once
  b__law_once : Binds K d__law_once ["script"] []
  g__law_once : mg "_law_once" = some (.ref a__law_once)
  a_law : Addr
  d_law : FuncData
  f_law : Fun K "law" "law" st_law a_law d_law
  b_law : Binds K d_law ["script"] []
  g_law : mg "law" = some (.ref a_law)
  z_bool : mg "bool" = none
  z_dict : mg "dict" = none
  z_int : mg "int" = none
  z_isinstance : mg "isinstance" = none
  z_len : mg "len" = none
  z_range : mg "range" = none
  z_str : mg "str" = none
  bl : ∀ (s : Shared) (v : Value), BindsTo s d_law ⟨[v], []⟩ [("script", v)]
structure Ok (P : Program) (w : World) (K : PySem.W.Frag) (cl : Nat → Addr) (mg : Str → Option Value) (base : Heap) (T : Top K mg) (k : Nat) : Prop where
  o_number_by : FnOk P w K mg base CX0 k T.a_number_by T.d_number_by ["here", "book"] (spF K cl 2 (callF k .number_by))
  o_number_of : FnOk P w K mg base CX0 k T.a_number_of T.d_number_of ["here", "held"] (spF K cl 2 (callF k .number_of))
  o__law_cell_at : FnOk P w K mg base CX0 k T.a__law_cell_at T.d__law_cell_at ["script", "k"] (spF K cl 2 (callF k ._law_cell_at))
  o__law_mixed : FnOk P w K mg base CX0 k T.a__law_mixed T.d__law_mixed ["script", "k"] (spF K cl 2 (callF k ._law_mixed))
  o__law_drawn : FnOk P w K mg base CX0 k T.a__law_drawn T.d__law_drawn ["number", "k"] (spF K cl 2 (callF k ._law_drawn))
  o__law_sum : FnOk P w K mg base CX0 k T.a__law_sum T.d__law_sum ["number", "deep"] (spF K cl 2 (callF k ._law_sum))
  o__law_number_by : FnOk P w K mg base CX0 k T.a__law_number_by T.d__law_number_by ["here", "book"] (spF K cl 2 (callF k ._law_number_by))
  o__law_once : FnOk P w K mg base CX0 k T.a__law_once T.d__law_once ["script"] (spF K cl 1 (callF k ._law_once))
  o_law : FnOk P w K mg base CX0 k T.a_law T.d_law ["script"] (spF K cl 1 (callF k .law))
section
variable {P : Program} {w : World} {K : PySem.W.Frag} {cl : Nat → Addr} {mg : Str → Option Value} {base : Heap}
theorem d_number_by (T : Top K mg) (k : Nat) (IH : Ok P w K cl mg base T k) :
    FnOk P w K mg base CX0 (k + 1) T.a_number_by T.d_number_by ["here", "book"] (spF K cl 2 (runM 4 (m_number_by (callF k)))) :=
  fn_ok (N := N_number_by) (st := st_number_by) (m := m_number_by (callF k)) T.f_number_by sc_number_by fun cdv A outer s H E H0 F0 hr =>
  (vs_cons (vs_if (vt_val (ve_isi (T := "int") (by decide) g_number_by_isinstance T.z_isinstance g_number_by_int T.z_int bt_int (ve_varB (i := 0) rfl v_number_by_here))) (vs_one (vs_ret (ve_var (i := 0) rfl v_number_by_here))) vs_nil)
  (vs_cons (vs_if (vt_val (ve_isi (T := "str") (by decide) g_number_by_isinstance T.z_isinstance g_number_by_str T.z_str bt_str (ve_varB (i := 0) rfl v_number_by_here))) (vs_one (vs_ret (ve_get (hu_of hr) (ve_varB (i := 1) rfl v_number_by_book) (ve_var (i := 0) rfl v_number_by_here) ve_int ⟨rfl, rfl, rfl, rfl⟩))) vs_nil)
  (vs_cons (vs_set (i := 2) sc_number_by.nd rfl l_number_by_one (ve_call IH.o_number_by hr g_number_by_number_by T.g_number_by T.f_number_by.kp T.b_number_by (va_cons (ve_ix (o_ix (hu_of hr)) f_ix (ve_varB (i := 0) rfl v_number_by_here) (pe_B ve_int) (fun _ _ => rfl)) (va_cons (ve_var (i := 1) rfl v_number_by_book) va_nil))))
  (vs_cons (vs_set (i := 3) sc_number_by.nd rfl l_number_by_other (ve_call IH.o_number_by hr g_number_by_number_by T.g_number_by T.f_number_by.kp T.b_number_by (va_cons (ve_ix (o_ix (hu_of hr)) f_ix (ve_varB (i := 0) rfl v_number_by_here) (pe_B ve_int) (fun _ _ => rfl)) (va_cons (ve_var (i := 1) rfl v_number_by_book) va_nil))))
  (vs_cons (vs_if (vt_cmp (op_eqD hr.units) f_eq (pe_B (ve_ix (o_ix (hu_of hr)) f_ix (ve_varB (i := 0) rfl v_number_by_here) (pe_B ve_int) (fun _ _ => rfl))) (pe_B ve_str) (nomark _)) (vs_one (vs_ret (ve_op o_add f_add (ve_varB (i := 2) rfl v_number_by_one) (ve_varB (i := 3) rfl v_number_by_other)))) vs_nil)
  (vs_cons (vs_if (vt_cmp (op_eqD hr.units) f_eq (pe_B (ve_ix (o_ix (hu_of hr)) f_ix (ve_varB (i := 0) rfl v_number_by_here) (pe_B ve_int) (fun _ _ => rfl))) (pe_B ve_str) (nomark _)) (vs_one (vs_ret (ve_op op_sub f_sub (ve_varB (i := 2) rfl v_number_by_one) (ve_varB (i := 3) rfl v_number_by_other)))) vs_nil)
  (vs_cons (vs_if (vt_cmp (op_eqD hr.units) f_eq (pe_B (ve_ix (o_ix (hu_of hr)) f_ix (ve_varB (i := 0) rfl v_number_by_here) (pe_B ve_int) (fun _ _ => rfl))) (pe_B ve_str) (nomark _)) (vs_one (vs_ret (ve_op o_mul f_mul (ve_varB (i := 2) rfl v_number_by_one) (ve_varB (i := 3) rfl v_number_by_other)))) vs_nil)
  (vs_cons (vs_if (vt_cmp (op_eqD hr.units) f_eq (pe_B (ve_ix (o_ix (hu_of hr)) f_ix (ve_varB (i := 0) rfl v_number_by_here) (pe_B ve_int) (fun _ _ => rfl))) (pe_B ve_str) (nomark _)) (vs_one (vs_ret (ve_callTy call_int1 f_int g_number_by_int T.z_int bt_int (pe_B (ve_cmp op_lt f_lt (ve_varB (i := 2) rfl v_number_by_one) (ve_varB (i := 3) rfl v_number_by_other) (nomark _)))))) vs_nil)
  (vs_one (vs_ret (ve_callTy call_int1 f_int g_number_by_int T.z_int bt_int (pe_B (ve_cmp (op_eqD hr.units) f_eq (ve_varB (i := 2) rfl v_number_by_one) (ve_varB (i := 3) rfl v_number_by_other) (nomark _))))))))))))))
theorem d_number_of (T : Top K mg) (k : Nat) (IH : Ok P w K cl mg base T k) :
    FnOk P w K mg base CX0 (k + 1) T.a_number_of T.d_number_of ["here", "held"] (spF K cl 2 (runM 2 (m_number_of (callF k)))) :=
  fn_ok (N := N_number_of) (st := st_number_of) (m := m_number_of (callF k)) T.f_number_of sc_number_of fun cdv A outer s H E H0 F0 hr =>
  (vs_one (vs_ret (ve_call IH.o_number_by hr g_number_of_number_by T.g_number_by T.f_number_by.kp T.b_number_by (va_cons (ve_var (i := 0) rfl v_number_of_here) (va_cons (ve_callTy (o_dict rfl) f_dict g_number_of_dict T.z_dict bt_dict (ve_varB (i := 1) rfl v_number_of_held)) va_nil)))))
theorem d__law_cell_at (T : Top K mg) (k : Nat) (IH : Ok P w K cl mg base T k) :
    FnOk P w K mg base CX0 (k + 1) T.a__law_cell_at T.d__law_cell_at ["script", "k"] (spF K cl 2 (runM 2 (m__law_cell_at (callF k)))) :=
  fn_ok (N := N__law_cell_at) (st := st__law_cell_at) (m := m__law_cell_at (callF k)) T.f__law_cell_at sc__law_cell_at fun cdv A outer s H E H0 F0 hr =>
  (vs_cons (vs_if (vt_cmp op_lt f_lt (ve_varB (i := 1) rfl v__law_cell_at_k) (pe_B (ve_callB o_len f_len g__law_cell_at_len T.z_len bt_len (ve_varB (i := 0) rfl v__law_cell_at_script))) (nomark _)) (vs_one (vs_ret (ve_ix (o_ix (hu_of hr)) f_ix (ve_varB (i := 0) rfl v__law_cell_at_script) (ve_varB (i := 1) rfl v__law_cell_at_k) (fun _ _ => rfl)))) vs_nil)
  (vs_one (vs_ret ve_int)))
theorem d__law_mixed (T : Top K mg) (k : Nat) (IH : Ok P w K cl mg base T k) :
    FnOk P w K mg base CX0 (k + 1) T.a__law_mixed T.d__law_mixed ["script", "k"] (spF K cl 2 (runM 3 (m__law_mixed (callF k)))) :=
  fn_ok (N := N__law_mixed) (st := st__law_mixed) (m := m__law_mixed (callF k)) T.f__law_mixed sc__law_mixed fun cdv A outer s H E H0 F0 hr =>
  (vs_cons (vs_set (i := 2) sc__law_mixed.nd rfl l__law_mixed_drawn (ve_op op_mod f_mod (pe_B (ve_op o_mul f_mul (pe_B (ve_op o_add f_add (pe_B (ve_op o_add f_add (pe_B (ve_call IH.o__law_cell_at hr g__law_mixed__law_cell_at T.g__law_cell_at T.f__law_cell_at.kp T.b__law_cell_at (va_cons (ve_var (i := 0) rfl v__law_mixed_script) (va_cons (ve_var (i := 1) rfl v__law_mixed_k) va_nil)))) (pe_B (ve_op o_mul f_mul (pe_B ve_int) (ve_varB (i := 1) rfl v__law_mixed_k))))) (pe_B ve_int))) (pe_B ve_int))) (pe_B ve_int)))
  (vs_one (vs_ret (ve_op op_mod f_mod (pe_B (ve_op o_add f_add (pe_B (ve_op o_add f_add (pe_B (ve_op o_mul f_mul (ve_varB (i := 2) rfl v__law_mixed_drawn) (ve_varB (i := 2) rfl v__law_mixed_drawn))) (pe_B (ve_op o_mul f_mul (pe_B ve_int) (ve_varB (i := 2) rfl v__law_mixed_drawn))))) (ve_varB (i := 1) rfl v__law_mixed_k))) (pe_B ve_int)))))
theorem d__law_drawn (T : Top K mg) (k : Nat) (IH : Ok P w K cl mg base T k) :
    FnOk P w K mg base CX0 (k + 1) T.a__law_drawn T.d__law_drawn ["number", "k"] (spF K cl 2 (runM 3 (m__law_drawn (callF k)))) :=
  fn_ok (N := N__law_drawn) (st := st__law_drawn) (m := m__law_drawn (callF k)) T.f__law_drawn sc__law_drawn fun cdv A outer s H E H0 F0 hr =>
  (vs_cons (vs_set (i := 2) sc__law_drawn.nd rfl l__law_drawn_drawn (ve_op op_mod f_mod (pe_B (ve_op o_mul f_mul (pe_B (ve_op o_add f_add (pe_B (ve_op o_add f_add (ve_varB (i := 0) rfl v__law_drawn_number) (pe_B (ve_op o_mul f_mul (pe_B ve_int) (ve_varB (i := 1) rfl v__law_drawn_k))))) (pe_B ve_int))) (pe_B ve_int))) (pe_B ve_int)))
  (vs_one (vs_ret (ve_op op_mod f_mod (pe_B (ve_op o_add f_add (pe_B (ve_op o_add f_add (pe_B (ve_op o_mul f_mul (ve_varB (i := 2) rfl v__law_drawn_drawn) (ve_varB (i := 2) rfl v__law_drawn_drawn))) (pe_B (ve_op o_mul f_mul (pe_B ve_int) (ve_varB (i := 2) rfl v__law_drawn_drawn))))) (ve_varB (i := 1) rfl v__law_drawn_k))) (pe_B ve_int)))))
theorem d__law_sum (T : Top K mg) (k : Nat) (IH : Ok P w K cl mg base T k) :
    FnOk P w K mg base CX0 (k + 1) T.a__law_sum T.d__law_sum ["number", "deep"] (spF K cl 2 (runM 4 (m__law_sum (callF k)))) :=
  fn_ok (N := N__law_sum) (st := st__law_sum) (m := m__law_sum (callF k)) T.f__law_sum sc__law_sum fun cdv A outer s H E H0 F0 hr =>
  (vs_cons (vs_if (PW.pt (vw_or (vt_cmp (op_eqD hr.units) f_eq (ve_varB (i := 1) rfl v__law_sum_deep) (pe_B ve_int) (nomark _)) (vw_or1 (vt_cmp (op_eqD hr.units) f_eq (pe_B (ve_op op_mod f_mod (ve_varB (i := 0) rfl v__law_sum_number) (pe_B ve_int))) (pe_B ve_int) (nomark _))))) (vs_one (vs_ret (ve_ix (o_ix (hu_of hr)) f_ix (pe_B (ve_lst (va_cons ve_str (va_cons ve_str (va_cons ve_str (va_cons ve_str (va_cons (ve_op op_sub f_sub (pe_B (ve_op op_mod f_mod (pe_B (ve_op o_div f_div (ve_varB (i := 0) rfl v__law_sum_number) (pe_B ve_int))) (pe_B ve_int))) (pe_B ve_int)) (va_cons (ve_op op_sub f_sub (pe_B (ve_op op_mod f_mod (pe_B (ve_op o_div f_div (ve_varB (i := 0) rfl v__law_sum_number) (pe_B ve_int))) (pe_B ve_int))) (pe_B ve_int)) va_nil)))))))) (pe_B (ve_op op_mod f_mod (pe_B (ve_op o_div f_div (ve_varB (i := 0) rfl v__law_sum_number) (pe_B ve_int))) (pe_B ve_int))) (fun _ _ => rfl)))) vs_nil)
  (vs_cons (vs_set (i := 2) sc__law_sum.nd rfl l__law_sum_one (ve_call IH.o__law_sum hr g__law_sum__law_sum T.g__law_sum T.f__law_sum.kp T.b__law_sum (va_cons (ve_call IH.o__law_drawn hr g__law_sum__law_drawn T.g__law_drawn T.f__law_drawn.kp T.b__law_drawn (va_cons (ve_var (i := 0) rfl v__law_sum_number) (va_cons ve_int va_nil))) (va_cons (ve_op op_sub f_sub (ve_varB (i := 1) rfl v__law_sum_deep) (pe_B ve_int)) va_nil))))
  (vs_cons (vs_set (i := 3) sc__law_sum.nd rfl l__law_sum_word (ve_ix (o_ix (hu_of hr)) f_ix (pe_B (ve_tup (va_cons ve_str (va_cons ve_str (va_cons ve_str (va_cons ve_str (va_cons ve_str va_nil))))))) (pe_B (ve_op op_mod f_mod (pe_B (ve_op o_div f_div (ve_varB (i := 0) rfl v__law_sum_number) (pe_B ve_int))) (pe_B ve_int))) (fun _ _ => rfl)))
  (vs_one (vs_ret (ve_tup (va_cons (ve_var (i := 3) rfl v__law_sum_word) (va_cons (ve_var (i := 2) rfl v__law_sum_one) (va_cons (ve_call IH.o__law_sum hr g__law_sum__law_sum T.g__law_sum T.f__law_sum.kp T.b__law_sum (va_cons (ve_call IH.o__law_drawn hr g__law_sum__law_drawn T.g__law_drawn T.f__law_drawn.kp T.b__law_drawn (va_cons (ve_var (i := 0) rfl v__law_sum_number) (va_cons ve_int va_nil))) (va_cons (ve_op op_sub f_sub (ve_varB (i := 1) rfl v__law_sum_deep) (pe_B ve_int)) va_nil))) va_nil)))))))))
theorem d__law_number_by (T : Top K mg) (k : Nat) (IH : Ok P w K cl mg base T k) :
    FnOk P w K mg base CX0 (k + 1) T.a__law_number_by T.d__law_number_by ["here", "book"] (spF K cl 2 (runM 4 (m__law_number_by (callF k)))) :=
  fn_ok (N := N__law_number_by) (st := st__law_number_by) (m := m__law_number_by (callF k)) T.f__law_number_by sc__law_number_by fun cdv A outer s H E H0 F0 hr =>
  (vs_cons (vs_if (vt_val (ve_isi (T := "int") (by decide) g__law_number_by_isinstance T.z_isinstance g__law_number_by_int T.z_int bt_int (ve_varB (i := 0) rfl v__law_number_by_here))) (vs_one (vs_ret (ve_var (i := 0) rfl v__law_number_by_here))) vs_nil)
  (vs_cons (vs_if (vt_val (ve_isi (T := "str") (by decide) g__law_number_by_isinstance T.z_isinstance g__law_number_by_str T.z_str bt_str (ve_varB (i := 0) rfl v__law_number_by_here))) (vs_one (vs_ret (ve_get (hu_of hr) (ve_varB (i := 1) rfl v__law_number_by_book) (ve_var (i := 0) rfl v__law_number_by_here) ve_int ⟨rfl, rfl, rfl, rfl⟩))) vs_nil)
  (vs_cons (vs_set (i := 2) sc__law_number_by.nd rfl l__law_number_by_one (ve_call IH.o__law_number_by hr g__law_number_by__law_number_by T.g__law_number_by T.f__law_number_by.kp T.b__law_number_by (va_cons (ve_ix (o_ix (hu_of hr)) f_ix (ve_varB (i := 0) rfl v__law_number_by_here) (pe_B ve_int) (fun _ _ => rfl)) (va_cons (ve_var (i := 1) rfl v__law_number_by_book) va_nil))))
  (vs_cons (vs_set (i := 3) sc__law_number_by.nd rfl l__law_number_by_other (ve_call IH.o__law_number_by hr g__law_number_by__law_number_by T.g__law_number_by T.f__law_number_by.kp T.b__law_number_by (va_cons (ve_ix (o_ix (hu_of hr)) f_ix (ve_varB (i := 0) rfl v__law_number_by_here) (pe_B ve_int) (fun _ _ => rfl)) (va_cons (ve_var (i := 1) rfl v__law_number_by_book) va_nil))))
  (vs_cons (vs_if (vt_cmp (op_eqD hr.units) f_eq (pe_B (ve_ix (o_ix (hu_of hr)) f_ix (ve_varB (i := 0) rfl v__law_number_by_here) (pe_B ve_int) (fun _ _ => rfl))) (pe_B ve_str) (nomark _)) (vs_one (vs_ret (ve_op o_mul f_mul (ve_varB (i := 2) rfl v__law_number_by_one) (ve_varB (i := 3) rfl v__law_number_by_other)))) vs_nil)
  (vs_cons (vs_if (vt_cmp (op_eqD hr.units) f_eq (pe_B (ve_ix (o_ix (hu_of hr)) f_ix (ve_varB (i := 0) rfl v__law_number_by_here) (pe_B ve_int) (fun _ _ => rfl))) (pe_B ve_str) (nomark _)) (vs_one (vs_ret (ve_callTy call_int1 f_int g__law_number_by_int T.z_int bt_int (pe_B (ve_cmp op_lt f_lt (ve_varB (i := 2) rfl v__law_number_by_one) (ve_varB (i := 3) rfl v__law_number_by_other) (nomark _)))))) vs_nil)
  (vs_cons (vs_if (vt_cmp (op_eqD hr.units) f_eq (pe_B (ve_ix (o_ix (hu_of hr)) f_ix (ve_varB (i := 0) rfl v__law_number_by_here) (pe_B ve_int) (fun _ _ => rfl))) (pe_B ve_str) (nomark _)) (vs_one (vs_ret (ve_callTy call_int1 f_int g__law_number_by_int T.z_int bt_int (pe_B (ve_cmp (op_eqD hr.units) f_eq (ve_varB (i := 2) rfl v__law_number_by_one) (ve_varB (i := 3) rfl v__law_number_by_other) (nomark _)))))) vs_nil)
  (vs_one (vs_ret (ve_op o_add f_add (ve_varB (i := 2) rfl v__law_number_by_one) (pe_B (ve_ix (o_ix (hu_of hr)) f_ix (pe_B (ve_lst (va_cons (ve_var (i := 3) rfl v__law_number_by_other) (va_cons (ve_un un_neg f_neg (ve_varB (i := 3) rfl v__law_number_by_other)) va_nil)))) (pe_B (ve_callTy call_int1 f_int g__law_number_by_int T.z_int bt_int (pe_B (ve_cmp (op_eqD hr.units) f_eq (pe_B (ve_ix (o_ix (hu_of hr)) f_ix (ve_varB (i := 0) rfl v__law_number_by_here) (pe_B ve_int) (fun _ _ => rfl))) (pe_B ve_str) (nomark _))))) (fun _ _ => rfl)))))))))))))
theorem d__law_once (T : Top K mg) (k : Nat) (IH : Ok P w K cl mg base T k) :
    FnOk P w K mg base CX0 (k + 1) T.a__law_once T.d__law_once ["script"] (spF K cl 1 (runM 6 (m__law_once (callF k)))) :=
  fn_ok (N := N__law_once) (st := st__law_once) (m := m__law_once (callF k)) T.f__law_once sc__law_once fun cdv A outer s H E H0 F0 hr =>
  (vs_cons (vs_set (i := 1) sc__law_once.nd rfl l__law_once_some (ve_call IH.o__law_sum hr g__law_once__law_sum T.g__law_sum T.f__law_sum.kp T.b__law_sum (va_cons (ve_call IH.o__law_mixed hr g__law_once__law_mixed T.g__law_mixed T.f__law_mixed.kp T.b__law_mixed (va_cons (ve_var (i := 0) rfl v__law_once_script) (va_cons ve_int va_nil))) (va_cons ve_int va_nil))))
  (vs_cons (vs_set (i := 2) sc__law_once.nd rfl l__law_once_held (ve_tup va_nil))
  (vs_cons (vs_for (mb := m__law_once_b0 (callF k)) PassesOwn.never rfl (vi_range1 g__law_once_range T.z_range ve_int) (vg_name (i := 3) sc__law_once.nd rfl l__law_once_k) (vs_cons (vs_set (i := 5) sc__law_once.nd rfl l__law_once_drawn (ve_call IH.o__law_mixed hr g__law_once__law_mixed T.g__law_mixed T.f__law_mixed.kp T.b__law_mixed (va_cons (ve_var (i := 0) rfl v__law_once_script) (va_cons (ve_op o_add f_add (pe_B ve_int) (ve_varB (i := 3) rfl v__law_once_k)) va_nil))))
  (vs_one (vs_if (vt_cmp op_gt f_gt (pe_B (ve_op op_mod f_mod (ve_varB (i := 5) rfl v__law_once_drawn) (pe_B ve_int))) (pe_B ve_int) (nomark _)) (vs_one (vs_set (i := 2) sc__law_once.nd rfl l__law_once_held (ve_op o_add f_add (ve_varB (i := 2) rfl v__law_once_held) (pe_B (ve_tup (va_cons (ve_tup (va_cons (ve_ix (o_ix (hu_of hr)) f_ix (pe_B ve_str) (ve_varB (i := 3) rfl v__law_once_k) (fun _ _ => rfl)) (va_cons (ve_op op_sub f_sub (pe_B (ve_op op_mod f_mod (pe_B (ve_op o_div f_div (ve_varB (i := 5) rfl v__law_once_drawn) (pe_B ve_int))) (pe_B (ve_ix (o_ix (hu_of hr)) f_ix (pe_B (ve_tup (va_cons ve_int (va_cons ve_int va_nil)))) (pe_B (ve_op op_mod f_mod (pe_B (ve_op o_div f_div (ve_varB (i := 5) rfl v__law_once_drawn) (pe_B ve_int))) (pe_B ve_int))) (fun _ _ => rfl))))) (pe_B ve_int)) va_nil))) va_nil)))))) vs_nil))))
  (vs_cons (vs_set (i := 4) sc__law_once.nd rfl l__law_once_found (ve_call IH.o_number_of hr g__law_once_number_of T.g_number_of T.f_number_of.kp T.b_number_of (va_cons (ve_var (i := 1) rfl v__law_once_some) (va_cons (ve_var (i := 2) rfl v__law_once_held) va_nil))))
  (vs_one (vs_ret (ve_and (ve_not (ve_isi (T := "bool") (by decide) g__law_once_isinstance T.z_isinstance g__law_once_bool T.z_bool bt_bool (ve_varB (i := 4) rfl v__law_once_found))) (ve_one (ve_cmp (op_eqD hr.units) f_eq (ve_varB (i := 4) rfl v__law_once_found) (pe_B (ve_call IH.o__law_number_by hr g__law_once__law_number_by T.g__law_number_by T.f__law_number_by.kp T.b__law_number_by (va_cons (ve_var (i := 1) rfl v__law_once_some) (va_cons (ve_callTy (o_dict rfl) f_dict g__law_once_dict T.z_dict bt_dict (ve_varB (i := 2) rfl v__law_once_held)) va_nil)))) (nomark _))))))))))
theorem d_law (T : Top K mg) (k : Nat) (IH : Ok P w K cl mg base T k) :
    FnOk P w K mg base CX0 (k + 1) T.a_law T.d_law ["script"] (spF K cl 1 (runM 2 (m_law (callF k)))) :=
  fn_ok (N := N_law) (st := st_law) (m := m_law (callF k)) T.f_law sc_law fun cdv A outer s H E H0 F0 hr =>
  (vs_one (vs_ret (ve_and (ve_call IH.o__law_once hr g_law__law_once T.g__law_once T.f__law_once.kp T.b__law_once (va_cons (ve_var (i := 0) rfl v_law_script) va_nil)) (ve_one (ve_call IH.o__law_once hr g_law__law_once T.g__law_once T.f__law_once.kp T.b__law_once (va_cons (ve_lc (own := [("cell", 1)]) rfl sc_law.nd (vi_any (ve_rev (ve_varB (i := 0) rfl v_law_script))) (blkOk_by (own := [("cell", 1)]) (N := N_law) (sc := defScope st_law) (by decide +kernel)) (fun _ _ _ _ _ => (vg_name (i := 1) sc_law.nd rfl (.inl (blk_local (by decide +kernel))) (.inr (blk_local (by decide +kernel))))) (by decide) (fun _ _ _ _ _ => vts_nil) (fun _ _ _ _ _ => (ve_op o_add f_add (ve_varB (i := 1) rfl (.inl (blk_local (by decide +kernel)))) (pe_B ve_int)))) va_nil))))))
theorem all_ok (T : Top K mg) : ∀ (k : Nat), Ok P w K cl mg base T k
  | 0 => ⟨ok_zero, ok_zero, ok_zero, ok_zero, ok_zero, ok_zero, ok_zero, ok_zero, ok_zero⟩
  | k + 1 => have IH := all_ok T k
    ⟨d_number_by T k IH, d_number_of T k IH, d__law_cell_at T k IH, d__law_mixed T k IH, d__law_drawn T k IH, d__law_sum T k IH, d__law_number_by T k IH, d__law_once T k IH, d_law T k IH⟩
theorem top_mk {h : Heap} (X : K.In h) (G : h.Ns mainGlobals mg) {od0 an0 : Option Addr} {sl0 : Array (Option Value)} {oc0 kV0 dc0 pm0 cd0 ct0 : Value} {f0 : Addr} {od1 an1 : Option Addr} {sl1 : Array (Option Value)} {oc1 kV1 dc1 pm1 cd1 ct1 : Value} {f1 : Addr} {od2 an2 : Option Addr} {sl2 : Array (Option Value)} {oc2 kV2 dc2 pm2 cd2 ct2 : Value} {f2 : Addr} {od3 an3 : Option Addr} {sl3 : Array (Option Value)} {oc3 kV3 dc3 pm3 cd3 ct3 : Value} {f3 : Addr} {od4 an4 : Option Addr} {sl4 : Array (Option Value)} {oc4 kV4 dc4 pm4 cd4 ct4 : Value} {f4 : Addr} {od5 an5 : Option Addr} {sl5 : Array (Option Value)} {oc5 kV5 dc5 pm5 cd5 ct5 : Value} {f5 : Addr} {od6 an6 : Option Addr} {sl6 : Array (Option Value)} {oc6 kV6 dc6 pm6 cd6 ct6 : Value} {f6 : Addr} {od7 an7 : Option Addr} {sl7 : Array (Option Value)} {oc7 kV7 dc7 pm7 cd7 ct7 : Value} {f7 : Addr} {od8 an8 : Option Addr} {sl8 : Array (Option Value)} {oc8 kV8 dc8 pm8 cd8 ct8 : Value} {f8 : Addr}
    (a0 : PySem.W.nsIn K mainGlobals "number_by" = some (some (.ref f0))) (l0 : K.lookup f0 = some ⟨oc0, od0, .func (PySem.W.fnOf "number_by" "number_by" (defArgs st_number_by) (defBody st_number_by) (defScope st_number_by) .none kV0 dc0 pm0 an0 cd0 ct0), sl0⟩) (c0 : PySem.W.codeIn K cd0 "number_by" = true) (k0 : PySem.W.keepIn K (.ref f0) = true)
    (a1 : PySem.W.nsIn K mainGlobals "number_of" = some (some (.ref f1))) (l1 : K.lookup f1 = some ⟨oc1, od1, .func (PySem.W.fnOf "number_of" "number_of" (defArgs st_number_of) (defBody st_number_of) (defScope st_number_of) .none kV1 dc1 pm1 an1 cd1 ct1), sl1⟩) (c1 : PySem.W.codeIn K cd1 "number_of" = true) (k1 : PySem.W.keepIn K (.ref f1) = true)
    (a2 : PySem.W.nsIn K mainGlobals "_law_cell_at" = some (some (.ref f2))) (l2 : K.lookup f2 = some ⟨oc2, od2, .func (PySem.W.fnOf "_law_cell_at" "_law_cell_at" (defArgs st__law_cell_at) (defBody st__law_cell_at) (defScope st__law_cell_at) .none kV2 dc2 pm2 an2 cd2 ct2), sl2⟩) (c2 : PySem.W.codeIn K cd2 "_law_cell_at" = true) (k2 : PySem.W.keepIn K (.ref f2) = true)
    (a3 : PySem.W.nsIn K mainGlobals "_law_mixed" = some (some (.ref f3))) (l3 : K.lookup f3 = some ⟨oc3, od3, .func (PySem.W.fnOf "_law_mixed" "_law_mixed" (defArgs st__law_mixed) (defBody st__law_mixed) (defScope st__law_mixed) .none kV3 dc3 pm3 an3 cd3 ct3), sl3⟩) (c3 : PySem.W.codeIn K cd3 "_law_mixed" = true) (k3 : PySem.W.keepIn K (.ref f3) = true)
    (a4 : PySem.W.nsIn K mainGlobals "_law_drawn" = some (some (.ref f4))) (l4 : K.lookup f4 = some ⟨oc4, od4, .func (PySem.W.fnOf "_law_drawn" "_law_drawn" (defArgs st__law_drawn) (defBody st__law_drawn) (defScope st__law_drawn) .none kV4 dc4 pm4 an4 cd4 ct4), sl4⟩) (c4 : PySem.W.codeIn K cd4 "_law_drawn" = true) (k4 : PySem.W.keepIn K (.ref f4) = true)
    (a5 : PySem.W.nsIn K mainGlobals "_law_sum" = some (some (.ref f5))) (l5 : K.lookup f5 = some ⟨oc5, od5, .func (PySem.W.fnOf "_law_sum" "_law_sum" (defArgs st__law_sum) (defBody st__law_sum) (defScope st__law_sum) .none kV5 dc5 pm5 an5 cd5 ct5), sl5⟩) (c5 : PySem.W.codeIn K cd5 "_law_sum" = true) (k5 : PySem.W.keepIn K (.ref f5) = true)
    (a6 : PySem.W.nsIn K mainGlobals "_law_number_by" = some (some (.ref f6))) (l6 : K.lookup f6 = some ⟨oc6, od6, .func (PySem.W.fnOf "_law_number_by" "_law_number_by" (defArgs st__law_number_by) (defBody st__law_number_by) (defScope st__law_number_by) .none kV6 dc6 pm6 an6 cd6 ct6), sl6⟩) (c6 : PySem.W.codeIn K cd6 "_law_number_by" = true) (k6 : PySem.W.keepIn K (.ref f6) = true)
    (a7 : PySem.W.nsIn K mainGlobals "_law_once" = some (some (.ref f7))) (l7 : K.lookup f7 = some ⟨oc7, od7, .func (PySem.W.fnOf "_law_once" "_law_once" (defArgs st__law_once) (defBody st__law_once) (defScope st__law_once) .none kV7 dc7 pm7 an7 cd7 ct7), sl7⟩) (c7 : PySem.W.codeIn K cd7 "_law_once" = true) (k7 : PySem.W.keepIn K (.ref f7) = true)
    (a8 : PySem.W.nsIn K mainGlobals "law" = some (some (.ref f8))) (l8 : K.lookup f8 = some ⟨oc8, od8, .func (PySem.W.fnOf "law" "law" (defArgs st_law) (defBody st_law) (defScope st_law) .none kV8 dc8 pm8 an8 cd8 ct8), sl8⟩) (c8 : PySem.W.codeIn K cd8 "law" = true) (k8 : PySem.W.keepIn K (.ref f8) = true)
    (z_bool : PySem.W.nsIn K mainGlobals "bool" = some none) (z_dict : PySem.W.nsIn K mainGlobals "dict" = some none) (z_int : PySem.W.nsIn K mainGlobals "int" = some none) (z_isinstance : PySem.W.nsIn K mainGlobals "isinstance" = some none) (z_len : PySem.W.nsIn K mainGlobals "len" = some none) (z_range : PySem.W.nsIn K mainGlobals "range" = some none) (z_str : PySem.W.nsIn K mainGlobals "str" = some none) :
    ∃ T : Top K mg, True := by
  have F0 := fun_mk (st := st_number_by) l0 c0 k0
  have b0 := F0.binds (ps := ["here", "book"]) fun _ _ _ _ _ _ us hl => match us, hl with | [_, _], _ => rfl
  have F1 := fun_mk (st := st_number_of) l1 c1 k1
  have b1 := F1.binds (ps := ["here", "held"]) fun _ _ _ _ _ _ us hl => match us, hl with | [_, _], _ => rfl
  have F2 := fun_mk (st := st__law_cell_at) l2 c2 k2
  have b2 := F2.binds (ps := ["script", "k"]) fun _ _ _ _ _ _ us hl => match us, hl with | [_, _], _ => rfl
  have F3 := fun_mk (st := st__law_mixed) l3 c3 k3
  have b3 := F3.binds (ps := ["script", "k"]) fun _ _ _ _ _ _ us hl => match us, hl with | [_, _], _ => rfl
  have F4 := fun_mk (st := st__law_drawn) l4 c4 k4
  have b4 := F4.binds (ps := ["number", "k"]) fun _ _ _ _ _ _ us hl => match us, hl with | [_, _], _ => rfl
  have F5 := fun_mk (st := st__law_sum) l5 c5 k5
  have b5 := F5.binds (ps := ["number", "deep"]) fun _ _ _ _ _ _ us hl => match us, hl with | [_, _], _ => rfl
  have F6 := fun_mk (st := st__law_number_by) l6 c6 k6
  have b6 := F6.binds (ps := ["here", "book"]) fun _ _ _ _ _ _ us hl => match us, hl with | [_, _], _ => rfl
  have F7 := fun_mk (st := st__law_once) l7 c7 k7
  have b7 := F7.binds (ps := ["script"]) fun _ _ _ _ _ _ us hl => match us, hl with | [_], _ => rfl
  have F8 := fun_mk (st := st_law) l8 c8 k8
  have b8 := F8.binds (ps := ["script"]) fun _ _ _ _ _ _ us hl => match us, hl with | [_], _ => rfl
  exact ⟨{ 
           a_number_by := f0
           d_number_by := _
           f_number_by := F0
           b_number_by := b0
           g_number_by := PySem.W.mg_of X G a0
           a_number_of := f1
           d_number_of := _
           f_number_of := F1
           b_number_of := b1
           g_number_of := PySem.W.mg_of X G a1
           a__law_cell_at := f2
           d__law_cell_at := _
           f__law_cell_at := F2
           b__law_cell_at := b2
           g__law_cell_at := PySem.W.mg_of X G a2
           a__law_mixed := f3
           d__law_mixed := _
           f__law_mixed := F3
           b__law_mixed := b3
           g__law_mixed := PySem.W.mg_of X G a3
           a__law_drawn := f4
           d__law_drawn := _
           f__law_drawn := F4
           b__law_drawn := b4
           g__law_drawn := PySem.W.mg_of X G a4
           a__law_sum := f5
           d__law_sum := _
           f__law_sum := F5
           b__law_sum := b5
           g__law_sum := PySem.W.mg_of X G a5
           a__law_number_by := f6
           d__law_number_by := _
           f__law_number_by := F6
           b__law_number_by := b6
           g__law_number_by := PySem.W.mg_of X G a6
           a__law_once := f7
           d__law_once := _
           f__law_once := F7
           b__law_once := b7
           g__law_once := PySem.W.mg_of X G a7
           a_law := f8
           d_law := _
           f_law := F8
           b_law := b8
           g_law := PySem.W.mg_of X G a8
           z_bool := PySem.W.mg_none_of X G z_bool
           z_dict := PySem.W.mg_none_of X G z_dict
           z_int := PySem.W.mg_none_of X G z_int
           z_isinstance := PySem.W.mg_none_of X G z_isinstance
           z_len := PySem.W.mg_none_of X G z_len
           z_range := PySem.W.mg_none_of X G z_range
           z_str := PySem.W.mg_none_of X G z_str
           bl := fun s v => .of_eq rfl
         }, trivial⟩
end
theorem all_mk {l : PySem.W.OpenLaw} {w : World} {K : PySem.W.Frag} (cl : Nat → Addr) (kk : Nat) {h : Heap} {mg : Str → Option Value} {fa : Addr} (hfa : mg "law" = some (.ref fa)) (E : ∃ T : Top K mg, True) :
    ∃ fd : FuncData, (∀ (s : Shared) (v : Value), BindsTo s fd ⟨[v], []⟩ [("script", v)]) ∧ ∀ base : Heap, K.In base → base.Ns mainGlobals mg → FnOk l.prog w K mg base CX0 kk fa fd ["script"] (spF K cl 1 (callF kk .law)) := by
  obtain ⟨T, _⟩ := E
  have e := hfa.symm.trans T.g_law
  cases e
  exact ⟨T.d_law, T.bl, fun base _ _ => (all_ok T kk).o_law⟩
def drw (n k : Int) : Int := (n + 104729 * k + 17) * 69621 % 2147483647
def drawn (n k : Int) : Int := (drw n k * drw n k + 3 * drw n k + k) % 2147483629
def mxd (c : Int) (k : Int) : Int := (c + 7919 * k + 1) * 48271 % 2147483647
def mixed (ns : List Int) (k : Nat) : Int := (mxd (ns.getD k 0) k * mxd (ns.getD k 0) k + 7 * mxd (ns.getD k 0) k + k) % 2147483629
theorem drw_bd (n k : Int) : 0 ≤ drw n k ∧ drw n k < 2147483647 := by unfold drw; omega
theorem mxd_bd (n k : Int) : 0 ≤ mxd n k ∧ mxd n k < 2147483647 := by unfold mxd; omega
theorem drawn_bd (n k : Int) : 0 ≤ drawn n k ∧ drawn n k < 2147483629 := by unfold drawn; omega
theorem mixed_bd (ns : List Int) (k : Nat) : 0 ≤ mixed ns k ∧ mixed ns k < 2147483629 := by unfold mixed; omega
theorem c_cell (k : Nat) (ns : List Int) (j : Nat) : callF (k + 1) ._law_cell_at [.lst (ns.map .int), .int j] = .ok (.int (ns.getD j 0)) := by
  show runM 2 (m__law_cell_at (callF k)) _ = _
  by_cases h : j < ns.length
  · have e : dIx (.lst (ns.map .int)) (.int j) = .ok (.int (ns.getD j 0)) := by simp [dIx, atI, ixN, h]
    have h' : (j : Int) < ns.length := by omega
    simp only [e_run, e_seq, e_nil, e_brk, e_cnt, e_if, e_ret, e_retN, e_set, e_for, e_test, e_not, e_and, e_or, e_notV, e_andV, e_orV, e_ifE, e_m1, e_m2, e_c, e_var, e_varB, e_evN, e_evC, e_tup, e_lst, e_call, e_items, e_yes, r_seqN, r_seqR, r_seqB, r_seqC, r_seqE, r_seqS, r_bifT, r_bifF, r_bifE, r_ret, r_retE, r_put, r_putE, r_outR, r_outN, r_outE, r_ap2, r_bol, r_neg, r_bl, r_cons, r_getv, r_getb, r_tupl, r_lstl, r_loop, view_val, Res.bind_ok, Res.bind_err, Res.bind_stuck, Res.calm_ok, List.getElem?_cons_zero, List.getElem?_cons_succ, List.set_cons_zero, List.set_cons_succ, List.map_cons, List.map_nil, List.cons_append, List.nil_append, List.append_nil, List.length_cons, List.length_nil, List.replicate_succ, List.replicate_zero, Nat.reduceSub, Nat.reduceAdd, Nat.zero_add, Nat.sub_self, dAdd_int, dSub_int, dLt_int, dLe_int, dGt_int, dGe_int, dNeg_int, dInt_bl, dInt_int, dEq_int, dNe_int, decide_true, decide_false, Bool.not_true, Bool.not_false, if_true, if_false, Bool.false_eq_true, ofS_eq, String.reduceEq, m__law_cell_at, dLen, List.length_map, h', e]
  · have e : ns.getD j 0 = 0 := by simp [List.getD, List.getElem?_eq_none (Nat.le_of_not_lt h)]
    have h' : ¬ (j : Int) < ns.length := by omega
    simp only [e_run, e_seq, e_nil, e_brk, e_cnt, e_if, e_ret, e_retN, e_set, e_for, e_test, e_not, e_and, e_or, e_notV, e_andV, e_orV, e_ifE, e_m1, e_m2, e_c, e_var, e_varB, e_evN, e_evC, e_tup, e_lst, e_call, e_items, e_yes, r_seqN, r_seqR, r_seqB, r_seqC, r_seqE, r_seqS, r_bifT, r_bifF, r_bifE, r_ret, r_retE, r_put, r_putE, r_outR, r_outN, r_outE, r_ap2, r_bol, r_neg, r_bl, r_cons, r_getv, r_getb, r_tupl, r_lstl, r_loop, view_val, Res.bind_ok, Res.bind_err, Res.bind_stuck, Res.calm_ok, List.getElem?_cons_zero, List.getElem?_cons_succ, List.set_cons_zero, List.set_cons_succ, List.map_cons, List.map_nil, List.cons_append, List.nil_append, List.append_nil, List.length_cons, List.length_nil, List.replicate_succ, List.replicate_zero, Nat.reduceSub, Nat.reduceAdd, Nat.zero_add, Nat.sub_self, dAdd_int, dSub_int, dLt_int, dLe_int, dGt_int, dGe_int, dNeg_int, dInt_bl, dInt_int, dEq_int, dNe_int, decide_true, decide_false, Bool.not_true, Bool.not_false, if_true, if_false, Bool.false_eq_true, ofS_eq, String.reduceEq, m__law_cell_at, dLen, List.length_map, h', e]
theorem mulDD (d : Int) (h1 : 0 ≤ d) (h2 : d < 2147483647) : mulOk d d = true := mulOk_left (by omega) (by omega)
theorem c_drawn (k : Nat) (n j : Int) : callF (k + 1) ._law_drawn [.int n, .int j] = .ok (.int (drawn n j)) := by
  show runM 3 (m__law_drawn (callF k)) _ = _
  have h1 : mulOk 104729 j = true := mulOk_left (by decide) (by decide)
  have h2 : mulOk (n + 104729 * j + 17) 69621 = true := mulOk_right (by decide) (by decide)
  have h3 : mulOk (drw n j) (drw n j) = true := mulDD _ (drw_bd n j).1 (drw_bd n j).2
  have h4 : mulOk 3 (drw n j) = true := mulOk_left (by decide) (by decide)
  have e1 : dMod (.int ((n + 104729 * j + 17) * 69621)) (.int 2147483647) = .ok (.int (drw n j)) := dMod_int (by decide)
  have e2 : dMod (.int (drw n j * drw n j + 3 * drw n j + j)) (.int 2147483629) = .ok (.int (drawn n j)) := dMod_int (by decide)
  simp only [e_run, e_seq, e_nil, e_brk, e_cnt, e_if, e_ret, e_retN, e_set, e_for, e_test, e_not, e_and, e_or, e_notV, e_andV, e_orV, e_ifE, e_m1, e_m2, e_c, e_var, e_varB, e_evN, e_evC, e_tup, e_lst, e_call, e_items, e_yes, r_seqN, r_seqR, r_seqB, r_seqC, r_seqE, r_seqS, r_bifT, r_bifF, r_bifE, r_ret, r_retE, r_put, r_putE, r_outR, r_outN, r_outE, r_ap2, r_bol, r_neg, r_bl, r_cons, r_getv, r_getb, r_tupl, r_lstl, r_loop, view_val, Res.bind_ok, Res.bind_err, Res.bind_stuck, Res.calm_ok, List.getElem?_cons_zero, List.getElem?_cons_succ, List.set_cons_zero, List.set_cons_succ, List.map_cons, List.map_nil, List.cons_append, List.nil_append, List.append_nil, List.length_cons, List.length_nil, List.replicate_succ, List.replicate_zero, Nat.reduceSub, Nat.reduceAdd, Nat.zero_add, Nat.sub_self, dAdd_int, dSub_int, dLt_int, dLe_int, dGt_int, dGe_int, dNeg_int, dInt_bl, dInt_int, dEq_int, dNe_int, decide_true, decide_false, Bool.not_true, Bool.not_false, if_true, if_false, Bool.false_eq_true, ofS_eq, String.reduceEq, m__law_drawn, dMul_int h1, dMul_int h2, e1, dMul_int h3, dMul_int h4, e2]
theorem c_mixed (k : Nat) (ns : List Int) (j : Nat) : callF (k + 2) ._law_mixed [.lst (ns.map .int), .int j] = .ok (.int (mixed ns j)) := by
  show runM 3 (m__law_mixed (callF (k + 1))) _ = _
  have h1 : mulOk 7919 j = true := mulOk_left (by decide) (by decide)
  have h2 : mulOk (ns.getD j 0 + 7919 * j + 1) 48271 = true := mulOk_right (by decide) (by decide)
  have h3 : mulOk (mxd (ns.getD j 0) j) (mxd (ns.getD j 0) j) = true := mulDD _ (mxd_bd _ _).1 (mxd_bd _ _).2
  have h4 : mulOk 7 (mxd (ns.getD j 0) j) = true := mulOk_left (by decide) (by decide)
  have e1 : dMod (.int ((ns.getD j 0 + 7919 * j + 1) * 48271)) (.int 2147483647) = .ok (.int (mxd (ns.getD j 0) j)) := dMod_int (by decide)
  have e2 : dMod (.int (mxd (ns.getD j 0) j * mxd (ns.getD j 0) j + 7 * mxd (ns.getD j 0) j + j)) (.int 2147483629) = .ok (.int (mixed ns j)) := dMod_int (by decide)
  simp only [e_run, e_seq, e_nil, e_brk, e_cnt, e_if, e_ret, e_retN, e_set, e_for, e_test, e_not, e_and, e_or, e_notV, e_andV, e_orV, e_ifE, e_m1, e_m2, e_c, e_var, e_varB, e_evN, e_evC, e_tup, e_lst, e_call, e_items, e_yes, r_seqN, r_seqR, r_seqB, r_seqC, r_seqE, r_seqS, r_bifT, r_bifF, r_bifE, r_ret, r_retE, r_put, r_putE, r_outR, r_outN, r_outE, r_ap2, r_bol, r_neg, r_bl, r_cons, r_getv, r_getb, r_tupl, r_lstl, r_loop, view_val, Res.bind_ok, Res.bind_err, Res.bind_stuck, Res.calm_ok, List.getElem?_cons_zero, List.getElem?_cons_succ, List.set_cons_zero, List.set_cons_succ, List.map_cons, List.map_nil, List.cons_append, List.nil_append, List.append_nil, List.length_cons, List.length_nil, List.replicate_succ, List.replicate_zero, Nat.reduceSub, Nat.reduceAdd, Nat.zero_add, Nat.sub_self, dAdd_int, dSub_int, dLt_int, dLe_int, dGt_int, dGe_int, dNeg_int, dInt_bl, dInt_int, dEq_int, dNe_int, decide_true, decide_false, Bool.not_true, Bool.not_false, if_true, if_false, Bool.false_eq_true, ofS_eq, String.reduceEq, m__law_mixed, c_cell, dMul_int h1, dMul_int h2, e1, dMul_int h3, dMul_int h4, e2]

/-- a sum -/
inductive Sm where
  | num (i : Int) | nam (x : Str) | op (w : Str) (a b : Sm)
def Sm.d : Sm → D
  | .num i => .int i
  | .nam x => .str x
  | .op w a b => .tup [.str w, a.d, b.d]
/-- the words, the names of sums -/
def isW (w : Str) : Prop := w = "plus" ∨ w = "less" ∨ w = "times" ∨ w = "under" ∨ w = "alike"
def isN (x : Str) : Prop := x = "a" ∨ x = "b" ∨ x = "c" ∨ x = "d"
/-- so deep at most -/
inductive Sm.Ok : Nat → Sm → Prop
  | num {n : Nat} {i : Int} : -50 ≤ i → i ≤ 50 → Sm.Ok n (.num i)
  | nam {n : Nat} {x : Str} : isN x → Sm.Ok n (.nam x)
  | op {n : Nat} {w : Str} {a b : Sm} : isW w → Sm.Ok n a → Sm.Ok n b → Sm.Ok (n + 1) (.op w a b)
theorem six (i : Int) (h0 : 0 ≤ i) (h1 : i < 6) : i = 0 ∨ i = 1 ∨ i = 2 ∨ i = 3 ∨ i = 4 ∨ i = 5 := by omega
theorem five (i : Int) (h0 : 0 ≤ i) (h1 : i < 5) : i = 0 ∨ i = 1 ∨ i = 2 ∨ i = 3 ∨ i = 4 := by omega
theorem c_sum_leaf (dp : Nat) (k : Nat) (n : Int) (hn : 0 ≤ n) (h : dp = 0 ∨ n % 3 = 0) : ∃ s : Sm, s.Ok dp ∧ callF (k + 1) ._law_sum [.int n, .int dp] = .ok s.d := by
  have d3 : dDiv (.int n) (.int 3) = .ok (.int (n / 3)) := dDiv_int (by decide) (by decide)
  have d9 : dDiv (.int n) (.int 9) = .ok (.int (n / 9)) := dDiv_int (by decide) (by decide)
  have m3 : dMod (.int n) (.int 3) = .ok (.int (n % 3)) := dMod_int (by decide)
  have m6 : dMod (.int (n / 3)) (.int 6) = .ok (.int (n / 3 % 6)) := dMod_int (by decide)
  have m9 : dMod (.int (n / 9)) (.int 9) = .ok (.int (n / 9 % 9)) := dMod_int (by decide)
  have m101 : dMod (.int (n / 9)) (.int 101) = .ok (.int (n / 9 % 101)) := dMod_int (by decide)
  have step : ∀ (d : D), dIx (.lst [.str "a", .str "b", .str "c", .str "d", .int (n / 9 % 9 - 4), .int (n / 9 % 101 - 50)]) (.int (n / 3 % 6)) = .ok d → callF (k + 1) ._law_sum [.int n, .int dp] = .ok d := by
    intro d hd
    show runM 4 (m__law_sum (callF k)) _ = _
    by_cases h0 : (dp : Int) = 0
    · simp only [e_run, e_seq, e_nil, e_brk, e_cnt, e_if, e_ret, e_retN, e_set, e_for, e_test, e_not, e_and, e_or, e_notV, e_andV, e_orV, e_ifE, e_m1, e_m2, e_c, e_var, e_varB, e_evN, e_evC, e_tup, e_lst, e_call, e_items, e_yes, r_seqN, r_seqR, r_seqB, r_seqC, r_seqE, r_seqS, r_bifT, r_bifF, r_bifE, r_ret, r_retE, r_put, r_putE, r_outR, r_outN, r_outE, r_ap2, r_bol, r_neg, r_bl, r_cons, r_getv, r_getb, r_tupl, r_lstl, r_loop, view_val, Res.bind_ok, Res.bind_err, Res.bind_stuck, Res.calm_ok, List.getElem?_cons_zero, List.getElem?_cons_succ, List.set_cons_zero, List.set_cons_succ, List.map_cons, List.map_nil, List.cons_append, List.nil_append, List.append_nil, List.length_cons, List.length_nil, List.replicate_succ, List.replicate_zero, Nat.reduceSub, Nat.reduceAdd, Nat.zero_add, Nat.sub_self, dAdd_int, dSub_int, dLt_int, dLe_int, dGt_int, dGe_int, dNeg_int, dInt_bl, dInt_int, dEq_int, dNe_int, decide_true, decide_false, Bool.not_true, Bool.not_false, if_true, if_false, Bool.false_eq_true, ofS_eq, String.reduceEq, m__law_sum, h0, d3, d9, m3, m6, m9, m101, hd]
    · have h3 : n % 3 = 0 := h.resolve_left (by omega)
      simp only [e_run, e_seq, e_nil, e_brk, e_cnt, e_if, e_ret, e_retN, e_set, e_for, e_test, e_not, e_and, e_or, e_notV, e_andV, e_orV, e_ifE, e_m1, e_m2, e_c, e_var, e_varB, e_evN, e_evC, e_tup, e_lst, e_call, e_items, e_yes, r_seqN, r_seqR, r_seqB, r_seqC, r_seqE, r_seqS, r_bifT, r_bifF, r_bifE, r_ret, r_retE, r_put, r_putE, r_outR, r_outN, r_outE, r_ap2, r_bol, r_neg, r_bl, r_cons, r_getv, r_getb, r_tupl, r_lstl, r_loop, view_val, Res.bind_ok, Res.bind_err, Res.bind_stuck, Res.calm_ok, List.getElem?_cons_zero, List.getElem?_cons_succ, List.set_cons_zero, List.set_cons_succ, List.map_cons, List.map_nil, List.cons_append, List.nil_append, List.append_nil, List.length_cons, List.length_nil, List.replicate_succ, List.replicate_zero, Nat.reduceSub, Nat.reduceAdd, Nat.zero_add, Nat.sub_self, dAdd_int, dSub_int, dLt_int, dLe_int, dGt_int, dGe_int, dNeg_int, dInt_bl, dInt_int, dEq_int, dNe_int, decide_true, decide_false, Bool.not_true, Bool.not_false, if_true, if_false, Bool.false_eq_true, ofS_eq, String.reduceEq, m__law_sum, h0, h3, d3, d9, m3, m6, m9, m101, hd]
  rcases six (n / 3 % 6) (by omega) (by omega) with e | e | e | e | e | e
  · exact ⟨.nam "a", .nam (.inl rfl), step _ (by rw [e]; rfl)⟩
  · exact ⟨.nam "b", .nam (.inr (.inl rfl)), step _ (by rw [e]; rfl)⟩
  · exact ⟨.nam "c", .nam (.inr (.inr (.inl rfl))), step _ (by rw [e]; rfl)⟩
  · exact ⟨.nam "d", .nam (.inr (.inr (.inr rfl))), step _ (by rw [e]; rfl)⟩
  · exact ⟨.num (n / 9 % 9 - 4), .num (by omega) (by omega), step _ (by rw [e]; rfl)⟩
  · exact ⟨.num (n / 9 % 101 - 50), .num (by omega) (by omega), step _ (by rw [e]; rfl)⟩
theorem c_sum : ∀ (dp : Nat) (k : Nat) (n : Int), 0 ≤ n → ∃ s : Sm, s.Ok dp ∧ callF (k + dp + 2) ._law_sum [.int n, .int dp] = .ok s.d := by
  intro dp
  induction dp with
  | zero => intro k n hn; exact c_sum_leaf 0 (k + 1) n hn (.inl rfl)
  | succ dp ih =>
    intro k n hn
    by_cases h3 : n % 3 = 0
    · exact c_sum_leaf (dp + 1) (k + dp + 2) n hn (.inr h3)
    · obtain ⟨a, ha, ea⟩ := ih k (drawn n 1) (drawn_bd n 1).1
      obtain ⟨b, hb, eb⟩ := ih k (drawn n 2) (drawn_bd n 2).1
      have d3 : dDiv (.int n) (.int 3) = .ok (.int (n / 3)) := dDiv_int (by decide) (by decide)
      have m3 : dMod (.int n) (.int 3) = .ok (.int (n % 3)) := dMod_int (by decide)
      have m5 : dMod (.int (n / 3)) (.int 5) = .ok (.int (n / 3 % 5)) := dMod_int (by decide)
      have step : ∀ (w : Str), dIx (.tup [.str "plus", .str "less", .str "times", .str "under", .str "alike"]) (.int (n / 3 % 5)) = .ok (.str w) → callF (k + (dp + 1) + 2) ._law_sum [.int n, .int (dp + 1 : Nat)] = .ok (Sm.op w a b).d := by
        intro w hw
        show runM 4 (m__law_sum (callF (k + dp + 2))) _ = _
        have c1 := c_drawn (k + dp + 1) n 1
        have c2 := c_drawn (k + dp + 1) n 2
        have e0 : ((dp + 1 : Nat) : Int) - 1 = dp := by omega
        have e1 : ¬ ((dp + 1 : Nat) : Int) = 0 := by omega
        simp only [e_run, e_seq, e_nil, e_brk, e_cnt, e_if, e_ret, e_retN, e_set, e_for, e_test, e_not, e_and, e_or, e_notV, e_andV, e_orV, e_ifE, e_m1, e_m2, e_c, e_var, e_varB, e_evN, e_evC, e_tup, e_lst, e_call, e_items, e_yes, r_seqN, r_seqR, r_seqB, r_seqC, r_seqE, r_seqS, r_bifT, r_bifF, r_bifE, r_ret, r_retE, r_put, r_putE, r_outR, r_outN, r_outE, r_ap2, r_bol, r_neg, r_bl, r_cons, r_getv, r_getb, r_tupl, r_lstl, r_loop, view_val, Res.bind_ok, Res.bind_err, Res.bind_stuck, Res.calm_ok, List.getElem?_cons_zero, List.getElem?_cons_succ, List.set_cons_zero, List.set_cons_succ, List.map_cons, List.map_nil, List.cons_append, List.nil_append, List.append_nil, List.length_cons, List.length_nil, List.replicate_succ, List.replicate_zero, Nat.reduceSub, Nat.reduceAdd, Nat.zero_add, Nat.sub_self, dAdd_int, dSub_int, dLt_int, dLe_int, dGt_int, dGe_int, dNeg_int, dInt_bl, dInt_int, dEq_int, dNe_int, decide_true, decide_false, Bool.not_true, Bool.not_false, if_true, if_false, Bool.false_eq_true, ofS_eq, String.reduceEq, m__law_sum, d3, m3, m5, e1, h3, c1, c2, e0, ea, eb, hw, Sm.d]
      rcases five (n / 3 % 5) (by omega) (by omega) with e | e | e | e | e
      · exact ⟨.op "plus" a b, .op (.inl rfl) ha hb, step _ (by rw [e]; rfl)⟩
      · exact ⟨.op "less" a b, .op (.inr (.inl rfl)) ha hb, step _ (by rw [e]; rfl)⟩
      · exact ⟨.op "times" a b, .op (.inr (.inr (.inl rfl))) ha hb, step _ (by rw [e]; rfl)⟩
      · exact ⟨.op "under" a b, .op (.inr (.inr (.inr (.inl rfl)))) ha hb, step _ (by rw [e]; rfl)⟩
      · exact ⟨.op "alike" a b, .op (.inr (.inr (.inr (.inr rfl)))) ha hb, step _ (by rw [e]; rfl)⟩

def b01 (b : Bool) : Int := if b then 1 else 0
def Sm.ev (bk : Str → Int) : Sm → Int
  | .num i => i
  | .nam x => bk x
  | .op w a b => if w = "plus" then a.ev bk + b.ev bk else if w = "less" then a.ev bk - b.ev bk else if w = "times" then a.ev bk * b.ev bk
    else if w = "under" then b01 (decide (a.ev bk < b.ev bk)) else b01 (decide (a.ev bk = b.ev bk))
theorem natAbs_mul_le {x y : Int} {p q : Nat} (hx : x.natAbs ≤ p) (hy : y.natAbs ≤ q) : (x * y).natAbs ≤ p * q := by
  rw [Int.natAbs_mul]; exact Nat.mul_le_mul hx hy
theorem ev_bd {bk : Str → Int} (hb : ∀ x, isN x → (bk x).natAbs ≤ 2 ^ 10) : ∀ {n : Nat} {s : Sm}, s.Ok n → (s.ev bk).natAbs ≤ 2 ^ (10 * 2 ^ n) := by
  have one : ∀ n : Nat, 2 ^ 10 ≤ 2 ^ (10 * 2 ^ n) := fun n => Nat.pow_le_pow_right (by decide) (by have := Nat.one_le_two_pow (n := n); omega)
  intro n s h
  induction h with
  | @num n i h1 h2 =>
    refine Nat.le_trans ?_ (one n)
    show i.natAbs ≤ 2 ^ 10
    have : (2 : Nat) ^ 10 = 1024 := by decide
    omega
  | @nam n x h => exact Nat.le_trans (hb x h) (one n)
  | @op n w a b hw _ _ iha ihb =>
    have e : 10 * 2 ^ (n + 1) = 10 * 2 ^ n + 10 * 2 ^ n := by rw [Nat.pow_succ]; omega
    have big : 2 * 2 ^ (10 * 2 ^ n) ≤ 2 ^ (10 * 2 ^ (n + 1)) := by
      rw [e, Nat.pow_add]
      exact Nat.mul_le_mul (Nat.le_trans (by decide) (one n)) (Nat.le_refl _)
    have o1 : 1 ≤ 2 ^ (10 * 2 ^ (n + 1)) := Nat.one_le_two_pow
    have t01 : ∀ c : Bool, (b01 c).natAbs ≤ 1 := fun c => by cases c <;> decide
    unfold Sm.ev
    split
    · exact Nat.le_trans (Int.natAbs_add_le _ _) (by omega)
    · split
      · exact Nat.le_trans (Int.natAbs_sub_le _ _) (by omega)
      · split
        · rw [e, Nat.pow_add]; exact natAbs_mul_le iha ihb
        · split
          · exact Nat.le_trans (t01 _) o1
          · exact Nat.le_trans (t01 _) o1
theorem ev_mul {bk : Str → Int} (hb : ∀ x, isN x → (bk x).natAbs ≤ 2 ^ 10) {n : Nat} {a b : Sm} (hn : n ≤ 6) (ha : a.Ok n) (hb' : b.Ok n) : mulOk (a.ev bk) (b.ev bk) = true := by
  have t : 2 ^ n ≤ 2 ^ 6 := Nat.pow_le_pow_right (by decide) hn
  have t6 : (2 : Nat) ^ 6 = 64 := by decide
  have lt : ∀ s : Sm, s.Ok n → (s.ev bk).natAbs < 2 ^ (10 * 2 ^ n + 1) := fun s h => Nat.lt_of_le_of_lt (ev_bd hb h) (Nat.pow_lt_pow_right (by decide) (by omega))
  exact mulOk_wide (lt a ha) (lt b hb') (by omega)
theorem okW {w : Str} (h : isW w) : okS w = true := by rcases h with rfl | rfl | rfl | rfl | rfl <;> decide +kernel
theorem ix0 (a b c : D) : dIx (.tup [a, b, c]) (.int 0) = .ok a := rfl
theorem ix1 (a b c : D) : dIx (.tup [a, b, c]) (.int 1) = .ok b := rfl
theorem ix2 (a b c : D) : dIx (.tup [a, b, c]) (.int 2) = .ok c := rfl
theorem isi_int (T : String) (i : Int) : dIsi T (.int i) = .ok (.bl (isiB "int" T)) := rfl
theorem isi_str (T : String) (x : Str) : dIsi T (.str x) = .ok (.bl (isiB "str" T)) := rfl
theorem isi_tup (T : String) (xs : List D) : dIsi T (.tup xs) = .ok (.bl (isiB "tuple" T)) := rfl
theorem wne1 : (decide (("plus" : Str) = "less")) = false := by decide +kernel
/-- which word it is -/
theorem wcase {w : Str} (h : isW w) : (w = "plus" ∧ w ≠ "less" ∧ w ≠ "times" ∧ w ≠ "under" ∧ w ≠ "alike") ∨ (w ≠ "plus" ∧ w = "less" ∧ w ≠ "times" ∧ w ≠ "under" ∧ w ≠ "alike") ∨ (w ≠ "plus" ∧ w ≠ "less" ∧ w = "times" ∧ w ≠ "under" ∧ w ≠ "alike") ∨
    (w ≠ "plus" ∧ w ≠ "less" ∧ w ≠ "times" ∧ w = "under" ∧ w ≠ "alike") ∨ (w ≠ "plus" ∧ w ≠ "less" ∧ w ≠ "times" ∧ w ≠ "under" ∧ w = "alike") := by
  rcases h with rfl | rfl | rfl | rfl | rfl
  · exact .inl (by decide +kernel)
  · exact .inr (.inl (by decide +kernel))
  · exact .inr (.inr (.inl (by decide +kernel)))
  · exact .inr (.inr (.inr (.inl (by decide +kernel))))
  · exact .inr (.inr (.inr (.inr (by decide +kernel))))
theorem okw_plus : okS "plus" = true := by decide +kernel
theorem okw_less : okS "less" = true := by decide +kernel
theorem okw_times : okS "times" = true := by decide +kernel
theorem okw_under : okS "under" = true := by decide +kernel
theorem okw_alike : okS "alike" = true := by decide +kernel
theorem mGet_ok {a b c : ME} {ρ : CH.Env} {kvs : List (D × D)} {x : Str} {z : D} (h1 : a ρ = .ok (.dct kvs)) (h2 : b ρ = .ok (.str x)) (h3 : c ρ = .ok z) : mGet a b c ρ = .ok ((lookD (.str x) kvs).getD z) := by
  simp [mGet, h1, h2, h3, asKey]
/-- what names hold -/
structure Bk (kvs : List (D × D)) (bk : Str → Int) : Prop where
  get : ∀ x, isN x → (lookD (.str x) kvs).getD (.int 0) = .int (bk x)
  bd : ∀ x, isN x → (bk x).natAbs ≤ 2 ^ 10
theorem c_number_by {kvs : List (D × D)} {bk : Str → Int} (B : Bk kvs bk) : ∀ {n : Nat} {s : Sm}, s.Ok n → n ≤ 7 → ∀ k, callF (k + n + 1) .number_by [s.d, .dct kvs] = .ok (.int (s.ev bk)) := by
  intro n s h
  induction h with
  | @num n i h1 h2 =>
    intro _ k
    show runM 4 (m_number_by (callF (k + n))) _ = _
    simp only [e_run, e_seq, e_nil, e_brk, e_cnt, e_if, e_ret, e_retN, e_set, e_for, e_test, e_not, e_and, e_or, e_notV, e_andV, e_orV, e_ifE, e_m1, e_m2, e_c, e_var, e_varB, e_evN, e_evC, e_tup, e_lst, e_call, e_items, e_yes, r_seqN, r_seqR, r_seqB, r_seqC, r_seqE, r_seqS, r_bifT, r_bifF, r_bifE, r_ret, r_retE, r_put, r_putE, r_outR, r_outN, r_outE, r_ap2, r_bol, r_neg, r_bl, r_cons, r_getv, r_getb, r_tupl, r_lstl, r_loop, view_val, Res.bind_ok, Res.bind_err, Res.bind_stuck, Res.calm_ok, List.getElem?_cons_zero, List.getElem?_cons_succ, List.set_cons_zero, List.set_cons_succ, List.map_cons, List.map_nil, List.cons_append, List.nil_append, List.append_nil, List.length_cons, List.length_nil, List.replicate_succ, List.replicate_zero, Nat.reduceSub, Nat.reduceAdd, Nat.zero_add, Nat.sub_self, dAdd_int, dSub_int, dLt_int, dLe_int, dGt_int, dGe_int, dNeg_int, dInt_bl, dInt_int, dEq_int, dNe_int, decide_true, decide_false, Bool.not_true, Bool.not_false, if_true, if_false, Bool.false_eq_true, ofS_eq, String.reduceEq, m_number_by, Sm.d, isi_int, show isiB "int" "int" = true from rfl, Sm.ev]
  | @nam n x h =>
    intro _ k
    show runM 4 (m_number_by (callF (k + n))) _ = _
    simp only [e_run, e_seq, e_nil, e_brk, e_cnt, e_if, e_ret, e_retN, e_set, e_for, e_test, e_not, e_and, e_or, e_notV, e_andV, e_orV, e_ifE, e_m1, e_m2, e_c, e_var, e_varB, e_evN, e_evC, e_tup, e_lst, e_call, e_items, e_yes, r_seqN, r_seqR, r_seqB, r_seqC, r_seqE, r_seqS, r_bifT, r_bifF, r_bifE, r_ret, r_retE, r_put, r_putE, r_outR, r_outN, r_outE, r_ap2, r_bol, r_neg, r_bl, r_cons, r_getv, r_getb, r_tupl, r_lstl, r_loop, view_val, Res.bind_ok, Res.bind_err, Res.bind_stuck, Res.calm_ok, List.getElem?_cons_zero, List.getElem?_cons_succ, List.set_cons_zero, List.set_cons_succ, List.map_cons, List.map_nil, List.cons_append, List.nil_append, List.append_nil, List.length_cons, List.length_nil, List.replicate_succ, List.replicate_zero, Nat.reduceSub, Nat.reduceAdd, Nat.zero_add, Nat.sub_self, dAdd_int, dSub_int, dLt_int, dLe_int, dGt_int, dGe_int, dNeg_int, dInt_bl, dInt_int, dEq_int, dNe_int, decide_true, decide_false, Bool.not_true, Bool.not_false, if_true, if_false, Bool.false_eq_true, ofS_eq, String.reduceEq, m_number_by, Sm.d, isi_str, show isiB "str" "int" = false from rfl, show isiB "str" "str" = true from rfl, Sm.ev]
    rw [mGet_ok (kvs := kvs) (x := x) (z := .int 0) rfl rfl rfl, B.get x h]
    rfl
  | @op n w a b hw ha hb iha ihb =>
    intro hn k
    show runM 4 (m_number_by (callF (k + n + 1))) _ = _
    have ea := iha (by omega) k
    have eb := ihb (by omega) k
    have hm := dMul_int (ev_mul B.bd (by omega) ha hb)
    have q1 := dEq_str (okW hw) okw_plus
    have q2 := dEq_str (okW hw) okw_less
    have q3 := dEq_str (okW hw) okw_times
    have q4 := dEq_str (okW hw) okw_under
    rcases wcase hw with ⟨h1, h2, h3, h4, h5⟩ | ⟨h1, h2, h3, h4, h5⟩ | ⟨h1, h2, h3, h4, h5⟩ | ⟨h1, h2, h3, h4, h5⟩ | ⟨h1, h2, h3, h4, h5⟩ <;>
    (simp only [h1, h2, h3, h4, h5, decide_true, decide_false, ofS_eq, String.reduceEq] at q1 q2 q3 q4
     simp only [e_run, e_seq, e_nil, e_brk, e_cnt, e_if, e_ret, e_retN, e_set, e_for, e_test, e_not, e_and, e_or, e_notV, e_andV, e_orV, e_ifE, e_m1, e_m2, e_c, e_var, e_varB, e_evN, e_evC, e_tup, e_lst, e_call, e_items, e_yes, r_seqN, r_seqR, r_seqB, r_seqC, r_seqE, r_seqS, r_bifT, r_bifF, r_bifE, r_ret, r_retE, r_put, r_putE, r_outR, r_outN, r_outE, r_ap2, r_bol, r_neg, r_bl, r_cons, r_getv, r_getb, r_tupl, r_lstl, r_loop, view_val, Res.bind_ok, Res.bind_err, Res.bind_stuck, Res.calm_ok, List.getElem?_cons_zero, List.getElem?_cons_succ, List.set_cons_zero, List.set_cons_succ, List.map_cons, List.map_nil, List.cons_append, List.nil_append, List.append_nil, List.length_cons, List.length_nil, List.replicate_succ, List.replicate_zero, Nat.reduceSub, Nat.reduceAdd, Nat.zero_add, Nat.sub_self, dAdd_int, dSub_int, dLt_int, dLe_int, dGt_int, dGe_int, dNeg_int, dInt_bl, dInt_int, dEq_int, dNe_int, decide_true, decide_false, Bool.not_true, Bool.not_false, if_true, if_false, Bool.false_eq_true, ofS_eq, String.reduceEq, m_number_by, Sm.d, isi_tup, show isiB "tuple" "int" = false from rfl, show isiB "tuple" "str" = false from rfl, ix0, ix1, ix2, ea, eb, q1, q2, q3, q4, hm, Sm.ev, h1, h2, h3, h4, h5, b01])

theorem ixl0 (a b : D) : dIx (.lst [a, b]) (.int 0) = .ok a := rfl
theorem ixl1 (a b : D) : dIx (.lst [a, b]) (.int 1) = .ok b := rfl
theorem c_law_number_by {kvs : List (D × D)} {bk : Str → Int} (B : Bk kvs bk) : ∀ {n : Nat} {s : Sm}, s.Ok n → n ≤ 7 → ∀ k, callF (k + n + 1) ._law_number_by [s.d, .dct kvs] = .ok (.int (s.ev bk)) := by
  intro n s h
  induction h with
  | @num n i h1 h2 =>
    intro _ k
    show runM 4 (m__law_number_by (callF (k + n))) _ = _
    simp only [e_run, e_seq, e_nil, e_brk, e_cnt, e_if, e_ret, e_retN, e_set, e_for, e_test, e_not, e_and, e_or, e_notV, e_andV, e_orV, e_ifE, e_m1, e_m2, e_c, e_var, e_varB, e_evN, e_evC, e_tup, e_lst, e_call, e_items, e_yes, r_seqN, r_seqR, r_seqB, r_seqC, r_seqE, r_seqS, r_bifT, r_bifF, r_bifE, r_ret, r_retE, r_put, r_putE, r_outR, r_outN, r_outE, r_ap2, r_bol, r_neg, r_bl, r_cons, r_getv, r_getb, r_tupl, r_lstl, r_loop, view_val, Res.bind_ok, Res.bind_err, Res.bind_stuck, Res.calm_ok, List.getElem?_cons_zero, List.getElem?_cons_succ, List.set_cons_zero, List.set_cons_succ, List.map_cons, List.map_nil, List.cons_append, List.nil_append, List.append_nil, List.length_cons, List.length_nil, List.replicate_succ, List.replicate_zero, Nat.reduceSub, Nat.reduceAdd, Nat.zero_add, Nat.sub_self, dAdd_int, dSub_int, dLt_int, dLe_int, dGt_int, dGe_int, dNeg_int, dInt_bl, dInt_int, dEq_int, dNe_int, decide_true, decide_false, Bool.not_true, Bool.not_false, if_true, if_false, Bool.false_eq_true, ofS_eq, String.reduceEq, m__law_number_by, Sm.d, isi_int, show isiB "int" "int" = true from rfl, Sm.ev]
  | @nam n x h =>
    intro _ k
    show runM 4 (m__law_number_by (callF (k + n))) _ = _
    simp only [e_run, e_seq, e_nil, e_brk, e_cnt, e_if, e_ret, e_retN, e_set, e_for, e_test, e_not, e_and, e_or, e_notV, e_andV, e_orV, e_ifE, e_m1, e_m2, e_c, e_var, e_varB, e_evN, e_evC, e_tup, e_lst, e_call, e_items, e_yes, r_seqN, r_seqR, r_seqB, r_seqC, r_seqE, r_seqS, r_bifT, r_bifF, r_bifE, r_ret, r_retE, r_put, r_putE, r_outR, r_outN, r_outE, r_ap2, r_bol, r_neg, r_bl, r_cons, r_getv, r_getb, r_tupl, r_lstl, r_loop, view_val, Res.bind_ok, Res.bind_err, Res.bind_stuck, Res.calm_ok, List.getElem?_cons_zero, List.getElem?_cons_succ, List.set_cons_zero, List.set_cons_succ, List.map_cons, List.map_nil, List.cons_append, List.nil_append, List.append_nil, List.length_cons, List.length_nil, List.replicate_succ, List.replicate_zero, Nat.reduceSub, Nat.reduceAdd, Nat.zero_add, Nat.sub_self, dAdd_int, dSub_int, dLt_int, dLe_int, dGt_int, dGe_int, dNeg_int, dInt_bl, dInt_int, dEq_int, dNe_int, decide_true, decide_false, Bool.not_true, Bool.not_false, if_true, if_false, Bool.false_eq_true, ofS_eq, String.reduceEq, m__law_number_by, Sm.d, isi_str, show isiB "str" "int" = false from rfl, show isiB "str" "str" = true from rfl, Sm.ev]
    rw [mGet_ok (kvs := kvs) (x := x) (z := .int 0) rfl rfl rfl, B.get x h]
    rfl
  | @op n w a b hw ha hb iha ihb =>
    intro hn k
    show runM 4 (m__law_number_by (callF (k + n + 1))) _ = _
    have ea := iha (by omega) k
    have eb := ihb (by omega) k
    have hm := dMul_int (ev_mul B.bd (by omega) ha hb)
    have q2 := dEq_str (okW hw) okw_less
    have q3 := dEq_str (okW hw) okw_times
    have q4 := dEq_str (okW hw) okw_under
    have q5 := dEq_str (okW hw) okw_alike
    rcases wcase hw with ⟨h1, h2, h3, h4, h5⟩ | ⟨h1, h2, h3, h4, h5⟩ | ⟨h1, h2, h3, h4, h5⟩ | ⟨h1, h2, h3, h4, h5⟩ | ⟨h1, h2, h3, h4, h5⟩ <;>
    (simp only [h1, h2, h3, h4, h5, decide_true, decide_false, ofS_eq, String.reduceEq] at q2 q3 q4 q5
     simp only [e_run, e_seq, e_nil, e_brk, e_cnt, e_if, e_ret, e_retN, e_set, e_for, e_test, e_not, e_and, e_or, e_notV, e_andV, e_orV, e_ifE, e_m1, e_m2, e_c, e_var, e_varB, e_evN, e_evC, e_tup, e_lst, e_call, e_items, e_yes, r_seqN, r_seqR, r_seqB, r_seqC, r_seqE, r_seqS, r_bifT, r_bifF, r_bifE, r_ret, r_retE, r_put, r_putE, r_outR, r_outN, r_outE, r_ap2, r_bol, r_neg, r_bl, r_cons, r_getv, r_getb, r_tupl, r_lstl, r_loop, view_val, Res.bind_ok, Res.bind_err, Res.bind_stuck, Res.calm_ok, List.getElem?_cons_zero, List.getElem?_cons_succ, List.set_cons_zero, List.set_cons_succ, List.map_cons, List.map_nil, List.cons_append, List.nil_append, List.append_nil, List.length_cons, List.length_nil, List.replicate_succ, List.replicate_zero, Nat.reduceSub, Nat.reduceAdd, Nat.zero_add, Nat.sub_self, dAdd_int, dSub_int, dLt_int, dLe_int, dGt_int, dGe_int, dNeg_int, dInt_bl, dInt_int, dEq_int, dNe_int, decide_true, decide_false, Bool.not_true, Bool.not_false, if_true, if_false, Bool.false_eq_true, ofS_eq, String.reduceEq, m__law_number_by, Sm.d, isi_tup, show isiB "tuple" "int" = false from rfl, show isiB "tuple" "str" = false from rfl, ix0, ix1, ix2, ixl0, ixl1, ea, eb, q2, q3, q4, q5, hm, Sm.ev, h1, h2, h3, h4, h5, b01, Int.sub_eq_add_neg])

def hD (hs : List (Str × Int)) : D := .tup (hs.map fun p => .tup [.str p.1, .int p.2])
def hOk (hs : List (Str × Int)) : Prop := hs.length ≤ 4 ∧ ∀ p ∈ hs, p.2.natAbs ≤ 2 ^ 10
theorem bk_of {hs : List (Str × Int)} (h : hOk hs) : ∃ bk, dDict (hD hs) = .ok (.dct (mergeD [] (hs.map fun p => (.str p.1, .int p.2)))) ∧ Bk (mergeD [] (hs.map fun p => (.str p.1, .int p.2))) bk := by
  have si : SI (2 ^ 10) (mergeD [] (hs.map fun p => (D.str p.1, D.int p.2))) := SI.merge (fun kv hk => by
    obtain ⟨p, hp, e⟩ := List.mem_map.mp hk
    exact ⟨p.1, p.2, e.symm, h.2 p hp⟩) (fun kv hk => by simp at hk)
  refine ⟨fun x => match (lookD (.str x) (mergeD [] (hs.map fun p => (D.str p.1, D.int p.2)))).getD (.int 0) with | .int i => i | _ => 0, ?_, ⟨fun x _ => ?_, fun x _ => ?_⟩⟩
  · simp only [hD, dDict, pairsD_map]
  · rcases si.look (.str x) with e | ⟨i, e, _⟩
    · simp [e]
    · simp [e]
  · rcases si.look (.str x) with e | ⟨i, e, hi⟩
    · simp [e]
    · simp only [e, Option.getD_some]; exact hi
theorem four (j : Int) (h0 : 0 ≤ j) (h1 : j < 4) : ∃ x : Str, dIx (.str "abcd") (.int j) = .ok (.str x) := by
  have : j = 0 ∨ j = 1 ∨ j = 2 ∨ j = 3 := by omega
  rcases this with rfl | rfl | rfl | rfl
  · exact ⟨"a", dIx_str (c := 97) (by decide +kernel) (by decide +kernel) (by decide +kernel)⟩
  · exact ⟨"b", dIx_str (c := 98) (by decide +kernel) (by decide +kernel) (by decide +kernel)⟩
  · exact ⟨"c", dIx_str (c := 99) (by decide +kernel) (by decide +kernel) (by decide +kernel)⟩
  · exact ⟨"d", dIx_str (c := 100) (by decide +kernel) (by decide +kernel) (by decide +kernel)⟩
theorem two (a b : D) (i : Int) (h0 : 0 ≤ i) (h1 : i < 2) : dIx (.tup [a, b]) (.int i) = .ok (if i = 0 then a else b) := by
  have : i = 0 ∨ i = 1 := by omega
  rcases this with rfl | rfl <;> rfl
theorem once_turn (k : Nat) (ns : List Int) (j : Nat) (hj : j < 4) (hs : List (Str × Int)) (h : hOk hs) (hl : hs.length ≤ j) (s v4 v5 : Option O) :
    ∃ hs' v5', hOk hs' ∧ hs'.length ≤ j + 1 ∧ m__law_once_b0 (callF (k + 2)) [some (.val (.lst (ns.map .int))), s, some (.val (hD hs)), some (.val (.int j)), v4, v5] = .ok (.nx [some (.val (.lst (ns.map .int))), s, some (.val (hD hs')), some (.val (.int j)), v4, v5']) := by
  have cm : callF (k + 2) ._law_mixed [.lst (ns.map .int), .int (1 + (j : Int))] = .ok (.int (mixed ns (1 + j))) := c_mixed k ns (1 + j)
  have hb := mixed_bd ns (1 + j)
  generalize mixed ns (1 + j) = dr at cm hb
  have m3 : dMod (.int dr) (.int 3) = .ok (.int (dr % 3)) := dMod_int (by decide)
  by_cases h3 : 0 < dr % 3
  · have d3 : dDiv (.int dr) (.int 3) = .ok (.int (dr / 3)) := dDiv_int (by decide) (by decide)
    have d5 : dDiv (.int dr) (.int 5) = .ok (.int (dr / 5)) := dDiv_int (by decide) (by decide)
    have m2 : dMod (.int (dr / 5)) (.int 2) = .ok (.int (dr / 5 % 2)) := dMod_int (by decide)
    have t2 := two (.int 9) (.int 1000) (dr / 5 % 2) (by omega) (by omega)
    obtain ⟨x, ex⟩ := four j (by omega) (by omega)
    obtain ⟨q, eq, hq0, hq1⟩ : ∃ q : Int, (if dr / 5 % 2 = 0 then D.int 9 else D.int 1000) = .int q ∧ 0 < q ∧ q ≤ 1000 := by
      by_cases e : dr / 5 % 2 = 0
      · exact ⟨9, by simp [e], by decide, by decide⟩
      · exact ⟨1000, by simp [e], by decide, by decide⟩
    rw [eq] at t2
    have mq : dMod (.int (dr / 3)) (.int q) = .ok (.int (dr / 3 % q)) := dMod_int hq0
    have hr1 : 0 ≤ dr / 3 % q := Int.emod_nonneg _ (by omega)
    have hr2 : dr / 3 % q < q := Int.emod_lt_of_pos _ hq0
    have ha : dAdd (hD hs) (.tup [.tup [.str x, .int (dr / 3 % q - 4)]]) = .ok (hD (hs ++ [(x, dr / 3 % q - 4)])) := by
      have hz : (hs.map fun p => D.tup [.str p.1, .int p.2]).length + [D.tup [.str x, .int (dr / 3 % q - 4)]].length ≤ sizeLine := by
        rw [List.length_map, sizeLine_eq]
        have := h.1
        simp only [List.length_cons, List.length_nil]
        omega
      simp only [hD, dAdd, if_pos hz, List.map_append, List.map_cons, List.map_nil]
    refine ⟨hs ++ [(x, dr / 3 % q - 4)], some (.val (.int dr)), ⟨by simp; omega, fun p hp => ?_⟩, by simp; omega, ?_⟩
    · rcases List.mem_append.mp hp with hp | hp
      · exact h.2 p hp
      · simp only [List.mem_singleton] at hp
        subst hp
        show (dr / 3 % q - 4).natAbs ≤ 2 ^ 10
        have : (2 : Nat) ^ 10 = 1024 := by decide
        omega
    · simp only [e_run, e_seq, e_nil, e_brk, e_cnt, e_if, e_ret, e_retN, e_set, e_for, e_test, e_not, e_and, e_or, e_notV, e_andV, e_orV, e_ifE, e_m1, e_m2, e_c, e_var, e_varB, e_evN, e_evC, e_tup, e_lst, e_call, e_items, e_yes, r_seqN, r_seqR, r_seqB, r_seqC, r_seqE, r_seqS, r_bifT, r_bifF, r_bifE, r_ret, r_retE, r_put, r_putE, r_outR, r_outN, r_outE, r_ap2, r_bol, r_neg, r_bl, r_cons, r_getv, r_getb, r_tupl, r_lstl, r_loop, view_val, Res.bind_ok, Res.bind_err, Res.bind_stuck, Res.calm_ok, List.getElem?_cons_zero, List.getElem?_cons_succ, List.set_cons_zero, List.set_cons_succ, List.map_cons, List.map_nil, List.cons_append, List.nil_append, List.append_nil, List.length_cons, List.length_nil, List.replicate_succ, List.replicate_zero, Nat.reduceSub, Nat.reduceAdd, Nat.zero_add, Nat.sub_self, dAdd_int, dSub_int, dLt_int, dLe_int, dGt_int, dGe_int, dNeg_int, dInt_bl, dInt_int, dEq_int, dNe_int, decide_true, decide_false, Bool.not_true, Bool.not_false, if_true, if_false, Bool.false_eq_true, ofS_eq, String.reduceEq, m__law_once_b0, cm, m3, h3, d3, d5, m2, t2, mq, ex, ha]
  · refine ⟨hs, some (.val (.int dr)), h, by omega, ?_⟩
    simp only [e_run, e_seq, e_nil, e_brk, e_cnt, e_if, e_ret, e_retN, e_set, e_for, e_test, e_not, e_and, e_or, e_notV, e_andV, e_orV, e_ifE, e_m1, e_m2, e_c, e_var, e_varB, e_evN, e_evC, e_tup, e_lst, e_call, e_items, e_yes, r_seqN, r_seqR, r_seqB, r_seqC, r_seqE, r_seqS, r_bifT, r_bifF, r_bifE, r_ret, r_retE, r_put, r_putE, r_outR, r_outN, r_outE, r_ap2, r_bol, r_neg, r_bl, r_cons, r_getv, r_getb, r_tupl, r_lstl, r_loop, view_val, Res.bind_ok, Res.bind_err, Res.bind_stuck, Res.calm_ok, List.getElem?_cons_zero, List.getElem?_cons_succ, List.set_cons_zero, List.set_cons_succ, List.map_cons, List.map_nil, List.cons_append, List.nil_append, List.append_nil, List.length_cons, List.length_nil, List.replicate_succ, List.replicate_zero, Nat.reduceSub, Nat.reduceAdd, Nat.zero_add, Nat.sub_self, dAdd_int, dSub_int, dLt_int, dLe_int, dGt_int, dGe_int, dNeg_int, dInt_bl, dInt_int, dEq_int, dNe_int, decide_true, decide_false, Bool.not_true, Bool.not_false, if_true, if_false, Bool.false_eq_true, ofS_eq, String.reduceEq, m__law_once_b0, cm, m3, h3]
theorem c_once (k : Nat) (ns : List Int) : callF (k + 12) ._law_once [.lst (ns.map .int)] = .ok (.bl true) := by
  show runM 6 (m__law_once (callF (k + 11))) _ = _
  have cm : callF (k + 11) ._law_mixed [.lst (ns.map .int), .int 0] = .ok (.int (mixed ns 0)) := c_mixed (k + 9) ns 0
  obtain ⟨s, hs, es⟩ := c_sum 6 (k + 3) (mixed ns 0) (mixed_bd ns 0).1
  have es : callF (k + 11) ._law_sum [.int (mixed ns 0), .int 6] = .ok s.d := es
  have r4 : rangeD 0 (Int.toNat 4) = [.int 0, .int 1, .int 2, .int 3] := rfl
  have er : mRange1 (mC (.int 4)) = fun ρ => .ok [.int 0, .int 1, .int 2, .int 3] := by
    funext ρ
    rw [e_rng1 (j := 4) rfl (by decide) (by decide), r4]
  obtain ⟨h1, w1, o1, l1, e1⟩ := once_turn (k + 9) ns 0 (by decide) [] ⟨by decide, fun p hp => by simp at hp⟩ (by decide) (some (.val s.d)) none none
  obtain ⟨h2, w2, o2, l2, e2⟩ := once_turn (k + 9) ns 1 (by decide) h1 o1 l1 (some (.val s.d)) none w1
  obtain ⟨h3, w3, o3, l3, e3⟩ := once_turn (k + 9) ns 2 (by decide) h2 o2 l2 (some (.val s.d)) none w2
  obtain ⟨h4, w4, o4, l4, e4⟩ := once_turn (k + 9) ns 3 (by decide) h3 o3 l3 (some (.val s.d)) none w3
  obtain ⟨bk, ed, B⟩ := bk_of o4
  have n1 := c_number_by B hs (by decide) (k + 3)
  have n2 : callF (k + 11) .number_of [s.d, hD h4] = .ok (.int (s.ev bk)) := by
    show runM 2 (m_number_of (callF (k + 10))) _ = _
    simp only [e_run, e_seq, e_nil, e_brk, e_cnt, e_if, e_ret, e_retN, e_set, e_for, e_test, e_not, e_and, e_or, e_notV, e_andV, e_orV, e_ifE, e_m1, e_m2, e_c, e_var, e_varB, e_evN, e_evC, e_tup, e_lst, e_call, e_items, e_yes, r_seqN, r_seqR, r_seqB, r_seqC, r_seqE, r_seqS, r_bifT, r_bifF, r_bifE, r_ret, r_retE, r_put, r_putE, r_outR, r_outN, r_outE, r_ap2, r_bol, r_neg, r_bl, r_cons, r_getv, r_getb, r_tupl, r_lstl, r_loop, view_val, Res.bind_ok, Res.bind_err, Res.bind_stuck, Res.calm_ok, List.getElem?_cons_zero, List.getElem?_cons_succ, List.set_cons_zero, List.set_cons_succ, List.map_cons, List.map_nil, List.cons_append, List.nil_append, List.append_nil, List.length_cons, List.length_nil, List.replicate_succ, List.replicate_zero, Nat.reduceSub, Nat.reduceAdd, Nat.zero_add, Nat.sub_self, dAdd_int, dSub_int, dLt_int, dLe_int, dGt_int, dGe_int, dNeg_int, dInt_bl, dInt_int, dEq_int, dNe_int, decide_true, decide_false, Bool.not_true, Bool.not_false, if_true, if_false, Bool.false_eq_true, ofS_eq, String.reduceEq, m_number_of, ed, n1]
  have n3 := c_law_number_by B hs (by decide) (k + 4)
  have lp : forM (bName 3) (m__law_once_b0 (callF (k + 11))) [.int 0, .int 1, .int 2, .int 3] [some (.val (.lst (ns.map .int))), some (.val s.d), some (.val (.tup [])), none, none, none] = .ok (.nx [some (.val (.lst (ns.map .int))), some (.val s.d), some (.val (hD h4)), some (.val (.int 3)), none, w4]) := by
    rw [for_name e1, for_name e2, for_name e3, for_name e4]
    rfl
  simp only [e_run, e_seq, e_nil, e_brk, e_cnt, e_if, e_ret, e_retN, e_set, e_for, e_test, e_not, e_and, e_or, e_notV, e_andV, e_orV, e_ifE, e_m1, e_m2, e_c, e_var, e_varB, e_evN, e_evC, e_tup, e_lst, e_call, e_items, e_yes, r_seqN, r_seqR, r_seqB, r_seqC, r_seqE, r_seqS, r_bifT, r_bifF, r_bifE, r_ret, r_retE, r_put, r_putE, r_outR, r_outN, r_outE, r_ap2, r_bol, r_neg, r_bl, r_cons, r_getv, r_getb, r_tupl, r_lstl, r_loop, view_val, Res.bind_ok, Res.bind_err, Res.bind_stuck, Res.calm_ok, List.getElem?_cons_zero, List.getElem?_cons_succ, List.set_cons_zero, List.set_cons_succ, List.map_cons, List.map_nil, List.cons_append, List.nil_append, List.append_nil, List.length_cons, List.length_nil, List.replicate_succ, List.replicate_zero, Nat.reduceSub, Nat.reduceAdd, Nat.zero_add, Nat.sub_self, dAdd_int, dSub_int, dLt_int, dLe_int, dGt_int, dGe_int, dNeg_int, dInt_bl, dInt_int, dEq_int, dNe_int, decide_true, decide_false, Bool.not_true, Bool.not_false, if_true, if_false, Bool.false_eq_true, ofS_eq, String.reduceEq, m__law_once, cm, es, er, lp, n2, isi_int, show isiB "int" "bool" = false from rfl, ed, n3]
theorem law_true : ∀ ns : List Int, ns.length ≤ 63 → callF 13 .law [.lst (ns.map D.int)] = .ok (.bl true) := by
  intro ns hl
  show runM 2 (m_law (callF 12)) _ = _
  have c1 := c_once 0 ns
  have c2 := c_once 0 (ns.reverse.map (· + 1))
  have hr : dRev (.lst (ns.map D.int)) = .ok (.lst (ns.reverse.map D.int)) := by simp [dRev]
  have lc : ∀ ρ : CH.Env, ρ = [some (.val (.lst (ns.map D.int))), none] → mLc (mItems (m1 dRev (mVarB 0))) (bName 1) mYes (m2 dAdd (mVarB 1) (mC (.int 1))) [1] ρ = .ok (.lst ((ns.reverse.map (· + 1)).map D.int)) := by
    intro ρ e
    subst e
    rw [mLc_map (xs := ns.reverse.map D.int) (f := fun d => match d with | .int i => .int (i + 1) | d => d)]
    · simp
    · simp only [e_run, e_seq, e_nil, e_brk, e_cnt, e_if, e_ret, e_retN, e_set, e_for, e_test, e_not, e_and, e_or, e_notV, e_andV, e_orV, e_ifE, e_m1, e_m2, e_c, e_var, e_varB, e_evN, e_evC, e_tup, e_lst, e_call, e_items, e_yes, r_seqN, r_seqR, r_seqB, r_seqC, r_seqE, r_seqS, r_bifT, r_bifF, r_bifE, r_ret, r_retE, r_put, r_putE, r_outR, r_outN, r_outE, r_ap2, r_bol, r_neg, r_bl, r_cons, r_getv, r_getb, r_tupl, r_lstl, r_loop, view_val, Res.bind_ok, Res.bind_err, Res.bind_stuck, Res.calm_ok, List.getElem?_cons_zero, List.getElem?_cons_succ, List.set_cons_zero, List.set_cons_succ, List.map_cons, List.map_nil, List.cons_append, List.nil_append, List.append_nil, List.length_cons, List.length_nil, List.replicate_succ, List.replicate_zero, Nat.reduceSub, Nat.reduceAdd, Nat.zero_add, Nat.sub_self, dAdd_int, dSub_int, dLt_int, dLe_int, dGt_int, dGe_int, dNeg_int, dInt_bl, dInt_int, dEq_int, dNe_int, decide_true, decide_false, Bool.not_true, Bool.not_false, if_true, if_false, Bool.false_eq_true, ofS_eq, String.reduceEq, hr, dItems]
    · rw [List.length_map, List.length_reverse, sizeLine_eq]; omega
    · intro x hx
      obtain ⟨i, hi, rfl⟩ := List.mem_map.mp hx
      simp only [e_run, e_seq, e_nil, e_brk, e_cnt, e_if, e_ret, e_retN, e_set, e_for, e_test, e_not, e_and, e_or, e_notV, e_andV, e_orV, e_ifE, e_m1, e_m2, e_c, e_var, e_varB, e_evN, e_evC, e_tup, e_lst, e_call, e_items, e_yes, r_seqN, r_seqR, r_seqB, r_seqC, r_seqE, r_seqS, r_bifT, r_bifF, r_bifE, r_ret, r_retE, r_put, r_putE, r_outR, r_outN, r_outE, r_ap2, r_bol, r_neg, r_bl, r_cons, r_getv, r_getb, r_tupl, r_lstl, r_loop, view_val, Res.bind_ok, Res.bind_err, Res.bind_stuck, Res.calm_ok, List.getElem?_cons_zero, List.getElem?_cons_succ, List.set_cons_zero, List.set_cons_succ, List.map_cons, List.map_nil, List.cons_append, List.nil_append, List.append_nil, List.length_cons, List.length_nil, List.replicate_succ, List.replicate_zero, Nat.reduceSub, Nat.reduceAdd, Nat.zero_add, Nat.sub_self, dAdd_int, dSub_int, dLt_int, dLe_int, dGt_int, dGe_int, dNeg_int, dInt_bl, dInt_int, dEq_int, dNe_int, decide_true, decide_false, Bool.not_true, Bool.not_false, if_true, if_false, Bool.false_eq_true, ofS_eq, String.reduceEq, wipeE]
  simp only [e_run, e_seq, e_nil, e_brk, e_cnt, e_if, e_ret, e_retN, e_set, e_for, e_test, e_not, e_and, e_or, e_notV, e_andV, e_orV, e_ifE, e_m1, e_m2, e_c, e_var, e_varB, e_evN, e_evC, e_tup, e_lst, e_call, e_items, e_yes, r_seqN, r_seqR, r_seqB, r_seqC, r_seqE, r_seqS, r_bifT, r_bifF, r_bifE, r_ret, r_retE, r_put, r_putE, r_outR, r_outN, r_outE, r_ap2, r_bol, r_neg, r_bl, r_cons, r_getv, r_getb, r_tupl, r_lstl, r_loop, view_val, Res.bind_ok, Res.bind_err, Res.bind_stuck, Res.calm_ok, List.getElem?_cons_zero, List.getElem?_cons_succ, List.set_cons_zero, List.set_cons_succ, List.map_cons, List.map_nil, List.cons_append, List.nil_append, List.append_nil, List.length_cons, List.length_nil, List.replicate_succ, List.replicate_zero, Nat.reduceSub, Nat.reduceAdd, Nat.zero_add, Nat.sub_self, dAdd_int, dSub_int, dLt_int, dLe_int, dGt_int, dGe_int, dNeg_int, dInt_bl, dInt_int, dEq_int, dNe_int, decide_true, decide_false, Bool.not_true, Bool.not_false, if_true, if_false, Bool.false_eq_true, ofS_eq, String.reduceEq, m_law, c1, lc _ rfl, c2]
abbrev kk : Nat := 13
/-- the law's promise, from what it computes -/
theorem law_end {K : PySem.W.Frag} (cl : Nat → Addr) (kk : Nat) (h : ∀ ns : List Int, ns.length ≤ 63 → callF kk .law [.lst (ns.map D.int)] = .ok (.bl true)) (H : Hp) (a : Addr) (ns : List Int) (hl : ns.length ≤ 63) (hO : Only H) (hS : SqL K H a (ns.map V.int)) :
    spF K cl 1 (callF kk .law) [.ref a] H (fun v _ => v = .bl true) fun _ _ _ => False := by
  refine ⟨rfl, H, [.lst (ns.map D.int)], Same.refl H, fun a u e _ => e, .cons (.lst hS (reps_int ns)) .nil, ?_⟩
  rw [h ns hl]
  intro F' H' v g r
  cases r
  rfl
end K02
open PySem PySem.W PyProof.Rows
set_option maxHeartbeats 0 in
theorem PySem.Challenge.cw_closedhand_k02_sums_holds : PySem.Challenge.rw_closedhand_k02_sums.Holds := by
  w_on; o_law; k_head; (case hw => w_witness2)
  k_fill
  refine L2.walk_ofK (l := PySem.Challenge.rw_closedhand_k02_sums) (n := 63) (k := K02.kk) (x := "script") (CX := L2.CX0) (sp := fun K => CH.spF K (fun _ => 0) 1 (K02.callF K02.kk .law)) rfl (by decide) rfl ⟨rfl, by decide, by decide⟩ (fun w h Y => PySem.W.kIn_of Y) ?F (fun K H a ns hl hO hS => K02.law_end (fun _ => 0) K02.kk K02.law_true H a ns hl hO hS) (fun _ _ _ _ h => h)
  case F =>
    intro w mg fa h KX G hmg
    refine K02.all_mk (h := h) (fun _ => 0) K02.kk hmg ?E
    refine' K02.top_mk KX G ?a0 ?l0 ?c0 ?k0 ?a1 ?l1 ?c1 ?k1 ?a2 ?l2 ?c2 ?k2 ?a3 ?l3 ?c3 ?k3 ?a4 ?l4 ?c4 ?k4 ?a5 ?l5 ?c5 ?k5 ?a6 ?l6 ?c6 ?k6 ?a7 ?l7 ?c7 ?k7 ?a8 ?l8 ?c8 ?k8 ?z_bool ?z_dict ?z_int ?z_isinstance ?z_len ?z_range ?z_str
    (case a0 => k_is); (case l0 => k_is); (case c0 => k_is); (case k0 => k_is); (case a1 => k_is); (case l1 => k_is); (case c1 => k_is); (case k1 => k_is); (case a2 => k_is); (case l2 => k_is); (case c2 => k_is); (case k2 => k_is); (case a3 => k_is); (case l3 => k_is); (case c3 => k_is); (case k3 => k_is); (case a4 => k_is); (case l4 => k_is); (case c4 => k_is); (case k4 => k_is); (case a5 => k_is); (case l5 => k_is); (case c5 => k_is); (case k5 => k_is); (case a6 => k_is); (case l6 => k_is); (case c6 => k_is); (case k6 => k_is); (case a7 => k_is); (case l7 => k_is); (case c7 => k_is); (case k7 => k_is); (case a8 => k_is); (case l8 => k_is); (case c8 => k_is); (case k8 => k_is); (case z_bool => k_is); (case z_dict => k_is); (case z_int => k_is); (case z_isinstance => k_is); (case z_len => k_is); (case z_range => k_is); (case z_str => k_is)

